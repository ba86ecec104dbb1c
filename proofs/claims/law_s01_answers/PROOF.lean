import PyProof.Rows.All
import Wide.All
import OpenK.AllK
import Wide.FinOn
import PyProof.EqAt
import PyProof.EqKinds
import PyProof.TupleCall
import Open.SpecLaws
import KE.OsGo
import HandS.ForSpec
import HandS.Comp
import HandS.Iter
import HandS.Flow
import HandS.Style
import HandS.NoneIn
import HandS.ExcInit
import HandS.ExcField
import HandS.SortInts
import PySem.Challenge.RW_keepslots_s01_answers
set_option Elab.async false
set_option linter.all false
/-! Mirrors of the program's plain functions (offline part), in plain Lean. -/
namespace Ks
def nxt (s : List Nat) (i k : Nat) : Nat := if Vakptc.nextUse (s.drop (i + 1)) k < (s.drop (i + 1)).length then i + 1 + Vakptc.nextUse (s.drop (i + 1)) k else 1000
def farStep (s : List Nat) (i : Nat) (b : Nat × Nat) (k : Nat) : Nat × Nat := if b.2 < nxt s i k ∨ (nxt s i k = b.2 ∧ k < b.1) then (k, nxt s i k) else b
def farK (s : List Nat) (i : Nat) : List Nat → Nat
  | [] => 0
  | c :: r => (r.foldl (farStep s i) (c, nxt s i c)).1
def other (c : List Nat) (k : Nat) : List Nat := c.filter fun x => x != k
def needs (cap : Nat) (c : List Nat) (k : Nat) : Bool := decide (0 < cap) && ((!c.contains k) && decide (c.length = cap))
def withKey (cap : Nat) (c : List Nat) (k : Nat) : List Nat := if c.contains k = true ∨ cap = 0 then c else c ++ [k]
/-- misses, gone, cached -/
def belStep (cap : Nat) (s : List Nat) (i k : Nat) (st : Nat × List Nat × List Nat) : Nat × List Nat × List Nat :=
  if needs cap st.2.2 k = true then ((if st.2.2.contains k = true then st.1 else st.1 + 1), st.2.1 ++ [farK s i st.2.2], withKey cap (other st.2.2 (farK s i st.2.2)) k)
  else ((if st.2.2.contains k = true then st.1 else st.1 + 1), st.2.1, withKey cap st.2.2 k)
def belIt (cap : Nat) (s : List Nat) (a : Nat) (c : List Nat) : Nat → Nat × List Nat × List Nat
  | 0 => (0, [], c)
  | n + 1 => belStep cap s (a + n) (s.getD (a + n) 0) (belIt cap s a c n)
def bel (cap : Nat) (s : List Nat) (a : Nat) (c : List Nat) : Nat × List Nat := ((belIt cap s a c (s.length - a)).1, (belIt cap s a c (s.length - a)).2.1)
def srt (c : List Nat) : List Nat := c.foldr Vakptc.insertSorted []
def leastCost (cap : Nat) (s : List Nat) (i k : Nat) (c : List Nat) (v : Nat) : Nat := (bel cap s (i + 1) (other c v ++ [k])).1
def leastStep (f : Nat → Nat) (b : Option Nat × Nat) (v : Nat) : Option Nat × Nat := if b.1 = none ∨ f v < b.2 then (some v, f v) else b
def leastV (cap : Nat) (s : List Nat) (i k : Nat) (c : List Nat) : Nat := ((srt c).foldl (leastStep (leastCost cap s i k c)) (none, 0)).1.getD 0
/-- gone, cached -/
def optStep (cap : Nat) (s : List Nat) (i k : Nat) (st : List Nat × List Nat) : List Nat × List Nat :=
  if needs cap st.2 k = true then (st.1 ++ [leastV cap s i k st.2], withKey cap (other st.2 (leastV cap s i k st.2)) k) else (st.1, withKey cap st.2 k)
def optIt (cap : Nat) (s : List Nat) : Nat → List Nat × List Nat
  | 0 => ([], [])
  | n + 1 => optStep cap s n (s.getD n 0) (optIt cap s n)
def optE (cap : Nat) (s : List Nat) : List Nat := (optIt cap s s.length).1
/-- at, cached, misses, the evictions left, the accesses left -/
def repF (cap : Nat) : Nat → List Nat → Nat → List Nat → List Nat → Bool × Nat
  | i, _, m, es, [] => if es = [] then (true, m) else (false, i)
  | i, c, m, es, k :: r =>
    if needs cap c k = true then match es with
      | [] => (false, i)
      | e :: es' => if c.contains e = true then repF cap (i + 1) (withKey cap (other c e) k) (if c.contains k = true then m else m + 1) es' r else (false, i)
    else repF cap (i + 1) (withKey cap c k) (if c.contains k = true then m else m + 1) es r
/-- starts, met -/
def phStep (cap i k : Nat) (st : List Nat × List Nat) : List Nat × List Nat :=
  if st.1 = [] ∨ (st.2.contains k = false ∧ st.2.length = cap) then (st.1 ++ [i], [k]) else if st.2.contains k = false then (st.1, st.2 ++ [k]) else st
def phIt (cap : Nat) (s : List Nat) : Nat → List Nat × List Nat
  | 0 => ([], [])
  | n + 1 => phStep cap n (s.getD n 0) (phIt cap s n)
def anomF : Nat → Vakptc.Cache → Vakptc.Cache → List Nat → Option (Nat × Nat × Nat)
  | _, _, _, [] => none
  | i, a, b, k :: r => if (Vakptc.access a k).1.misses < (Vakptc.access b k).1.misses then some (i + 1, (Vakptc.access a k).1.misses, (Vakptc.access b k).1.misses) else anomF (i + 1) (Vakptc.access a k).1 (Vakptc.access b k).1 r
abbrev Row := List Nat × List Vakptc.Cache
def rowKey (r : Row) (k : Nat) : Row := (r.1 ++ [k], r.2.map fun c => (Vakptc.access c k).1)
def longer (kb : Nat) (rows : List Row) : List Row := rows.flatMap fun r => (List.range kb).map (rowKey r)
def allRows (cs : List Vakptc.Cache) (kb : Nat) : Nat → List Row
  | 0 => [([], cs)]
  | n + 1 => longer kb (allRows cs kb n)
abbrev Row3 := List Nat × Nat × Nat
def grStep (b r : Row3) : Row3 := if (b.2.1 : Int) - (b.2.2 : Int) < (r.2.1 : Int) - (r.2.2 : Int) then r else b
def greatest : List Row3 → Row3
  | [] => ([], 0, 0)
  | b :: r => r.foldl grStep b
def sepRow (r : Row) : Row3 := (r.1, (r.2.getD 0 (Vakptc.emptyCache 0 0)).misses, (r.2.getD 1 (Vakptc.emptyCache 0 0)).misses)
def separating (p q cap kb n : Nat) : Row3 := greatest ((allRows [Vakptc.emptyCache cap p, Vakptc.emptyCache cap q] kb n).map sepRow)
def worRow (cap : Nat) (r : Row) : Row3 := (r.1, (r.2.getD 0 (Vakptc.emptyCache 0 0)).misses, (bel cap r.1 0 []).1)
def worsting (p cap kb n : Nat) : Row3 := greatest ((allRows [Vakptc.emptyCache cap p] kb n).map (worRow cap))
end Ks
namespace Ks
open Vakptc (nextUse)
/-! ### costs of runs from a full cache, over sets as predicates -/
def swp (S : Nat → Prop) (v k : Nat) : Nat → Prop := fun z => z = k ∨ (S z ∧ z ≠ v)
inductive Cost : (Nat → Prop) → List Nat → Nat → Prop where
  | nil (S) : Cost S [] 0
  | hit {S k r m} : S k → Cost S r m → Cost S (k :: r) m
  | miss {S k v r m} : ¬ S k → S v → Cost (swp S v k) r m → Cost S (k :: r) (m + 1)
theorem next_cons (k : Nat) (r : List Nat) (x : Nat) : nextUse (k :: r) x = if k = x then 0 else nextUse r x + 1 := by
  unfold nextUse
  rw [List.findIdx_cons]
  by_cases h : k = x
  · simp [h]
  · have e : (k == x) = false := by simpa using h
    simp [e, h]
theorem swp_back {T : Nat → Prop} {x y : Nat} (hy : T y) (hx : ¬ T x) : swp (swp T y x) x y = T := by
  funext z
  apply propext
  unfold swp
  constructor
  · rintro (rfl | ⟨rfl | ⟨h, _⟩, h2⟩)
    · exact hy
    · exact absurd rfl h2
    · exact h
  · intro h
    by_cases e : z = y
    · exact .inl e
    · exact .inr ⟨.inr ⟨h, e⟩, fun e2 => hx (e2 ▸ h)⟩
theorem swp_two {T : Nat → Prop} {x y v : Nat} (hy : T y) (hv : T v) (hx : ¬ T x) (hvy : v ≠ y) : swp (swp T v x) y v = swp T y x := by
  have hxy : x ≠ y := fun e => hx (e ▸ hy)
  funext z
  apply propext
  unfold swp
  constructor
  · rintro (rfl | ⟨rfl | ⟨h, h2⟩, h3⟩)
    · exact .inr ⟨hv, hvy⟩
    · exact .inl rfl
    · exact .inr ⟨h, h3⟩
  · rintro (rfl | ⟨h, h2⟩)
    · by_cases e : z = v
      · exact .inl e
      · exact .inr ⟨.inl rfl, hxy⟩
    · by_cases e : z = v
      · exact .inl e
      · exact .inr ⟨.inr ⟨h, e⟩, h2⟩
theorem swp_thr {T : Nat → Prop} {x y k : Nat} (hx : ¬ T x) (hkx : k ≠ x) : swp (swp T y x) x k = swp T y k := by
  funext z
  apply propext
  unfold swp
  constructor
  · rintro (rfl | ⟨rfl | ⟨h, h2⟩, h3⟩)
    · exact .inl rfl
    · exact absurd rfl h3
    · exact .inr ⟨h, h2⟩
  · rintro (rfl | ⟨h, h2⟩)
    · exact .inl rfl
    · exact .inr ⟨.inr ⟨h, h2⟩, fun e => hx (e ▸ h)⟩
theorem swp_comm {T : Nat → Prop} {x y v k : Nat} (hky : k ≠ y) (hxv : x ≠ v) : swp (swp T y x) v k = swp (swp T v k) y x := by
  funext z
  apply propext
  unfold swp
  constructor
  · rintro (rfl | ⟨rfl | ⟨h, h2⟩, h3⟩)
    · exact .inr ⟨.inl rfl, hky⟩
    · exact .inl rfl
    · exact .inr ⟨.inr ⟨h, h3⟩, h2⟩
  · rintro (rfl | ⟨rfl | ⟨h, h2⟩, h3⟩)
    · exact .inr ⟨.inl rfl, hxv⟩
    · exact .inl rfl
    · exact .inr ⟨.inr ⟨h, h3⟩, h2⟩
/-- one element replaced costs at most one more -/
theorem cost_near {T : Nat → Prop} {r : List Nat} {m : Nat} (h : Cost T r m) : ∀ {x y : Nat}, T y → ¬ T x → ∃ m', m' ≤ m + 1 ∧ Cost (swp T y x) r m' := by
  induction h with
  | nil S => exact fun _ _ => ⟨0, Nat.zero_le _, .nil _⟩
  | @hit T k r m hk hc ih =>
    intro x y hy hx
    have hxy : x ≠ y := fun e => hx (e ▸ hy)
    by_cases e : k = y
    · subst e
      refine ⟨m + 1, Nat.le_refl _, .miss (v := x) (fun q => ?_) (.inl rfl) ?_⟩
      · rcases q with q | ⟨_, q⟩
        · exact hxy q.symm
        · exact q rfl
      · rw [swp_back hy hx]
        exact hc
    · obtain ⟨m', l, c⟩ := ih hy hx
      exact ⟨m', l, .hit (.inr ⟨hk, e⟩) c⟩
  | @miss T k v r m hk hv hc ih =>
    intro x y hy hx
    have hky : k ≠ y := fun e => hk (e ▸ hy)
    have hxv : x ≠ v := fun e => hx (e ▸ hv)
    by_cases e : k = x
    · subst e
      by_cases ev : v = y
      · subst ev
        exact ⟨m, by omega, .hit (.inl rfl) hc⟩
      · obtain ⟨m', l, c⟩ := ih (x := v) (y := y) (.inr ⟨hy, fun q => ev q.symm⟩) (fun q => by
          rcases q with q | ⟨_, q⟩
          · exact hxv q.symm
          · exact q rfl)
        rw [swp_two hy hv hx ev] at c
        exact ⟨m', by omega, .hit (.inl rfl) c⟩
    · have hmiss : ¬ swp T y x k := fun q => by
        rcases q with q | ⟨q, _⟩
        · exact e q
        · exact hk q
      by_cases ev : v = y
      · subst ev
        refine ⟨m + 1, by omega, .miss (v := x) hmiss (.inl rfl) ?_⟩
        rw [swp_thr hx e]
        exact hc
      · obtain ⟨m', l, c⟩ := ih (x := x) (y := y) (.inr ⟨hy, fun q => ev q.symm⟩) (fun q => by
          rcases q with q | ⟨q, _⟩
          · exact e q.symm
          · exact hx q)
        refine ⟨m' + 1, by omega, .miss (v := v) hmiss (.inr ⟨hv, ev⟩) ?_⟩
        rw [swp_comm hky hxv]
        exact c
/-- one element replaced by another that is wanted no later costs no more -/
theorem cost_swap {T : Nat → Prop} {r : List Nat} {m : Nat} (h : Cost T r m) : ∀ {x y : Nat}, T y → ¬ T x → nextUse r x ≤ nextUse r y → ∃ m', m' ≤ m ∧ Cost (swp T y x) r m' := by
  induction h with
  | nil S => exact fun _ _ _ => ⟨0, Nat.zero_le _, .nil _⟩
  | @hit T k r m hk hc ih =>
    intro x y hy hx hn
    have hkx : k ≠ x := fun e => hx (e ▸ hk)
    rw [next_cons, next_cons, if_neg hkx] at hn
    by_cases e : k = y
    · rw [if_pos e] at hn
      omega
    · rw [if_neg e] at hn
      obtain ⟨m', l, c⟩ := ih hy hx (by omega)
      exact ⟨m', l, .hit (.inr ⟨hk, e⟩) c⟩
  | @miss T k v r m hk hv hc ih =>
    intro x y hy hx hn
    have hky : k ≠ y := fun e => hk (e ▸ hy)
    have hxv : x ≠ v := fun e => hx (e ▸ hv)
    by_cases e : k = x
    · subst e
      by_cases ev : v = y
      · subst ev
        exact ⟨m, by omega, .hit (.inl rfl) hc⟩
      · obtain ⟨m', l, c⟩ := cost_near hc (x := v) (y := y) (.inr ⟨hy, fun q => ev q.symm⟩) (fun q => by
          rcases q with q | ⟨_, q⟩
          · exact hxv q.symm
          · exact q rfl)
        rw [swp_two hy hv hx ev] at c
        exact ⟨m', by omega, .hit (.inl rfl) c⟩
    · rw [next_cons, next_cons, if_neg e, if_neg hky] at hn
      have hmiss : ¬ swp T y x k := fun q => by
        rcases q with q | ⟨q, _⟩
        · exact e q
        · exact hk q
      by_cases ev : v = y
      · subst ev
        refine ⟨m + 1, by omega, .miss (v := x) hmiss (.inl rfl) ?_⟩
        rw [swp_thr hx e]
        exact hc
      · obtain ⟨m', l, c⟩ := ih (x := x) (y := y) (.inr ⟨hy, fun q => ev q.symm⟩) (fun q => by
          rcases q with q | ⟨q, _⟩
          · exact e q.symm
          · exact hx q) (by omega)
        refine ⟨m' + 1, by omega, .miss (v := v) hmiss (.inr ⟨hv, ev⟩) ?_⟩
        rw [swp_comm hky hxv]
        exact c
/-! ### the farthest key -/
structure IsFar (r c : List Nat) (v : Nat) : Prop where
  mem : v ∈ c
  far : ∀ u ∈ c, nextUse r u < nextUse r v ∨ (nextUse r u = nextUse r v ∧ v ≤ u)
theorem IsFar.uniq {r c d : List Nat} {v u : Nat} (a : IsFar r c v) (b : IsFar r d u) (h : ∀ x, x ∈ c ↔ x ∈ d) : v = u := by
  have h1 := a.far u ((h u).mpr b.mem)
  have h2 := b.far v ((h v).mp a.mem)
  omega
def gFar (r : List Nat) (b k : Nat) : Nat := if nextUse r b < nextUse r k ∨ (nextUse r k = nextUse r b ∧ k < b) then k else b
def farR (r : List Nat) : List Nat → Nat
  | [] => 0
  | c :: l => l.foldl (gFar r) c
theorem gFar_mem (r : List Nat) : ∀ (l : List Nat) (b : Nat), l.foldl (gFar r) b ∈ b :: l
  | [], b => by simp
  | k :: l, b => by
    rw [List.foldl_cons]
    have h := gFar_mem r l (gFar r b k)
    have e : gFar r b k = k ∨ gFar r b k = b := by unfold gFar; split <;> simp
    rcases e with e | e <;> rw [e] at h ⊢ <;> simp only [List.mem_cons] at h ⊢ <;> rcases h with h | h <;> simp [h]
theorem gFar_far (r : List Nat) : ∀ (l : List Nat) (b : Nat), ∀ u ∈ b :: l, nextUse r u < nextUse r (l.foldl (gFar r) b) ∨ (nextUse r u = nextUse r (l.foldl (gFar r) b) ∧ l.foldl (gFar r) b ≤ u)
  | [], b => by simp
  | k :: l, b => by
    intro u hu
    rw [List.foldl_cons]
    have ih := gFar_far r l (gFar r b k)
    have h0 := ih (gFar r b k) (by simp)
    by_cases c : nextUse r b < nextUse r k ∨ (nextUse r k = nextUse r b ∧ k < b)
    · have e : gFar r b k = k := if_pos c
      rw [e] at ih h0 ⊢
      rw [List.mem_cons] at hu
      rcases hu with hu | hu
      · subst hu
        omega
      · exact ih u hu
    · have e : gFar r b k = b := if_neg c
      rw [e] at ih h0 ⊢
      rw [List.mem_cons, List.mem_cons] at hu
      rcases hu with hu | hu | hu
      · subst hu
        exact h0
      · subst hu
        omega
      · exact ih u (List.mem_cons_of_mem _ hu)
theorem farR_is (r : List Nat) : ∀ {c : List Nat}, c ≠ [] → IsFar r c (farR r c)
  | [], h => absurd rfl h
  | c :: l, _ => ⟨gFar_mem r l c, gFar_far r l c⟩
/-! ### Belady's algorithm along what is left -/
def belR (cap : Nat) : List Nat → List Nat → Nat × List Nat
  | _, [] => (0, [])
  | c, k :: r =>
    if c.contains k = true then belR cap c r
    else if cap = 0 then ((belR cap c r).1 + 1, (belR cap c r).2)
    else if c.length = cap then ((belR cap (other c (farR r c) ++ [k]) r).1 + 1, farR r c :: (belR cap (other c (farR r c) ++ [k]) r).2)
    else ((belR cap (c ++ [k]) r).1 + 1, (belR cap (c ++ [k]) r).2)
theorem mem_other {c : List Nat} {v k : Nat} : k ∈ other c v ↔ k ∈ c ∧ k ≠ v := by
  unfold other
  simp [List.mem_filter]
theorem other_len : ∀ {c : List Nat} {v : Nat}, c.Nodup → v ∈ c → (other c v).length + 1 = c.length
  | [], v, _, h => by simp at h
  | a :: c, v, hn, h => by
    rw [List.nodup_cons] at hn
    unfold other
    by_cases e : a = v
    · subst e
      have e2 : (a :: c).filter (fun x => x != a) = c := by
        rw [List.filter_cons]
        simp
        exact fun b hb e => hn.1 (e ▸ hb)
      rw [e2]
      rfl
    · have hv : v ∈ c := by
        rcases List.mem_cons.mp h with h | h
        · exact absurd h.symm e
        · exact h
      have ih := other_len hn.2 hv
      unfold other at ih
      rw [List.filter_cons]
      simp [e]
      exact ih
theorem other_nodup {c : List Nat} (v : Nat) (h : c.Nodup) : (other c v).Nodup := List.Nodup.sublist List.filter_sublist h
theorem app_nodup {c : List Nat} {k : Nat} (h : c.Nodup) (hk : k ∉ c) : (c ++ [k]).Nodup := by
  rw [List.nodup_append]
  refine ⟨h, by simp, fun a ha b hb => ?_⟩
  rw [List.mem_singleton] at hb
  subst hb
  exact fun e => hk (e ▸ ha)
theorem ev_nodup {c : List Nat} {v k : Nat} (h : c.Nodup) (hk : k ∉ c) : (other c v ++ [k]).Nodup := app_nodup (other_nodup v h) fun q => hk (mem_other.mp q).1
theorem ev_len {c : List Nat} {v k : Nat} (h : c.Nodup) (hv : v ∈ c) : (other c v ++ [k]).length = c.length := by
  rw [List.length_append, ← other_len h hv]
  rfl
theorem ev_set {c : List Nat} {v k : Nat} : (fun z => z ∈ other c v ++ [k]) = swp (fun z => z ∈ c) v k := by
  funext z
  apply propext
  rw [List.mem_append, mem_other, List.mem_singleton]
  unfold swp
  exact Or.comm
theorem con_t {c : List Nat} {k : Nat} (h : k ∈ c) : c.contains k = true := by simpa using h
theorem con_f {c : List Nat} {k : Nat} (h : k ∉ c) : ¬ c.contains k = true := by simpa using h
section
variable {cap : Nat}
theorem belR_nil (c : List Nat) : belR cap c [] = (0, []) := rfl
theorem belR_hit {c : List Nat} {k : Nat} {r : List Nat} (h : k ∈ c) : belR cap c (k :: r) = belR cap c r := by rw [belR, if_pos (con_t h)]
theorem belR_zero {c : List Nat} {k : Nat} {r : List Nat} (h : k ∉ c) (z : cap = 0) : belR cap c (k :: r) = ((belR cap c r).1 + 1, (belR cap c r).2) := by rw [belR, if_neg (con_f h), if_pos z]
theorem belR_full {c : List Nat} {k : Nat} {r : List Nat} (h : k ∉ c) (z : cap ≠ 0) (f : c.length = cap) :
    belR cap c (k :: r) = ((belR cap (other c (farR r c) ++ [k]) r).1 + 1, farR r c :: (belR cap (other c (farR r c) ++ [k]) r).2) := by rw [belR, if_neg (con_f h), if_neg z, if_pos f]
theorem belR_room {c : List Nat} {k : Nat} {r : List Nat} (h : k ∉ c) (z : cap ≠ 0) (f : c.length ≠ cap) : belR cap c (k :: r) = ((belR cap (c ++ [k]) r).1 + 1, (belR cap (c ++ [k]) r).2) := by rw [belR, if_neg (con_f h), if_neg z, if_neg f]
theorem ne_nil {c : List Nat} (z : cap ≠ 0) (f : c.length = cap) : c ≠ [] := fun e => z (by rw [← f, e]; rfl)
theorem bel_cost (z : cap ≠ 0) : ∀ (r c : List Nat), c.Nodup → c.length = cap → Cost (fun x => x ∈ c) r (belR cap c r).1
  | [], c, _, _ => .nil _
  | k :: r, c, hn, f => by
    by_cases h : k ∈ c
    · rw [belR_hit h]
      exact .hit h (bel_cost z r c hn f)
    · rw [belR_full h z f]
      have F := farR_is r (ne_nil z f)
      refine .miss h F.mem ?_
      rw [← ev_set]
      exact bel_cost z r _ (ev_nodup hn h) ((ev_len hn F.mem).trans f)
theorem bel_least (z : cap ≠ 0) : ∀ (r c : List Nat) (m : Nat), c.Nodup → c.length = cap → Cost (fun x => x ∈ c) r m → (belR cap c r).1 ≤ m
  | [], c, m, _, _, _ => Nat.zero_le _
  | k :: r, c, m, hn, f, hc => by
    cases hc with
    | hit hk hc =>
      rw [belR_hit hk]
      exact bel_least z r c m hn f hc
    | @miss _ _ v _ m hk hv hc =>
      rw [belR_full hk z f]
      have F := farR_is r (ne_nil z f)
      refine Nat.add_le_add_right ?_ 1
      have E : ∃ m', m' ≤ m ∧ Cost (swp (fun x => x ∈ c) (farR r c) k) r m' := by
        by_cases e : v = farR r c
        · rw [← e]
          exact ⟨m, Nat.le_refl _, hc⟩
        · have hfk : farR r c ≠ k := fun q => hk (q ▸ F.mem)
          have hvk : v ≠ k := fun q => hk (q ▸ hv)
          have q := cost_swap hc (x := v) (y := farR r c) (.inr ⟨F.mem, fun q => e q.symm⟩) (fun q => by
            rcases q with q | ⟨_, q⟩
            · exact hvk q
            · exact q rfl) (by rcases F.far v hv with q | q <;> omega)
          rw [swp_two (T := fun x => x ∈ c) F.mem hv hk e] at q
          exact q
      obtain ⟨m', l, c'⟩ := E
      rw [← ev_set] at c'
      exact Nat.le_trans (bel_least z r _ m' (ev_nodup hn hk) ((ev_len hn F.mem).trans f) c') l
end
end Ks
namespace Ks
open Vakptc (nextUse Plan emptyPlan insertSorted isLess isBetter evict extend addPlan extendAll bestPlan optimalPlan)
/-! ### the order on plans -/
theorem less_irr : ∀ a : List Nat, isLess a a = false
  | [] => rfl
  | x :: a => by simp [isLess, less_irr a]
theorem less_tri : ∀ {a b : List Nat}, isLess a b = false → isLess b a = false → a = b
  | [], [], _, _ => rfl
  | [], _ :: _, h, _ => by simp [isLess] at h
  | _ :: _, [], _, h => by simp [isLess] at h
  | x :: a, y :: b, h, h' => by
    simp [isLess] at h h'
    have e : x = y := by omega
    subst e
    rw [less_tri (h.2 rfl) (h'.2 rfl)]
/-- a smaller one is smaller than all that are not smaller -/
theorem less_cut : ∀ {a b c : List Nat}, isLess a c = true → isLess a b = true ∨ isLess b c = true
  | [], [], c, h => .inr h
  | [], _ :: _, _, _ => .inl rfl
  | _ :: _, _, [], h => by simp [isLess] at h
  | x :: a, [], z :: c, h => .inr rfl
  | x :: a, y :: b, z :: c, h => by
    simp [isLess] at h ⊢
    by_cases h1 : x < y
    · exact .inl (.inl h1)
    · by_cases h2 : y < z
      · exact .inr (.inl h2)
      · rcases h with h | ⟨h, h3⟩
        · omega
        · have e1 : x = y := by omega
          have e2 : y = z := by omega
          rcases less_cut (b := b) h3 with q | q
          · exact .inl (.inr ⟨e1, q⟩)
          · exact .inr (.inr ⟨e2, q⟩)
theorem less_snoc : ∀ {a b : List Nat} (v : Nat), a.length = b.length → isLess (a ++ [v]) (b ++ [v]) = isLess a b
  | [], [], v, _ => by simp [isLess]
  | [], _ :: _, _, h => by simp at h
  | _ :: _, [], _, h => by simp at h
  | x :: a, y :: b, v, h => by
    have ih := less_snoc (a := a) (b := b) v (by simpa using h)
    simp [isLess, ih]
theorem lt_lt : ∀ {a b c : List Nat}, isLess a b = true → isLess b c = true → isLess a c = true
  | [], _ :: _, [], _, h => by simp [isLess] at h
  | [], _ :: _, _ :: _, _, _ => rfl
  | _ :: _, [], _, h, _ => by simp [isLess] at h
  | _ :: _, _ :: _, [], _, h => by simp [isLess] at h
  | x :: a, y :: b, z :: c, h, g => by
    simp [isLess] at h g ⊢
    rcases h with h | ⟨h, h2⟩ <;> rcases g with g | ⟨g, g2⟩
    · exact .inl (by omega)
    · exact .inl (by omega)
    · exact .inl (by omega)
    · exact .inr ⟨by omega, lt_lt h2 g2⟩
theorem less_pre : ∀ (p : List Nat) {a b : List Nat}, isLess (p ++ a) (p ++ b) = isLess a b
  | [], a, b => rfl
  | x :: p, a, b => by simp [isLess, less_pre p]
theorem bet_f {p q : Plan} : isBetter p q = false ↔ (q.misses < p.misses ∨ (q.misses = p.misses ∧ isLess p.evictions q.evictions = false)) := by
  unfold isBetter
  simp
  constructor
  · rintro ⟨h1, h2⟩
    by_cases e : p.misses = q.misses
    · exact .inr ⟨e.symm, h2 e⟩
    · exact .inl (by omega)
  · rintro (h | ⟨h, h2⟩)
    · exact ⟨by omega, fun e => by omega⟩
    · exact ⟨by omega, fun _ => h2⟩
theorem bet_t {p q : Plan} (h : isBetter p q = true) : p.misses < q.misses ∨ (p.misses = q.misses ∧ isLess p.evictions q.evictions = true) := by
  unfold isBetter at h
  simpa using h
theorem bet_irr (p : Plan) : isBetter p p = false := bet_f.mpr (.inr ⟨rfl, less_irr _⟩)
theorem bet_trans {p q r : Plan} (h1 : isBetter p q = false) (h2 : isBetter q r = false) : isBetter p r = false := by
  rw [bet_f] at h1 h2 ⊢
  rcases h1 with h1 | ⟨h1, g1⟩ <;> rcases h2 with h2 | ⟨h2, g2⟩
  · exact .inl (by omega)
  · exact .inl (by omega)
  · exact .inl (by omega)
  · refine .inr ⟨by omega, ?_⟩
    cases e : isLess p.evictions r.evictions with
    | false => rfl
    | true =>
      rcases less_cut (b := q.evictions) e with q | q
      · rw [g1] at q
        cases q
      · rw [g2] at q
        cases q
/-- not both -/
theorem bet_asym {p q : Plan} (h : isBetter p q = true) : isBetter q p = false := by
  rcases bet_t h with h | ⟨h, g⟩
  · exact bet_f.mpr (.inl h)
  · refine bet_f.mpr (.inr ⟨h, ?_⟩)
    cases e : isLess q.evictions p.evictions with
    | false => rfl
    | true =>
      exact absurd (lt_lt g e) (by rw [less_irr]; exact Bool.false_ne_true)
/-! ### all runs of the document's replacement -/
def runs (cap : Nat) : List Nat → Plan → List Plan
  | [], p => [p]
  | k :: r, p => (extend cap k p).flatMap (runs cap r)
theorem runs_nil {cap : Nat} {p q : Plan} : q ∈ runs cap [] p ↔ q = p := by simp [runs]
theorem runs_cons {cap k : Nat} {r : List Nat} {p q : Plan} : q ∈ runs cap (k :: r) p ↔ ∃ p', p' ∈ extend cap k p ∧ q ∈ runs cap r p' := by simp [runs, List.mem_flatMap]
/-- the evictions' number goes with misses and keys -/
def Wf (cap : Nat) (p : Plan) : Prop := if cap = 0 then p.evictions = [] else p.evictions.length + p.keys.length = p.misses
theorem Wf.len {cap : Nat} {p q : Plan} (a : Wf cap p) (b : Wf cap q) (k : p.keys = q.keys) (m : p.misses = q.misses) : p.evictions.length = q.evictions.length := by
  unfold Wf at a b
  by_cases z : cap = 0
  · rw [if_pos z] at a b
    rw [a, b]
  · rw [if_neg z] at a b
    rw [k] at a
    omega
theorem ins_perm (x : Nat) : ∀ l : List Nat, (insertSorted x l).Perm (x :: l)
  | [] => .refl _
  | y :: l => by
    unfold insertSorted
    split
    · exact .refl _
    · exact ((ins_perm x l).cons y).trans (.swap x y l)
theorem ins_len (x : Nat) (l : List Nat) : (insertSorted x l).length = l.length + 1 := (ins_perm x l).length_eq
theorem ext_cases {cap k : Nat} {p q : Plan} (h : q ∈ extend cap k p) :
    (k ∈ p.keys ∧ q = p) ∨ (k ∉ p.keys ∧ cap = 0 ∧ q = { p with misses := p.misses + 1 }) ∨
    (k ∉ p.keys ∧ cap ≠ 0 ∧ p.keys.length < cap ∧ q = { keys := insertSorted k p.keys, misses := p.misses + 1, evictions := p.evictions }) ∨
    (k ∉ p.keys ∧ cap ≠ 0 ∧ ¬ p.keys.length < cap ∧ ∃ v, v ∈ p.keys ∧ q = evict p k v) := by
  unfold extend at h
  by_cases c : k ∈ p.keys
  · rw [if_pos (con_t c)] at h
    exact .inl ⟨c, by simpa using h⟩
  · rw [if_neg (con_f c)] at h
    by_cases z : cap = 0
    · rw [if_pos z] at h
      exact .inr (.inl ⟨c, z, by simpa using h⟩)
    · rw [if_neg z] at h
      by_cases l : p.keys.length < cap
      · rw [if_pos l] at h
        exact .inr (.inr (.inl ⟨c, z, l, by simpa using h⟩))
      · rw [if_neg l, List.mem_map] at h
        obtain ⟨v, hv, e⟩ := h
        exact .inr (.inr (.inr ⟨c, z, l, v, hv, e.symm⟩))
theorem ext_hit {cap k : Nat} {p : Plan} (h : k ∈ p.keys) : extend cap k p = [p] := by
  unfold extend
  rw [if_pos (con_t h)]
theorem ext_zero {cap k : Nat} {p : Plan} (h : k ∉ p.keys) (z : cap = 0) : extend cap k p = [{ p with misses := p.misses + 1 }] := by
  unfold extend
  rw [if_neg (con_f h), if_pos z]
theorem ext_room {cap k : Nat} {p : Plan} (h : k ∉ p.keys) (z : cap ≠ 0) (l : p.keys.length < cap) : extend cap k p = [{ keys := insertSorted k p.keys, misses := p.misses + 1, evictions := p.evictions }] := by
  unfold extend
  rw [if_neg (con_f h), if_neg z, if_pos l]
theorem ext_full {cap k : Nat} {p : Plan} (h : k ∉ p.keys) (z : cap ≠ 0) (l : ¬ p.keys.length < cap) : extend cap k p = p.keys.map (evict p k) := by
  unfold extend
  rw [if_neg (con_f h), if_neg z, if_neg l]
theorem filter_other (l : List Nat) (v : Nat) : l.filter (fun y => y != v) = other l v := rfl
theorem ext_wf {cap k : Nat} {p q : Plan} (nd : p.keys.Nodup) (w : Wf cap p) (h : q ∈ extend cap k p) : Wf cap q := by
  unfold Wf at w ⊢
  rcases ext_cases h with ⟨_, rfl⟩ | ⟨_, z, rfl⟩ | ⟨_, z, _, rfl⟩ | ⟨_, z, _, v, hv, rfl⟩
  · exact w
  · rw [if_pos z] at w ⊢
    exact w
  · rw [if_neg z] at w ⊢
    show p.evictions.length + (insertSorted k p.keys).length = p.misses + 1
    rw [ins_len]
    omega
  · rw [if_neg z] at w ⊢
    show (p.evictions ++ [v]).length + (insertSorted k (p.keys.filter fun y => y != v)).length = p.misses + 1
    rw [ins_len, List.length_append, filter_other]
    have := other_len nd hv
    simp only [List.length_singleton]
    omega
theorem ext_nodup {cap k : Nat} {p q : Plan} (nd : p.keys.Nodup) (h : q ∈ extend cap k p) : q.keys.Nodup := by
  rcases ext_cases h with ⟨_, rfl⟩ | ⟨_, z, rfl⟩ | ⟨hk, z, _, rfl⟩ | ⟨hk, z, _, v, hv, rfl⟩
  · exact nd
  · exact nd
  · exact (ins_perm _ _).nodup_iff.mpr (List.nodup_cons.mpr ⟨hk, nd⟩)
  · exact (ins_perm _ _).nodup_iff.mpr (List.nodup_cons.mpr ⟨fun q => hk (List.mem_filter.mp q).1, other_nodup v nd⟩)
/-! ### the document's table of plans holds the best for each set of keys -/
/-- p serves in q's place -/
def Dom (p q : Plan) : Prop := p.keys = q.keys ∧ isBetter q p = false
theorem Dom.refl (p : Plan) : Dom p p := ⟨rfl, bet_irr p⟩
theorem Dom.trans {p q r : Plan} (a : Dom p q) (b : Dom q r) : Dom p r := ⟨a.1.trans b.1, bet_trans b.2 a.2⟩
theorem add_in : ∀ {l : List Plan} {n x : Plan}, x ∈ addPlan l n → x ∈ l ∨ x = n
  | [], n, x, h => by simp [addPlan] at h; exact .inr h
  | o :: l, n, x, h => by
    unfold addPlan at h
    split at h
    · rw [List.mem_cons] at h
      rcases h with h | h
      · split at h
        · exact .inr h
        · exact .inl (by rw [h]; simp)
      · exact .inl (List.mem_cons_of_mem _ h)
    · rw [List.mem_cons] at h
      rcases h with h | h
      · exact .inl (by rw [h]; simp)
      · rcases add_in h with q | q
        · exact .inl (List.mem_cons_of_mem _ q)
        · exact .inr q
theorem add_old : ∀ {l : List Plan} {n x : Plan}, x ∈ l → ∃ y, y ∈ addPlan l n ∧ Dom y x
  | o :: l, n, x, h => by
    unfold addPlan
    split
    · rename_i e
      rw [List.mem_cons] at h
      rcases h with h | h
      · subst h
        refine ⟨_, List.mem_cons_self, ?_⟩
        split
        · rename_i b
          exact ⟨e.symm, bet_asym b⟩
        · exact .refl _
      · exact ⟨x, List.mem_cons_of_mem _ h, .refl _⟩
    · rw [List.mem_cons] at h
      rcases h with h | h
      · exact ⟨o, List.mem_cons_self, by rw [h]; exact .refl _⟩
      · obtain ⟨y, hy, d⟩ := add_old (n := n) h
        exact ⟨y, List.mem_cons_of_mem _ hy, d⟩
theorem add_new : ∀ (l : List Plan) (n : Plan), ∃ y, y ∈ addPlan l n ∧ Dom y n
  | [], n => ⟨n, by simp [addPlan], .refl _⟩
  | o :: l, n => by
    unfold addPlan
    split
    · rename_i e
      refine ⟨_, List.mem_cons_self, ?_⟩
      split
      · exact .refl _
      · rename_i b
        exact ⟨e, by simpa using b⟩
    · obtain ⟨y, hy, d⟩ := add_new l n
      exact ⟨y, List.mem_cons_of_mem _ hy, d⟩
theorem adds_in : ∀ (ns : List Plan) {l : List Plan} {x : Plan}, x ∈ ns.foldl addPlan l → x ∈ l ∨ x ∈ ns
  | [], l, x, h => .inl h
  | n :: ns, l, x, h => by
    rw [List.foldl_cons] at h
    rcases adds_in ns h with q | q
    · rcases add_in q with z | z
      · exact .inl z
      · exact .inr (by rw [z]; simp)
    · exact .inr (List.mem_cons_of_mem _ q)
theorem adds_dom : ∀ (ns : List Plan) {l : List Plan} {x : Plan}, x ∈ l ∨ x ∈ ns → ∃ y, y ∈ ns.foldl addPlan l ∧ Dom y x
  | [], l, x, h => by
    rcases h with h | h
    · exact ⟨x, h, .refl _⟩
    · simp at h
  | n :: ns, l, x, h => by
    rw [List.foldl_cons]
    have key : ∀ {z : Plan}, z ∈ addPlan l n → Dom z x → ∃ y, y ∈ ns.foldl addPlan (addPlan l n) ∧ Dom y x := fun {z} hz d => by
      obtain ⟨y, hy, d2⟩ := adds_dom ns (l := addPlan l n) (.inl hz)
      exact ⟨y, hy, d2.trans d⟩
    rcases h with h | h
    · obtain ⟨z, hz, d⟩ := add_old (n := n) h
      exact key hz d
    · rw [List.mem_cons] at h
      rcases h with h | h
      · rw [h] at key ⊢
        obtain ⟨z, hz, d⟩ := add_new l n
        exact key hz d
      · exact adds_dom ns (.inr h)
/-- plans that serve for all of R, and are of R -/
structure Table (R : Plan → Prop) (l : List Plan) : Prop where
  of : ∀ p ∈ l, R p
  all : ∀ q, R q → ∃ p ∈ l, Dom p q
/-- a successor of what is served is served by a successor -/
theorem ext_dom {cap k : Nat} {p q q' : Plan} (wp : Wf cap p) (wq : Wf cap q) (d : Dom p q) (h : q' ∈ extend cap k q) : ∃ p', p' ∈ extend cap k p ∧ Dom p' q' := by
  obtain ⟨dk, db⟩ := d
  have db' := bet_f.mp db
  rcases ext_cases h with ⟨hk, rfl⟩ | ⟨hk, z, rfl⟩ | ⟨hk, z, l, rfl⟩ | ⟨hk, z, l, v, hv, rfl⟩
  · refine ⟨p, ?_, dk, db⟩
    rw [ext_hit (by rw [dk]; exact hk)]
    simp
  · refine ⟨{ p with misses := p.misses + 1 }, ?_, dk, bet_f.mpr ?_⟩
    · rw [ext_zero (by rw [dk]; exact hk) z]
      simp
    · show p.misses + 1 < q.misses + 1 ∨ (p.misses + 1 = q.misses + 1 ∧ isLess q.evictions p.evictions = false)
      rcases db' with e | ⟨e, e2⟩
      · exact .inl (by omega)
      · exact .inr ⟨by omega, e2⟩
  · refine ⟨{ keys := insertSorted k p.keys, misses := p.misses + 1, evictions := p.evictions }, ?_, by show insertSorted k p.keys = insertSorted k q.keys; rw [dk], bet_f.mpr ?_⟩
    · rw [ext_room (by rw [dk]; exact hk) z (by rw [dk]; exact l)]
      simp
    · show p.misses + 1 < q.misses + 1 ∨ (p.misses + 1 = q.misses + 1 ∧ isLess q.evictions p.evictions = false)
      rcases db' with e | ⟨e, e2⟩
      · exact .inl (by omega)
      · exact .inr ⟨by omega, e2⟩
  · refine ⟨evict p k v, ?_, by show insertSorted k (p.keys.filter _) = insertSorted k (q.keys.filter _); rw [dk], bet_f.mpr ?_⟩
    · rw [ext_full (by rw [dk]; exact hk) z (by rw [dk]; exact l)]
      exact List.mem_map.mpr ⟨v, by rw [dk]; exact hv, rfl⟩
    · show p.misses + 1 < q.misses + 1 ∨ (p.misses + 1 = q.misses + 1 ∧ isLess (q.evictions ++ [v]) (p.evictions ++ [v]) = false)
      rcases db' with e | ⟨e, e2⟩
      · exact .inl (by omega)
      · refine .inr ⟨by omega, ?_⟩
        rw [less_snoc v (wq.len wp dk.symm e.symm)]
        exact e2
def Step (cap k : Nat) (R : Plan → Prop) : Plan → Prop := fun q => ∃ p, R p ∧ q ∈ extend cap k p
theorem table_step {cap k : Nat} {R : Plan → Prop} {l : List Plan} (w : ∀ p, R p → Wf cap p) (T : Table R l) : Table (Step cap k R) (extendAll cap l k) := by
  refine ⟨fun p hp => ?_, fun q hq => ?_⟩
  · unfold extendAll at hp
    rcases adds_in _ hp with z | z
    · simp at z
    · obtain ⟨a, ha, h⟩ := List.mem_flatMap.mp z
      exact ⟨a, T.of a ha, h⟩
  · obtain ⟨p, hp, h⟩ := hq
    obtain ⟨a, ha, d⟩ := T.all p hp
    obtain ⟨b, hb, d2⟩ := ext_dom (w a (T.of a ha)) (w p hp) d h
    unfold extendAll
    obtain ⟨y, hy, d3⟩ := adds_dom ((l.flatMap (extend cap k))) (l := []) (x := b) (.inr (List.mem_flatMap.mpr ⟨a, ha, hb⟩))
    exact ⟨y, hy, d3.trans d2⟩
theorem table_run {cap : Nat} : ∀ (s : List Nat) (R : Plan → Prop) (l : List Plan), (∀ p, R p → Wf cap p ∧ p.keys.Nodup) → Table R l → Table (fun q => ∃ p, R p ∧ q ∈ runs cap s p) (s.foldl (extendAll cap) l)
  | [], R, l, _, T => ⟨fun p hp => ⟨p, T.of p hp, runs_nil.mpr rfl⟩, fun q ⟨p, hp, h⟩ => by rw [runs_nil.mp h]; exact T.all p hp⟩
  | k :: s, R, l, w, T => by
    rw [List.foldl_cons]
    have ih := table_run s (Step cap k R) (extendAll cap l k) (fun q ⟨p, hp, h⟩ => ⟨ext_wf (w p hp).2 (w p hp).1 h, ext_nodup (w p hp).2 h⟩) (table_step (fun p hp => (w p hp).1) T)
    refine ⟨fun p hp => ?_, fun q ⟨p, hp, h⟩ => ?_⟩
    · obtain ⟨a, ⟨b, hb, h1⟩, h2⟩ := ih.of p hp
      exact ⟨b, hb, runs_cons.mpr ⟨a, h1, h2⟩⟩
    · obtain ⟨a, h1, h2⟩ := runs_cons.mp h
      exact ih.all q ⟨a, ⟨p, hp, h1⟩, h2⟩
theorem best_fold : ∀ (l : List Plan) (a : Plan), let b := l.foldl (fun a b => if isBetter b a then b else a) a; b ∈ a :: l ∧ ∀ q ∈ a :: l, isBetter q b = false
  | [], a => ⟨by simp, by simp [bet_irr]⟩
  | x :: l, a => by
    rw [List.foldl_cons]
    have ih := best_fold l (if isBetter x a then x else a)
    obtain ⟨h1, h2⟩ := ih
    refine ⟨?_, fun q hq => ?_⟩
    · rw [List.mem_cons] at h1
      rcases h1 with h1 | h1
      · split at h1
        · rename_i c
          have e : (if isBetter x a then x else a) = x := if_pos c
          simp only [e] at h1 ⊢
          exact List.mem_cons.mpr (.inr (List.mem_cons.mpr (.inl h1)))
        · rename_i c
          have e : (if isBetter x a then x else a) = a := if_neg c
          simp only [e] at h1 ⊢
          exact List.mem_cons.mpr (.inl h1)
      · exact List.mem_cons_of_mem _ (List.mem_cons_of_mem _ h1)
    · rw [List.mem_cons, List.mem_cons] at hq
      have h0 := h2 _ List.mem_cons_self
      rcases hq with hq | hq | hq
      · subst hq
        refine bet_trans ?_ h0
        split
        · rename_i c
          exact bet_asym c
        · exact bet_irr _
      · subst hq
        refine bet_trans ?_ h0
        split
        · exact bet_irr _
        · rename_i c
          simpa using c
      · exact h2 q (List.mem_cons_of_mem _ hq)
theorem best_is {l : List Plan} (h : l ≠ []) : bestPlan l ∈ l ∧ ∀ q ∈ l, isBetter q (bestPlan l) = false := by
  cases l with
  | nil => exact absurd rfl h
  | cons a l => exact best_fold l a
theorem runs_ne {cap : Nat} : ∀ (s : List Nat) (p : Plan), (cap ≠ 0 → p.keys.length < cap ∨ p.keys ≠ []) → ∃ q, q ∈ runs cap s p
  | [], p, _ => ⟨p, runs_nil.mpr rfl⟩
  | k :: s, p, hp => by
    have key : ∀ p', p' ∈ extend cap k p → (cap ≠ 0 → p'.keys.length < cap ∨ p'.keys ≠ []) → ∃ q, q ∈ runs cap (k :: s) p := fun p' h1 h2 => by
      obtain ⟨q, hq⟩ := runs_ne s p' h2
      exact ⟨q, runs_cons.mpr ⟨p', h1, hq⟩⟩
    by_cases c : k ∈ p.keys
    · exact key p (by rw [ext_hit c]; simp) hp
    · by_cases z : cap = 0
      · exact key _ (by rw [ext_zero c z]; exact List.mem_singleton.mpr rfl) (fun q => absurd z q)
      · by_cases l : p.keys.length < cap
        · refine key _ (by rw [ext_room c z l]; exact List.mem_singleton.mpr rfl) fun _ => .inr fun e => ?_
          have := ins_len k p.keys
          rw [show insertSorted k p.keys = [] from e] at this
          simp at this
        · rw [ext_full c z l] at key
          have ne : p.keys ≠ [] := by
            rcases hp z with q | q
            · exact absurd q l
            · exact q
          obtain ⟨v, hv⟩ := List.exists_mem_of_ne_nil _ ne
          refine key (evict p k v) (List.mem_map.mpr ⟨v, hv, rfl⟩) fun _ => .inr fun e => ?_
          have := ins_len k (p.keys.filter fun y => y != v)
          rw [show insertSorted k (p.keys.filter fun y => y != v) = [] from e] at this
          simp at this
/-- the document's optimum: a run, and none is better -/
theorem optimal_is (cap : Nat) (s : List Nat) : optimalPlan cap s ∈ runs cap s emptyPlan ∧ ∀ q ∈ runs cap s emptyPlan, isBetter q (optimalPlan cap s) = false := by
  have T := table_run (cap := cap) s (fun p => p = emptyPlan) [emptyPlan] (fun p e => by
    subst e
    refine ⟨?_, by simp [emptyPlan]⟩
    unfold Wf
    split <;> rfl) ⟨fun p hp => by simpa using hp, fun q e => ⟨emptyPlan, by simp, by rw [e]; exact .refl _⟩⟩
  have ne : s.foldl (extendAll cap) [emptyPlan] ≠ [] := fun e => by
    obtain ⟨q, hq⟩ := runs_ne (cap := cap) s emptyPlan (fun z => .inl (by show 0 < cap; omega))
    obtain ⟨p, hp, _⟩ := T.all q ⟨_, rfl, hq⟩
    rw [e] at hp
    simp at hp
  obtain ⟨h1, h2⟩ := best_is ne
  obtain ⟨p, e, h⟩ := T.of _ h1
  subst e
  refine ⟨h, fun q hq => ?_⟩
  obtain ⟨p, hp, d⟩ := T.all q ⟨_, rfl, hq⟩
  exact bet_trans d.2 (h2 p hp)
end Ks
namespace Ks
open Vakptc (nextUse Plan emptyPlan insertSorted isLess isBetter evict extend addPlan extendAll bestPlan optimalPlan)
/-! ### turns one by one, from the front -/
def itF {α : Type} (f : Nat → α → α) (a : α) : Nat → α
  | 0 => a
  | n + 1 => f n (itF f a n)
theorem itF_front {α : Type} (f : Nat → α → α) (a : α) : ∀ n, itF f a (n + 1) = itF (fun j => f (j + 1)) (f 0 a) n
  | 0 => rfl
  | n + 1 => by
    show f (n + 1) (itF f a (n + 1)) = f (n + 1) (itF (fun j => f (j + 1)) (f 0 a) n)
    rw [itF_front f a n]
theorem drop_here {s : List Nat} {a : Nat} (h : a < s.length) : s.drop a = s.getD a 0 :: s.drop (a + 1) := by
  rw [List.drop_eq_getElem_cons h, List.getD_eq_getElem?_getD, List.getElem?_eq_getElem h]
  rfl
theorem use_le (r : List Nat) (k : Nat) : nextUse r k ≤ r.length := List.findIdx_le_length
theorem nxt_lt {s : List Nat} {i a b : Nat} (hs : s.length ≤ 900) : nxt s i a < nxt s i b ↔ nextUse (s.drop (i + 1)) a < nextUse (s.drop (i + 1)) b := by
  have h1 := use_le (s.drop (i + 1)) a
  have h2 := use_le (s.drop (i + 1)) b
  have e : (s.drop (i + 1)).length = s.length - (i + 1) := List.length_drop
  unfold nxt
  split <;> split <;> omega
theorem nxt_eq {s : List Nat} {i a b : Nat} (hs : s.length ≤ 900) : nxt s i a = nxt s i b ↔ nextUse (s.drop (i + 1)) a = nextUse (s.drop (i + 1)) b := by
  have h1 := nxt_lt (i := i) (a := a) (b := b) hs
  have h2 := nxt_lt (i := i) (a := b) (b := a) hs
  omega
theorem farK_fold {s : List Nat} {i : Nat} (hs : s.length ≤ 900) : ∀ (l : List Nat) (b : Nat), l.foldl (farStep s i) (b, nxt s i b) = (l.foldl (gFar (s.drop (i + 1))) b, nxt s i (l.foldl (gFar (s.drop (i + 1))) b))
  | [], b => rfl
  | k :: l, b => by
    rw [List.foldl_cons, List.foldl_cons]
    have e : farStep s i (b, nxt s i b) k = (gFar (s.drop (i + 1)) b k, nxt s i (gFar (s.drop (i + 1)) b k)) := by
      unfold farStep gFar
      simp only [nxt_lt hs, nxt_eq hs]
      split <;> rfl
    rw [e]
    exact farK_fold hs l _
theorem farK_is {s : List Nat} {i : Nat} (hs : s.length ≤ 900) : ∀ c : List Nat, farK s i c = farR (s.drop (i + 1)) c
  | [] => rfl
  | c :: l => by
    show (l.foldl (farStep s i) (c, nxt s i c)).1 = l.foldl (gFar (s.drop (i + 1))) c
    rw [farK_fold hs]
/-! ### the program's loop is the run along what is left -/
theorem needs_t {cap k : Nat} {c : List Nat} : needs cap c k = true ↔ cap ≠ 0 ∧ k ∉ c ∧ c.length = cap := by
  unfold needs
  simp
  intro _ _
  omega
theorem with_in {cap k : Nat} {c : List Nat} (h : k ∈ c) : withKey cap c k = c := if_pos (.inl (con_t h))
theorem with_zero {cap k : Nat} {c : List Nat} (h : cap = 0) : withKey cap c k = c := if_pos (.inr h)
theorem with_new {cap k : Nat} {c : List Nat} (h : k ∉ c) (z : cap ≠ 0) : withKey cap c k = c ++ [k] := if_neg fun q => by
  rcases q with q | q
  · exact con_f h q
  · exact z q
theorem belStep_is {cap : Nat} {s : List Nat} {i : Nat} (hs : s.length ≤ 900) (m : Nat) (g c : List Nat) (k : Nat) : ∃ m' g' c', belStep cap s i k (m, g, c) = (m + m', g ++ g', c') ∧
    belR cap c (k :: s.drop (i + 1)) = (m' + (belR cap c' (s.drop (i + 1))).1, g' ++ (belR cap c' (s.drop (i + 1))).2) := by
  by_cases h : k ∈ c
  · refine ⟨0, [], c, ?_, ?_⟩
    · have e : ¬ needs cap c k = true := fun q => (needs_t.mp q).2.1 h
      unfold belStep
      simp only [if_neg e, if_pos (con_t h), with_in h, List.append_nil, Nat.add_zero]
    · rw [belR_hit h]
      simp
  · by_cases z : cap = 0
    · refine ⟨1, [], c, ?_, ?_⟩
      · have e : ¬ needs cap c k = true := fun q => (needs_t.mp q).1 z
        unfold belStep
        simp only [if_neg e, if_neg (con_f h), with_zero z, List.append_nil]
      · rw [belR_zero h z, Nat.add_comm]
        rfl
    · by_cases f : c.length = cap
      · refine ⟨1, [farK s i c], other c (farK s i c) ++ [k], ?_, ?_⟩
        · have e : needs cap c k = true := needs_t.mpr ⟨z, h, f⟩
          unfold belStep
          simp only [if_pos e, if_neg (con_f h)]
          rw [with_new (fun q => h (mem_other.mp q).1) z]
        · rw [belR_full h z f, Nat.add_comm, farK_is hs]
          rfl
      · refine ⟨1, [], c ++ [k], ?_, ?_⟩
        · have e : ¬ needs cap c k = true := fun q => f (needs_t.mp q).2.2
          unfold belStep
          simp only [if_neg e, if_neg (con_f h), with_new h z, List.append_nil]
        · rw [belR_room h z f, Nat.add_comm]
          rfl
theorem belIt_itF (cap : Nat) (s : List Nat) (a : Nat) (c : List Nat) : ∀ n, belIt cap s a c n = itF (fun j => belStep cap s (a + j) (s.getD (a + j) 0)) (0, [], c) n
  | 0 => rfl
  | n + 1 => by
    show belStep _ _ _ _ _ = belStep _ _ _ _ _
    rw [belIt_itF cap s a c n]
theorem bel_run {cap : Nat} {s : List Nat} (hs : s.length ≤ 900) : ∀ (n a m : Nat) (g c : List Nat), n = s.length - a →
    ∃ d, itF (fun j => belStep cap s (a + j) (s.getD (a + j) 0)) (m, g, c) n = (m + (belR cap c (s.drop a)).1, g ++ (belR cap c (s.drop a)).2, d)
  | 0, a, m, g, c, h => by
    have e : s.drop a = [] := List.drop_eq_nil_of_le (by omega)
    rw [e]
    exact ⟨c, by rw [belR_nil]; simp [itF]⟩
  | n + 1, a, m, g, c, h => by
    rw [itF_front, drop_here (by omega)]
    obtain ⟨m', g', c', e1, e2⟩ := belStep_is (cap := cap) (i := a) hs m g c (s.getD a 0)
    rw [e2]
    have e3 : (fun j => belStep cap s (a + (j + 1)) (s.getD (a + (j + 1)) 0)) = fun j => belStep cap s (a + 1 + j) (s.getD (a + 1 + j) 0) := by
      funext j
      rw [show a + (j + 1) = a + 1 + j by omega]
    show ∃ d, itF (fun j => belStep cap s (a + (j + 1)) (s.getD (a + (j + 1)) 0)) (belStep cap s a (s.getD a 0) (m, g, c)) n = _
    rw [e3, e1]
    obtain ⟨d, e4⟩ := bel_run hs n (a + 1) (m + m') (g ++ g') c' (by omega)
    refine ⟨d, ?_⟩
    rw [e4, Nat.add_assoc, List.append_assoc]
theorem bel_is {cap : Nat} {s : List Nat} (hs : s.length ≤ 900) (a : Nat) (c : List Nat) : bel cap s a c = belR cap c (s.drop a) := by
  obtain ⟨d, e⟩ := bel_run (cap := cap) hs (s.length - a) a 0 [] c rfl
  unfold bel
  rw [belIt_itF, e]
  simp
/-! ### the least key of the best -/
theorem srt_perm : ∀ c : List Nat, (srt c).Perm c
  | [] => .refl _
  | x :: c => (ins_perm x _).trans ((srt_perm c).cons x)
theorem ins_sorted (x : Nat) : ∀ {l : List Nat}, l.Pairwise (· ≤ ·) → (insertSorted x l).Pairwise (· ≤ ·)
  | [], _ => by simp [insertSorted]
  | y :: l, h => by
    have h' := List.pairwise_cons.mp h
    unfold insertSorted
    split
    · rename_i c
      refine List.pairwise_cons.mpr ⟨fun z hz => ?_, h⟩
      rcases List.mem_cons.mp hz with e | e
      · rw [e]; exact c
      · exact Nat.le_trans c (h'.1 z e)
    · rename_i c
      refine List.pairwise_cons.mpr ⟨fun z hz => ?_, ins_sorted x h'.2⟩
      rcases List.mem_cons.mp ((ins_perm x l).mem_iff.mp hz) with e | e
      · rw [e]; omega
      · exact h'.1 z e
theorem srt_sorted : ∀ c : List Nat, (srt c).Pairwise (· ≤ ·)
  | [] => .nil
  | x :: c => ins_sorted x (srt_sorted c)
structure IsLeast (f : Nat → Nat) (c : List Nat) (v : Nat) : Prop where
  mem : v ∈ c
  least : ∀ u ∈ c, f v < f u ∨ (f v = f u ∧ v ≤ u)
def leastF (f : Nat → Nat) (c : List Nat) : Nat := ((srt c).foldl (leastStep f) (none, 0)).1.getD 0
theorem leastV_eq (cap : Nat) (s : List Nat) (i k : Nat) (c : List Nat) : leastV cap s i k c = leastF (leastCost cap s i k c) c := rfl
theorem least_fold (f : Nat → Nat) : ∀ (l : List Nat) (b : Nat), (b :: l).Pairwise (· ≤ ·) → ∃ v, l.foldl (leastStep f) (some b, f b) = (some v, f v) ∧ IsLeast f (b :: l) v
  | [], b, _ => ⟨b, rfl, ⟨by simp, fun u hu => by
      rw [List.mem_singleton] at hu
      rw [hu]
      exact .inr ⟨rfl, Nat.le_refl _⟩⟩⟩
  | k :: l, b, h => by
    rw [List.foldl_cons]
    obtain ⟨h1, h2⟩ := List.pairwise_cons.mp h
    by_cases c : f k < f b
    · have e : leastStep f (some b, f b) k = (some k, f k) := if_pos (.inr c)
      rw [e]
      obtain ⟨v, e2, L⟩ := least_fold f l k h2
      refine ⟨v, e2, List.mem_cons_of_mem _ L.mem, fun u hu => ?_⟩
      rcases List.mem_cons.mp hu with q | q
      · subst q
        have := L.least k List.mem_cons_self
        exact .inl (by omega)
      · exact L.least u q
    · have e : leastStep f (some b, f b) k = (some b, f b) := if_neg fun q => by
        rcases q with q | q
        · cases q
        · exact c q
      rw [e]
      obtain ⟨v, e2, L⟩ := least_fold f l b (List.pairwise_cons.mpr ⟨fun z hz => h1 z (List.mem_cons_of_mem _ hz), (List.pairwise_cons.mp h2).2⟩)
      refine ⟨v, e2, ?_, fun u hu => ?_⟩
      · rcases List.mem_cons.mp L.mem with q | q
        · rw [q]; exact List.mem_cons_self
        · exact List.mem_cons_of_mem _ (List.mem_cons_of_mem _ q)
      · rcases List.mem_cons.mp hu with q | q
        · rw [q]; exact L.least b List.mem_cons_self
        · rcases List.mem_cons.mp q with q | q
          · rw [q]
            have a1 := L.least b List.mem_cons_self
            have a2 := h1 k List.mem_cons_self
            omega
          · exact L.least u (List.mem_cons_of_mem _ q)
theorem leastF_is (f : Nat → Nat) {c : List Nat} (h : c ≠ []) : IsLeast f c (leastF f c) := by
  have p := srt_perm c
  have q := srt_sorted c
  unfold leastF
  cases e : srt c with
  | nil =>
    rw [e] at p
    exact absurd p.symm.eq_nil h
  | cons b l =>
    rw [e] at p q
    rw [List.foldl_cons]
    have e1 : leastStep f (none, 0) b = (some b, f b) := if_pos (.inl rfl)
    rw [e1]
    obtain ⟨v, e2, L⟩ := least_fold f l b q
    rw [e2]
    exact ⟨p.mem_iff.mp L.mem, fun u hu => L.least u (p.mem_iff.mpr hu)⟩
def grR (cap : Nat) : List Nat → List Nat → List Nat
  | _, [] => []
  | c, k :: r =>
    if c.contains k = true then grR cap c r
    else if cap = 0 then grR cap c r
    else if c.length = cap then leastF (fun v => (belR cap (other c v ++ [k]) r).1) c :: grR cap (other c (leastF (fun v => (belR cap (other c v ++ [k]) r).1) c) ++ [k]) r
    else grR cap (c ++ [k]) r
section
variable {cap : Nat}
theorem grR_nil (c : List Nat) : grR cap c [] = [] := rfl
theorem grR_hit {c : List Nat} {k : Nat} {r : List Nat} (h : k ∈ c) : grR cap c (k :: r) = grR cap c r := by rw [grR, if_pos (con_t h)]
theorem grR_zero {c : List Nat} {k : Nat} {r : List Nat} (h : k ∉ c) (z : cap = 0) : grR cap c (k :: r) = grR cap c r := by rw [grR, if_neg (con_f h), if_pos z]
theorem grR_full {c : List Nat} {k : Nat} {r : List Nat} (h : k ∉ c) (z : cap ≠ 0) (f : c.length = cap) :
    grR cap c (k :: r) = leastF (fun v => (belR cap (other c v ++ [k]) r).1) c :: grR cap (other c (leastF (fun v => (belR cap (other c v ++ [k]) r).1) c) ++ [k]) r := by rw [grR, if_neg (con_f h), if_neg z, if_pos f]
theorem grR_room {c : List Nat} {k : Nat} {r : List Nat} (h : k ∉ c) (z : cap ≠ 0) (f : c.length ≠ cap) : grR cap c (k :: r) = grR cap (c ++ [k]) r := by rw [grR, if_neg (con_f h), if_neg z, if_neg f]
theorem leastCost_is {s : List Nat} (hs : s.length ≤ 900) (i k : Nat) (c : List Nat) : leastCost cap s i k c = fun v => (belR cap (other c v ++ [k]) (s.drop (i + 1))).1 := by
  funext v
  unfold leastCost
  rw [bel_is hs]
theorem optStep_is {s : List Nat} {i : Nat} (hs : s.length ≤ 900) (g c : List Nat) (k : Nat) : ∃ g' c', optStep cap s i k (g, c) = (g ++ g', c') ∧ grR cap c (k :: s.drop (i + 1)) = g' ++ grR cap c' (s.drop (i + 1)) := by
  by_cases h : k ∈ c
  · refine ⟨[], c, ?_, ?_⟩
    · have e : ¬ needs cap c k = true := fun q => (needs_t.mp q).2.1 h
      unfold optStep
      simp only [if_neg e, with_in h, List.append_nil]
    · rw [grR_hit h]
      simp
  · by_cases z : cap = 0
    · refine ⟨[], c, ?_, ?_⟩
      · have e : ¬ needs cap c k = true := fun q => (needs_t.mp q).1 z
        unfold optStep
        simp only [if_neg e, with_zero z, List.append_nil]
      · rw [grR_zero h z]
        rfl
    · by_cases f : c.length = cap
      · refine ⟨[leastV cap s i k c], other c (leastV cap s i k c) ++ [k], ?_, ?_⟩
        · have e : needs cap c k = true := needs_t.mpr ⟨z, h, f⟩
          unfold optStep
          simp only [if_pos e]
          rw [with_new (fun q => h (mem_other.mp q).1) z]
        · rw [grR_full h z f, leastV_eq, leastCost_is hs]
          rfl
      · refine ⟨[], c ++ [k], ?_, ?_⟩
        · have e : ¬ needs cap c k = true := fun q => f (needs_t.mp q).2.2
          unfold optStep
          simp only [if_neg e, with_new h z, List.append_nil]
        · rw [grR_room h z f]
          rfl
theorem optIt_itF (s : List Nat) : ∀ n, optIt cap s n = itF (fun j => optStep cap s (0 + j) (s.getD (0 + j) 0)) ([], []) n
  | 0 => rfl
  | n + 1 => by
    show optStep _ _ _ _ _ = optStep _ _ _ _ _
    rw [optIt_itF s n, Nat.zero_add]
theorem opt_run {s : List Nat} (hs : s.length ≤ 900) : ∀ (n a : Nat) (g c : List Nat), n = s.length - a →
    ∃ d, itF (fun j => optStep cap s (a + j) (s.getD (a + j) 0)) (g, c) n = (g ++ grR cap c (s.drop a), d)
  | 0, a, g, c, h => by
    have e : s.drop a = [] := List.drop_eq_nil_of_le (by omega)
    rw [e]
    exact ⟨c, by rw [grR_nil]; simp [itF]⟩
  | n + 1, a, g, c, h => by
    rw [itF_front, drop_here (by omega)]
    obtain ⟨g', c', e1, e2⟩ := optStep_is (cap := cap) (i := a) hs g c (s.getD a 0)
    rw [e2]
    have e3 : (fun j => optStep cap s (a + (j + 1)) (s.getD (a + (j + 1)) 0)) = fun j => optStep cap s (a + 1 + j) (s.getD (a + 1 + j) 0) := by
      funext j
      rw [show a + (j + 1) = a + 1 + j by omega]
    show ∃ d, itF (fun j => optStep cap s (a + (j + 1)) (s.getD (a + (j + 1)) 0)) (optStep cap s a (s.getD a 0) (g, c)) n = _
    rw [e3, e1]
    obtain ⟨d, e4⟩ := opt_run hs n (a + 1) (g ++ g') c' (by omega)
    refine ⟨d, ?_⟩
    rw [e4, List.append_assoc]
theorem optE_is {s : List Nat} (hs : s.length ≤ 900) : optE cap s = grR cap [] s := by
  obtain ⟨d, e⟩ := opt_run (cap := cap) hs (s.length - 0) 0 [] [] rfl
  unfold optE
  rw [optIt_itF]
  rw [Nat.sub_zero] at e
  rw [e]
  simp
/-! ### Belady's choice is no worse than any -/
theorem far_best (z : cap ≠ 0) {c : List Nat} {k v : Nat} {r : List Nat} (hn : c.Nodup) (f : c.length = cap) (hk : k ∉ c) (hv : v ∈ c) :
    (belR cap (other c (farR r c) ++ [k]) r).1 ≤ (belR cap (other c v ++ [k]) r).1 := by
  have F := farR_is r (ne_nil z f)
  have h := bel_cost z r (other c v ++ [k]) (ev_nodup hn hk) ((ev_len hn hv).trans f)
  rw [ev_set] at h
  have l := bel_least z (k :: r) c _ hn f (.miss hk hv h)
  rw [belR_full hk z f] at l
  have l2 : (belR cap (other c (farR r c) ++ [k]) r).1 + 1 ≤ (belR cap (other c v ++ [k]) r).1 + 1 := l
  omega
/-! ### the best of all runs -/
theorem perm_evict {p c : List Nat} (v k : Nat) (h : p.Perm c) : (insertSorted k (p.filter fun y => y != v)).Perm (other c v ++ [k]) :=
  (ins_perm _ _).trans (((h.filter _).cons k).trans (List.perm_append_comm (l₁ := [k])))
theorem perm_room {p c : List Nat} (k : Nat) (h : p.Perm c) : (insertSorted k p).Perm (c ++ [k]) := (ins_perm _ _).trans ((h.cons k).trans (List.perm_append_comm (l₁ := [k])))
/-- what is claimed of the runs from p, where c are the same keys -/
structure Best (cap : Nat) (r : List Nat) (p : Plan) (c : List Nat) : Prop where
  is : ∃ q ∈ runs cap r p, q.misses = p.misses + (belR cap c r).1 ∧ q.evictions = p.evictions ++ grR cap c r
  no : ∀ q ∈ runs cap r p, p.misses + (belR cap c r).1 ≤ q.misses ∧ ∃ es, q.evictions = p.evictions ++ es ∧ (q.misses = p.misses + (belR cap c r).1 → isLess es (grR cap c r) = false)
theorem best_all : ∀ (r : List Nat) (p : Plan) (c : List Nat), p.keys.Perm c → c.Nodup → c.length ≤ cap → Best cap r p c
  | [], p, c, _, _, _ => ⟨⟨p, runs_nil.mpr rfl, by simp [belR_nil], by simp [grR_nil]⟩, fun q hq => by
      rw [runs_nil.mp hq]
      exact ⟨by simp [belR_nil], [], by simp, fun _ => by simp [grR_nil, isLess]⟩⟩
  | k :: r, p, c, hp, hn, hl => by
    by_cases h : k ∈ c
    · have hk : k ∈ p.keys := hp.mem_iff.mpr h
      have ih := best_all r p c hp hn hl
      refine ⟨?_, ?_⟩
      · rw [belR_hit h, grR_hit h]
        obtain ⟨q, hq, e⟩ := ih.is
        exact ⟨q, runs_cons.mpr ⟨p, by rw [ext_hit hk]; simp, hq⟩, e⟩
      · rw [belR_hit h, grR_hit h]
        intro q hq
        obtain ⟨p', h1, h2⟩ := runs_cons.mp hq
        rw [ext_hit hk, List.mem_singleton] at h1
        rw [h1] at h2
        exact ih.no q h2
    · have hk : k ∉ p.keys := fun q => h (hp.mem_iff.mp q)
      by_cases z : cap = 0
      · have ih := best_all r { p with misses := p.misses + 1 } c hp hn hl
        refine ⟨?_, ?_⟩
        · rw [belR_zero h z, grR_zero h z]
          obtain ⟨q, hq, e1, e2⟩ := ih.is
          refine ⟨q, runs_cons.mpr ⟨_, by rw [ext_zero hk z]; exact List.mem_singleton.mpr rfl, hq⟩, ?_, e2⟩
          rw [e1]
          show p.misses + 1 + _ = p.misses + (_ + 1)
          omega
        · rw [belR_zero h z, grR_zero h z]
          intro q hq
          obtain ⟨p', h1, h2⟩ := runs_cons.mp hq
          rw [ext_zero hk z, List.mem_singleton] at h1
          rw [h1] at h2
          obtain ⟨a, es, b1, b2⟩ := ih.no q h2
          have a' : p.misses + 1 + (belR cap c r).1 ≤ q.misses := a
          refine ⟨by show p.misses + ((belR cap c r).1 + 1) ≤ _; omega, es, b1, fun e => b2 ?_⟩
          have e' : q.misses = p.misses + ((belR cap c r).1 + 1) := e
          show q.misses = p.misses + 1 + _
          omega
      · have len : p.keys.length = c.length := hp.length_eq
        by_cases f : c.length = cap
        · have full : ¬ p.keys.length < cap := by omega
          have ne := ne_nil z f
          have nx : ∀ v, v ∈ c → Best cap r (evict p k v) (other c v ++ [k]) := fun v hv => best_all r (evict p k v) _ (perm_evict v k hp) (ev_nodup hn h) (by rw [ev_len hn hv]; exact hl)
          have L := leastF_is (fun v => (belR cap (other c v ++ [k]) r).1) ne
          have F := farR_is r ne
          have best : ∀ v, v ∈ c → (belR cap (other c (farR r c) ++ [k]) r).1 ≤ (belR cap (other c v ++ [k]) r).1 := fun v hv => far_best z hn f h hv
          have eL : (belR cap (other c (leastF (fun v => (belR cap (other c v ++ [k]) r).1) c) ++ [k]) r).1 = (belR cap (other c (farR r c) ++ [k]) r).1 := by
            have a1 := best _ L.mem
            have a2 := L.least _ F.mem
            have a2' : (belR cap (other c (leastF (fun v => (belR cap (other c v ++ [k]) r).1) c) ++ [k]) r).1 ≤ (belR cap (other c (farR r c) ++ [k]) r).1 := by
              rcases a2 with a2 | ⟨a2, _⟩
              · exact Nat.le_of_lt a2
              · exact Nat.le_of_eq a2
            exact Nat.le_antisymm a2' a1
          refine ⟨?_, ?_⟩
          · rw [belR_full h z f, grR_full h z f]
            obtain ⟨q, hq, e1, e2⟩ := (nx _ L.mem).is
            refine ⟨q, runs_cons.mpr ⟨_, by rw [ext_full hk z full]; exact List.mem_map.mpr ⟨_, hp.mem_iff.mpr L.mem, rfl⟩, hq⟩, ?_, ?_⟩
            · rw [e1, eL]
              show p.misses + 1 + _ = p.misses + (_ + 1)
              omega
            · rw [e2]
              show p.evictions ++ [_] ++ _ = _
              rw [List.append_assoc]
              rfl
          · rw [belR_full h z f, grR_full h z f]
            intro q hq
            obtain ⟨p', h1, h2⟩ := runs_cons.mp hq
            rw [ext_full hk z full] at h1
            obtain ⟨v, hv, e⟩ := List.mem_map.mp h1
            rw [← e] at h2
            have hv' := hp.mem_iff.mp hv
            obtain ⟨a, es, b1, b2⟩ := (nx v hv').no q h2
            have a' : p.misses + 1 + (belR cap (other c v ++ [k]) r).1 ≤ q.misses := a
            have bb := best v hv'
            refine ⟨by show p.misses + ((belR cap _ r).1 + 1) ≤ _; omega, v :: es, by rw [b1]; show p.evictions ++ [v] ++ es = _; rw [List.append_assoc]; rfl, fun e => ?_⟩
            have e' : q.misses = p.misses + ((belR cap (other c (farR r c) ++ [k]) r).1 + 1) := e
            have ev : (belR cap (other c v ++ [k]) r).1 = (belR cap (other c (farR r c) ++ [k]) r).1 := by omega
            have b3 := b2 (by show q.misses = p.misses + 1 + _; omega)
            have lv := L.least v hv'
            have lv' : leastF (fun v => (belR cap (other c v ++ [k]) r).1) c ≤ v := by
              rcases lv with lv | ⟨_, lv⟩
              · have lv2 : (belR cap (other c (leastF (fun v => (belR cap (other c v ++ [k]) r).1) c) ++ [k]) r).1 < (belR cap (other c v ++ [k]) r).1 := lv
                omega
              · exact lv
            generalize hu : leastF (fun v => (belR cap (other c v ++ [k]) r).1) c = u at lv' ⊢
            by_cases x : v = u
            · rw [← x]
              simp only [isLess, Bool.or_eq_false_iff, decide_eq_false_iff_not, Nat.lt_irrefl, not_false_eq_true, beq_self_eq_true, Bool.true_and, true_and]
              exact b3
            · have n1 : ¬ v < u := by omega
              have n2 : (v == u) = false := by simpa using x
              simp [isLess, n1, n2]
        · have room : p.keys.length < cap := by omega
          have ih := best_all r { keys := insertSorted k p.keys, misses := p.misses + 1, evictions := p.evictions } (c ++ [k]) (perm_room k hp) (app_nodup hn h) (by rw [List.length_append, List.length_singleton]; omega)
          refine ⟨?_, ?_⟩
          · rw [belR_room h z f, grR_room h z f]
            obtain ⟨q, hq, e1, e2⟩ := ih.is
            refine ⟨q, runs_cons.mpr ⟨_, by rw [ext_room hk z room]; exact List.mem_singleton.mpr rfl, hq⟩, ?_, e2⟩
            rw [e1]
            show p.misses + 1 + _ = p.misses + (_ + 1)
            omega
          · rw [belR_room h z f, grR_room h z f]
            intro q hq
            obtain ⟨p', h1, h2⟩ := runs_cons.mp hq
            rw [ext_room hk z room, List.mem_singleton] at h1
            rw [h1] at h2
            obtain ⟨a, es, b1, b2⟩ := ih.no q h2
            have a' : p.misses + 1 + (belR cap (c ++ [k]) r).1 ≤ q.misses := a
            refine ⟨by show p.misses + ((belR cap _ r).1 + 1) ≤ _; omega, es, b1, fun e => b2 ?_⟩
            have e' : q.misses = p.misses + ((belR cap (c ++ [k]) r).1 + 1) := e
            show q.misses = p.misses + 1 + _
            omega
/-- THE OPTIMUM: the program's misses and evictions are the document's -/
theorem optimal_eq {s : List Nat} (hs : s.length ≤ 900) : (optimalPlan cap s).misses = (bel cap s 0 []).1 ∧ (optimalPlan cap s).evictions = optE cap s := by
  have B := best_all (cap := cap) s emptyPlan [] (.refl _) (by simp) (Nat.zero_le _)
  obtain ⟨h1, h2⟩ := optimal_is cap s
  obtain ⟨q, hq, e1, e2⟩ := B.is
  obtain ⟨a, es, b1, b2⟩ := B.no _ h1
  have e1' : q.misses = (belR cap [] s).1 := by rw [e1]; show 0 + _ = _; omega
  have a' : (belR cap [] s).1 ≤ (optimalPlan cap s).misses := by have : 0 + (belR cap [] s).1 ≤ (optimalPlan cap s).misses := a; omega
  have e2' : q.evictions = grR cap [] s := e2
  have b1' : (optimalPlan cap s).evictions = es := b1
  have nb := bet_f.mp (h2 q hq)
  have em : (optimalPlan cap s).misses = (belR cap [] s).1 := by
    rcases nb with nb | ⟨nb, _⟩ <;> omega
  have b3 := b2 (by rw [em]; show _ = 0 + _; omega)
  rw [bel_is hs, optE_is hs]
  refine ⟨em, ?_⟩
  rw [b1']
  refine less_tri b3 ?_
  rcases nb with nb | ⟨_, nb⟩
  · omega
  · rw [← e2', ← b1']
    exact nb
end
end Ks
namespace Ks
open Vakptc (nextUse Plan emptyPlan insertSorted evict farthestKey farthestPlan replayFrom phaseStartsFrom missCount accessAll emptyCache anomalyLength allSequences firstMaximum)
/-! ### Belady's algorithm -/
theorem fk_fold (r : List Nat) : ∀ (l : List Nat) (b : Nat), (b :: l).Pairwise (· ≤ ·) → IsFar r (b :: l) (l.foldl (fun a b => if nextUse r a < nextUse r b then b else a) b)
  | [], b, _ => ⟨by simp, fun u hu => by
      rw [List.mem_singleton] at hu
      rw [hu]
      exact .inr ⟨rfl, Nat.le_refl _⟩⟩
  | k :: l, b, h => by
    rw [List.foldl_cons]
    obtain ⟨h1, h2⟩ := List.pairwise_cons.mp h
    by_cases c : nextUse r b < nextUse r k
    · rw [if_pos c]
      have L := fk_fold r l k h2
      refine ⟨List.mem_cons_of_mem _ L.mem, fun u hu => ?_⟩
      rcases List.mem_cons.mp hu with q | q
      · subst q
        have := L.far k List.mem_cons_self
        exact .inl (by omega)
      · exact L.far u q
    · rw [if_neg c]
      have L := fk_fold r l b (List.pairwise_cons.mpr ⟨fun z hz => h1 z (List.mem_cons_of_mem _ hz), (List.pairwise_cons.mp h2).2⟩)
      refine ⟨?_, fun u hu => ?_⟩
      · rcases List.mem_cons.mp L.mem with q | q
        · rw [q]; exact List.mem_cons_self
        · exact List.mem_cons_of_mem _ (List.mem_cons_of_mem _ q)
      · rcases List.mem_cons.mp hu with q | q
        · rw [q]; exact L.far b List.mem_cons_self
        · rcases List.mem_cons.mp q with q | q
          · rw [q]
            have a1 := L.far b List.mem_cons_self
            have a2 := h1 k List.mem_cons_self
            omega
          · exact L.far u (List.mem_cons_of_mem _ q)
theorem fk_is {r p c : List Nat} (hp : p.Perm c) (hs : p.Pairwise (· ≤ ·)) (ne : c ≠ []) : farthestKey r p = some (farR r c) := by
  cases p with
  | nil => exact absurd hp.nil_eq.symm ne
  | cons b l =>
    show some (l.foldl (fun a b => if nextUse r a < nextUse r b then b else a) b) = _
    rw [(fk_fold r l b hs).uniq (farR_is r ne) fun x => hp.mem_iff]
theorem farthest_run {cap : Nat} : ∀ (r : List Nat) (p : Plan) (c : List Nat), p.keys.Perm c → p.keys.Pairwise (· ≤ ·) → c.Nodup → c.length ≤ cap →
    (farthestPlan cap p r).misses = p.misses + (belR cap c r).1 ∧ (farthestPlan cap p r).evictions = p.evictions ++ (belR cap c r).2
  | [], p, c, _, _, _, _ => by simp [farthestPlan, belR_nil]
  | k :: r, p, c, hp, hs, hn, hl => by
    by_cases h : k ∈ c
    · rw [belR_hit h, farthestPlan, if_pos (con_t (hp.mem_iff.mpr h))]
      exact farthest_run r p c hp hs hn hl
    · have hk : k ∉ p.keys := fun q => h (hp.mem_iff.mp q)
      by_cases z : cap = 0
      · rw [belR_zero h z, farthestPlan, if_neg (con_f hk), if_pos z]
        obtain ⟨a, b⟩ := farthest_run r { p with misses := p.misses + 1 } c hp hs hn hl
        refine ⟨?_, b⟩
        rw [a]
        show p.misses + 1 + _ = p.misses + (_ + 1)
        omega
      · have len : p.keys.length = c.length := hp.length_eq
        by_cases f : c.length = cap
        · have full : ¬ p.keys.length < cap := by omega
          have ne := ne_nil z f
          have F := farR_is r ne
          rw [belR_full h z f, farthestPlan, if_neg (con_f hk), if_neg z, if_neg full, fk_is hp hs ne]
          obtain ⟨a, b⟩ := farthest_run r (evict p k (farR r c)) (other c (farR r c) ++ [k]) (perm_evict _ k hp) (ins_sorted k (hs.sublist List.filter_sublist)) (ev_nodup hn h) (by rw [ev_len hn F.mem]; exact hl)
          refine ⟨?_, ?_⟩
          · show (farthestPlan cap (evict p k (farR r c)) r).misses = _
            rw [a]
            show p.misses + 1 + _ = p.misses + (_ + 1)
            omega
          · show (farthestPlan cap (evict p k (farR r c)) r).evictions = _
            rw [b]
            show p.evictions ++ [_] ++ _ = _
            rw [List.append_assoc]
            rfl
        · have room : p.keys.length < cap := by omega
          rw [belR_room h z f, farthestPlan, if_neg (con_f hk), if_neg z, if_pos room]
          have lc : (c ++ [k]).length ≤ cap := by rw [List.length_append, List.length_singleton]; omega
          obtain ⟨a, b⟩ := farthest_run r { keys := insertSorted k p.keys, misses := p.misses + 1, evictions := p.evictions } (c ++ [k]) (perm_room k hp) (ins_sorted k hs) (app_nodup hn h) lc
          refine ⟨?_, b⟩
          rw [a]
          show p.misses + 1 + _ = p.misses + (_ + 1)
          omega
theorem farthest_eq {cap : Nat} {s : List Nat} (hs : s.length ≤ 900) : (farthestPlan cap emptyPlan s).misses = (bel cap s 0 []).1 ∧ (farthestPlan cap emptyPlan s).evictions = (bel cap s 0 []).2 := by
  obtain ⟨a, b⟩ := farthest_run (cap := cap) s emptyPlan [] (.refl _) .nil (by simp) (Nat.zero_le _)
  rw [bel_is hs, List.drop_zero]
  refine ⟨?_, b⟩
  rw [a]
  exact Nat.zero_add _
/-! ### replaying -/
def repOut : Bool × Nat → Except Nat Nat
  | (true, m) => .ok m
  | (false, i) => .error i
theorem rf_cons (cap i : Nat) (p : Plan) (k : Nat) (r es : List Nat) : replayFrom cap i p (k :: r) es = 
    if p.keys.contains k = true then replayFrom cap (i + 1) p r es
    else if cap = 0 then replayFrom cap (i + 1) { p with misses := p.misses + 1 } r es
    else if p.keys.length < cap then replayFrom cap (i + 1) { keys := insertSorted k p.keys, misses := p.misses + 1, evictions := p.evictions } r es
    else match es with
      | [] => .error i
      | v :: more => if p.keys.contains v = true then replayFrom cap (i + 1) (evict p k v) r more else .error i := rfl
theorem rp_cons (cap i : Nat) (c : List Nat) (m : Nat) (es : List Nat) (k : Nat) (r : List Nat) : repF cap i c m es (k :: r) =
    if needs cap c k = true then match es with
      | [] => (false, i)
      | e :: es' => if c.contains e = true then repF cap (i + 1) (withKey cap (other c e) k) (if c.contains k = true then m else m + 1) es' r else (false, i)
    else repF cap (i + 1) (withKey cap c k) (if c.contains k = true then m else m + 1) es r := rfl
theorem replay_run {cap : Nat} : ∀ (r es : List Nat) (i : Nat) (p : Plan) (c : List Nat), p.keys.Perm c → c.Nodup → c.length ≤ cap → replayFrom cap i p r es = repOut (repF cap i c p.misses es r)
  | [], es, i, p, c, _, _, _ => by
    unfold replayFrom repF
    cases es <;> rfl
  | k :: r, es, i, p, c, hp, hn, hl => by
    by_cases h : k ∈ c
    · have e : ¬ needs cap c k = true := fun q => (needs_t.mp q).2.1 h
      rw [rf_cons, if_pos (con_t (hp.mem_iff.mpr h)), rp_cons, if_neg e, with_in h, if_pos (con_t h)]
      exact replay_run r es (i + 1) p c hp hn hl
    · have hk : k ∉ p.keys := fun q => h (hp.mem_iff.mp q)
      by_cases z : cap = 0
      · have e : ¬ needs cap c k = true := fun q => (needs_t.mp q).1 z
        rw [rf_cons, if_neg (con_f hk), if_pos z, rp_cons, if_neg e, with_zero z, if_neg (con_f h)]
        exact replay_run r es (i + 1) { p with misses := p.misses + 1 } c hp hn hl
      · have len : p.keys.length = c.length := hp.length_eq
        by_cases f : c.length = cap
        · have full : ¬ p.keys.length < cap := by omega
          have e : needs cap c k = true := needs_t.mpr ⟨z, h, f⟩
          rw [rf_cons, if_neg (con_f hk), if_neg z, if_neg full, rp_cons, if_pos e]
          cases es with
          | nil => rfl
          | cons v es =>
            show (if p.keys.contains v = true then replayFrom cap (i + 1) (evict p k v) r es else .error i) = repOut (if c.contains v = true then repF cap (i + 1) (withKey cap (other c v) k) (if c.contains k = true then p.misses else p.misses + 1) es r else (false, i))
            by_cases hv : v ∈ c
            · rw [if_pos (con_t (hp.mem_iff.mpr hv)), if_pos (con_t hv), if_neg (con_f h), with_new (fun q => h (mem_other.mp q).1) z]
              exact replay_run r es (i + 1) (evict p k v) _ (perm_evict v k hp) (ev_nodup hn h) (by rw [ev_len hn hv]; exact hl)
            · rw [if_neg (con_f fun q => hv (hp.mem_iff.mp q)), if_neg (con_f hv)]
              rfl
        · have room : p.keys.length < cap := by omega
          have e : ¬ needs cap c k = true := fun q => f (needs_t.mp q).2.2
          rw [rf_cons, if_neg (con_f hk), if_neg z, if_pos room, rp_cons, if_neg e, with_new h z, if_neg (con_f h)]
          exact replay_run r es (i + 1) { keys := insertSorted k p.keys, misses := p.misses + 1, evictions := p.evictions } (c ++ [k]) (perm_room k hp) (app_nodup hn h) (by rw [List.length_append, List.length_singleton]; omega)
theorem replay_eq (cap : Nat) (s es : List Nat) : Vakptc.replay cap s es = repOut (repF cap 0 [] 0 es s) := replay_run s es 0 emptyPlan [] (.refl _) (by simp) (Nat.zero_le _)
/-! ### phases -/
theorem phIt_itF (cap : Nat) (s : List Nat) : ∀ n, phIt cap s n = itF (fun j => phStep cap (0 + j) (s.getD (0 + j) 0)) ([], []) n
  | 0 => rfl
  | n + 1 => by
    show phStep _ _ _ _ = phStep _ _ _ _
    rw [phIt_itF cap s n, Nat.zero_add]
theorem phase_run {cap : Nat} {s : List Nat} (z : cap ≠ 0) : ∀ (n a : Nat) (st met seen : List Nat), n = s.length - a → 0 < a → st ≠ [] → met.Perm seen → met.length ≤ cap →
    (itF (fun j => phStep cap (a + j) (s.getD (a + j) 0)) (st, met) n).1 = st ++ phaseStartsFrom cap a seen (s.drop a)
  | 0, a, st, met, seen, h, _, _, _, _ => by
    have e : s.drop a = [] := List.drop_eq_nil_of_le (by omega)
    rw [e]
    simp [itF, phaseStartsFrom]
  | n + 1, a, st, met, seen, h, ha, hst, hp, hl => by
    rw [itF_front, drop_here (by omega)]
    have e3 : (fun j => phStep cap (a + (j + 1)) (s.getD (a + (j + 1)) 0)) = fun j => phStep cap (a + 1 + j) (s.getD (a + 1 + j) 0) := by
      funext j
      rw [show a + (j + 1) = a + 1 + j by omega]
    show (itF (fun j => phStep cap (a + (j + 1)) (s.getD (a + (j + 1)) 0)) (phStep cap a (s.getD a 0) (st, met)) n).1 = _
    rw [e3]
    generalize s.getD a 0 = k
    have len := hp.length_eq
    rw [phaseStartsFrom, if_neg (by omega)]
    by_cases c : k ∈ met
    · have e : phStep cap a k (st, met) = (st, met) := by
        unfold phStep
        rw [if_neg (fun q => by
          rcases q with q | ⟨q, _⟩
          · exact hst q
          · rw [show (st, met).2.contains k = true from con_t c] at q
            cases q), if_neg (fun q => by
          rw [show (st, met).2.contains k = true from con_t c] at q
          cases q)]
      rw [e, if_pos (con_t (hp.mem_iff.mp c))]
      exact phase_run z n (a + 1) st met seen (by omega) (by omega) hst hp hl
    · have cf : met.contains k = false := by simpa using c
      rw [if_neg (con_f fun q => c (hp.mem_iff.mpr q))]
      by_cases l : seen.length < cap
      · have e : phStep cap a k (st, met) = (st, met ++ [k]) := by
          unfold phStep
          rw [if_neg (fun q => by
            rcases q with q | ⟨_, q⟩
            · exact hst q
            · have q' : met.length = cap := q
              omega), if_pos (show (st, met).2.contains k = false from cf)]
        rw [e, if_pos l]
        exact phase_run z n (a + 1) st (met ++ [k]) (k :: seen) (by omega) (by omega) hst ((List.perm_append_comm (l₁ := met) (l₂ := [k])).trans (hp.cons k)) (by rw [List.length_append, List.length_singleton]; omega)
      · have e : phStep cap a k (st, met) = (st ++ [a], [k]) := by
          unfold phStep
          rw [if_pos (.inr ⟨cf, by show met.length = cap; omega⟩)]
        rw [e, if_neg l]
        rw [phase_run z n (a + 1) (st ++ [a]) [k] [k] (by omega) (by omega) (by simp) (.refl _) (by simp; omega)]
        rw [List.append_assoc]
        rfl
theorem phases_eq {cap : Nat} (z : cap ≠ 0) (s : List Nat) : (phIt cap s s.length).1 = Vakptc.phaseStarts cap s := by
  rw [phIt_itF]
  cases s with
  | nil => rfl
  | cons k r =>
    have e3 : (fun j => phStep cap (0 + (j + 1)) ((k :: r).getD (0 + (j + 1)) 0)) = fun j => phStep cap (1 + j) ((k :: r).getD (1 + j) 0) := by
      funext j
      rw [show 0 + (j + 1) = 1 + j by omega]
    rw [List.length_cons, itF_front]
    show (itF (fun j => phStep cap (0 + (j + 1)) ((k :: r).getD (0 + (j + 1)) 0)) (phStep cap 0 k ([], [])) r.length).1 = _
    rw [e3]
    have e : phStep cap 0 k ([], []) = ([0], [k]) := by
      unfold phStep
      rw [if_pos (.inl rfl)]
      rfl
    rw [e, phase_run z r.length 1 [0] [k] [k] (by simp) (by omega) (by simp) (.refl _) (by simp; omega)]
    show _ = phaseStartsFrom cap 0 [] (k :: r)
    rw [phaseStartsFrom, if_pos rfl]
    rfl
/-! ### the anomaly -/
theorem acc_snoc (c : Vakptc.Cache) (s : List Nat) (k : Nat) : accessAll c (s ++ [k]) = (Vakptc.access (accessAll c s) k).1 := by
  unfold accessAll
  rw [List.foldl_append]
  rfl
theorem take_here {s : List Nat} {a : Nat} (h : a < s.length) : s.take (a + 1) = s.take a ++ [s.getD a 0] := by
  rw [List.take_succ_eq_append_getElem h, List.getD_eq_getElem?_getD, List.getElem?_eq_getElem h]
  rfl
theorem anom_run {p cap : Nat} {s : List Nat} : ∀ (n i : Nat), i + n = s.length →
    anomF i (accessAll (emptyCache cap p) (s.take i)) (accessAll (emptyCache (cap + 1) p) (s.take i)) (s.drop i) =
      ((List.range' (i + 1) n).find? fun n => decide (missCount p cap (s.take n) < missCount p (cap + 1) (s.take n))).map fun n => (n, missCount p cap (s.take n), missCount p (cap + 1) (s.take n))
  | 0, i, h => by
    have e : s.drop i = [] := List.drop_eq_nil_of_le (by omega)
    rw [e]
    rfl
  | n + 1, i, h => by
    have hi : i < s.length := by omega
    rw [drop_here hi, anomF, ← acc_snoc, ← acc_snoc, ← take_here hi, List.range'_succ, List.find?_cons]
    show (if missCount p cap (s.take (i + 1)) < missCount p (cap + 1) (s.take (i + 1)) then _ else _) = _
    by_cases c : missCount p cap (s.take (i + 1)) < missCount p (cap + 1) (s.take (i + 1))
    · rw [if_pos c, decide_eq_true c]
      rfl
    · rw [if_neg c, decide_eq_false c]
      exact anom_run n (i + 1) (by omega)
theorem anomaly_eq (p cap : Nat) (s : List Nat) : anomF 0 (emptyCache cap p) (emptyCache (cap + 1) p) s = (anomalyLength p cap s).map fun n => (n, missCount p cap (s.take n), missCount p (cap + 1) (s.take n)) := by
  have h := anom_run (p := p) (cap := cap) (s := s) s.length 0 (by omega)
  unfold anomalyLength
  rw [List.range_eq_range', List.range'_succ, List.find?_cons]
  exact h
/-! ### all sequences -/
theorem flatMap_map' {α β γ : Type} (l : List α) (f : α → β) (g : β → List γ) : (l.map f).flatMap g = l.flatMap fun x => g (f x) := by
  induction l with
  | nil => rfl
  | cons a l ih => simp [List.flatMap_cons, ih]
theorem map_flatMap' {α β γ : Type} (l : List α) (f : β → γ) (g : α → List β) : (l.flatMap g).map f = l.flatMap fun x => (g x).map f := by
  induction l with
  | nil => rfl
  | cons a l ih => simp [List.flatMap_cons, ih]
theorem flatMap_flatMap' {α β γ : Type} (l : List α) (f : α → List β) (g : β → List γ) : (l.flatMap f).flatMap g = l.flatMap fun x => (f x).flatMap g := by
  induction l with
  | nil => rfl
  | cons a l ih => simp [List.flatMap_cons, ih]
theorem seqs_snoc (kb : Nat) : ∀ n, allSequences kb (n + 1) = (allSequences kb n).flatMap fun s => (List.range kb).map fun k => s ++ [k]
  | 0 => by
    show ((List.range kb).flatMap fun x => [[]].map fun r => x :: r) = [[]].flatMap fun s => (List.range kb).map fun k => s ++ [k]
    simp only [List.map_cons, List.map_nil, List.flatMap_cons, List.flatMap_nil, List.nil_append, List.append_nil]
    induction List.range kb with
    | nil => rfl
    | cons a l ih => simp [List.flatMap_cons, ih]
  | n + 1 => by
    conv => lhs; rw [allSequences, seqs_snoc kb n]
    conv => rhs; rw [allSequences]
    rw [flatMap_flatMap']
    congr 1
    funext x
    rw [map_flatMap', flatMap_map']
    congr 1
    funext s
    rw [List.map_map]
    rfl
theorem allRows_eq (cs : List Vakptc.Cache) (kb : Nat) : ∀ n, allRows cs kb n = (allSequences kb n).map fun s => (s, cs.map fun c => accessAll c s)
  | 0 => by
    show [(([] : List Nat), cs)] = [([], cs.map fun c => accessAll c [])]
    rw [show (fun c => accessAll c []) = (id : Vakptc.Cache → Vakptc.Cache) from rfl, List.map_id]
  | n + 1 => by
    rw [allRows, allRows_eq cs kb n, seqs_snoc]
    unfold longer
    rw [flatMap_map', map_flatMap']
    congr 1
    funext s
    rw [List.map_map]
    congr 1
    funext k
    show rowKey (s, cs.map fun c => accessAll c s) k = (s ++ [k], cs.map fun c => accessAll c (s ++ [k]))
    unfold rowKey
    rw [List.map_map]
    congr 2
    funext c
    exact (acc_snoc c s k).symm
theorem seqs_ne {kb : Nat} (h : 0 < kb) : ∀ n, allSequences kb n ≠ []
  | 0 => by simp [allSequences]
  | n + 1 => fun e => by
    rw [seqs_snoc] at e
    rw [List.flatMap_eq_nil_iff] at e
    obtain ⟨s, hs⟩ := List.exists_mem_of_ne_nil _ (seqs_ne h n)
    have := e s hs
    rw [List.map_eq_nil_iff, List.range_eq_nil] at this
    omega
theorem great_fold (a b : List Nat → Nat) : ∀ (l : List (List Nat)) (s : List Nat), (l.map fun s => (s, a s, b s)).foldl grStep (s, a s, b s) =
    ((l.foldl (fun (best : List Nat × Int) c => if best.2 < ((a c : Int) - (b c : Int)) then (c, ((a c : Int) - (b c : Int))) else best) (s, (a s : Int) - (b s : Int))).1,
     a (l.foldl (fun (best : List Nat × Int) c => if best.2 < ((a c : Int) - (b c : Int)) then (c, ((a c : Int) - (b c : Int))) else best) (s, (a s : Int) - (b s : Int))).1,
     b (l.foldl (fun (best : List Nat × Int) c => if best.2 < ((a c : Int) - (b c : Int)) then (c, ((a c : Int) - (b c : Int))) else best) (s, (a s : Int) - (b s : Int))).1)
  | [], s => rfl
  | x :: l, s => by
    rw [List.map_cons, List.foldl_cons, List.foldl_cons]
    by_cases c : (a s : Int) - (b s : Int) < (a x : Int) - (b x : Int)
    · have e : grStep (s, a s, b s) (x, a x, b x) = (x, a x, b x) := if_pos c
      rw [e, if_pos c]
      exact great_fold a b l x
    · have e : grStep (s, a s, b s) (x, a x, b x) = (s, a s, b s) := if_neg c
      rw [e, if_neg c]
      exact great_fold a b l s
theorem great_is (a b : List Nat → Nat) {l : List (List Nat)} (h : l ≠ []) : greatest (l.map fun s => (s, a s, b s)) =
    (firstMaximum (fun s => (a s : Int) - (b s : Int)) l, a (firstMaximum (fun s => (a s : Int) - (b s : Int)) l), b (firstMaximum (fun s => (a s : Int) - (b s : Int)) l)) := by
  cases l with
  | nil => exact absurd rfl h
  | cons s l => exact great_fold a b l s
theorem separating_eq {p q cap kb : Nat} (n : Nat) (h : 0 < kb) : separating p q cap kb n =
    (Vakptc.separatingSequence p q cap kb n, missCount p cap (Vakptc.separatingSequence p q cap kb n), missCount q cap (Vakptc.separatingSequence p q cap kb n)) := by
  unfold separating
  rw [allRows_eq, List.map_map]
  exact great_is (missCount p cap) (missCount q cap) (seqs_ne h n)
theorem seqs_len {kb : Nat} : ∀ {n : Nat} {s : List Nat}, s ∈ allSequences kb n → s.length = n
  | 0, s, h => by
    simp [allSequences] at h
    rw [h]
    rfl
  | n + 1, s, h => by
    rw [seqs_snoc, List.mem_flatMap] at h
    obtain ⟨r, hr, h⟩ := h
    obtain ⟨k, _, e⟩ := List.mem_map.mp h
    rw [← e, List.length_append, seqs_len hr]
    rfl
theorem worsting_eq {p cap kb n : Nat} (h : 0 < kb) (hn : n ≤ 900) : worsting p cap kb n =
    (Vakptc.worstSequence p cap kb n, missCount p cap (Vakptc.worstSequence p cap kb n), (Vakptc.optimalPlan cap (Vakptc.worstSequence p cap kb n)).misses) := by
  unfold worsting
  rw [allRows_eq, List.map_map]
  have e : (allSequences kb n).map (worRow cap ∘ fun s => (s, [emptyCache cap p].map fun c => accessAll c s)) = (allSequences kb n).map fun s => (s, missCount p cap s, (Vakptc.optimalPlan cap s).misses) := by
    refine List.map_congr_left fun s hs => ?_
    show (s, missCount p cap s, (bel cap s 0 []).1) = (s, missCount p cap s, (Vakptc.optimalPlan cap s).misses)
    rw [(optimal_eq (cap := cap) (s := s) (by rw [seqs_len hs]; exact hn)).1]
  rw [e]
  exact great_is (missCount p cap) (fun s => (Vakptc.optimalPlan cap s).misses) (seqs_ne h n)
theorem seqs_size (kb : Nat) : ∀ n, (allSequences kb n).length = kb ^ n
  | 0 => rfl
  | n + 1 => by
    rw [seqs_snoc, List.length_flatMap]
    have : (allSequences kb n).map (fun s => ((List.range kb).map fun k => s ++ [k]).length) = List.replicate (allSequences kb n).length kb := by
      rw [List.eq_replicate_iff]
      simp
    rw [this, List.sum_replicate_nat, seqs_size kb n]
    rfl
end Ks
namespace Ks
open Vakptc (Entry Cache firstIndexBy rotateReferenced selectVictim cachedKeys contains insertKey recordUse access emptyCache)
/-! ### places of entries -/
theorem find_place {es : List Entry} {P : Entry → Bool} {g : Entry → Nat} {m : Nat} (h : ∀ a ∈ es, (P a = true ↔ g a = m)) (hm : m ∈ es.map g) :
    (es.map g)[(es.findIdx? P).getD 0]? = some m ∧ ∀ i, i < (es.findIdx? P).getD 0 → (es.map g)[i]? ≠ some m := by
  obtain ⟨a, ha, e⟩ := List.mem_map.mp hm
  have hP := (h a ha).mpr e
  cases q : es.findIdx? P with
  | none =>
    rw [List.findIdx?_eq_none_iff] at q
    have := q a ha
    rw [hP] at this
    cases this
  | some j =>
    rw [List.findIdx?_eq_some_iff_getElem] at q
    obtain ⟨hj, h1, h2⟩ := q
    show (es.map g)[j]? = some m ∧ ∀ i, i < j → (es.map g)[i]? ≠ some m
    refine ⟨?_, fun i hi z => ?_⟩
    · rw [List.getElem?_map, List.getElem?_eq_getElem hj]
      exact congrArg some ((h _ (List.getElem_mem hj)).mp h1)
    · have hi' : i < es.length := Nat.lt_trans hi hj
      rw [List.getElem?_map, List.getElem?_eq_getElem hi'] at z
      have z' : g es[i] = m := Option.some.inj z
      have := h2 i hi
      rw [(h _ (List.getElem_mem hi')).mpr z'] at this
      simp at this
theorem place_lru {es : List Entry} {m : Nat} (hm : m ∈ es.map (·.lastUse)) (hle : ∀ y ∈ es.map (·.lastUse), m ≤ y) :
    (es.map (·.lastUse))[firstIndexBy (fun a b => decide (a.lastUse < b.lastUse)) es]? = some m ∧ ∀ i, i < firstIndexBy (fun a b => decide (a.lastUse < b.lastUse)) es → (es.map (·.lastUse))[i]? ≠ some m := by
  refine find_place (fun a ha => ?_) hm
  rw [List.all_eq_true]
  simp only [Bool.not_eq_true', decide_eq_false_iff_not]
  obtain ⟨b, hb, e⟩ := List.mem_map.mp hm
  constructor
  · intro h
    have h1 := h b hb
    have h2 := hle a.lastUse (List.mem_map.mpr ⟨a, ha, rfl⟩)
    have e' : b.lastUse = m := e
    omega
  · intro h c hc
    have h2 := hle c.lastUse (List.mem_map.mpr ⟨c, hc, rfl⟩)
    have h' : a.lastUse = m := h
    omega
theorem place_mru {es : List Entry} {m : Nat} (hm : m ∈ es.map (·.lastUse)) (hle : ∀ y ∈ es.map (·.lastUse), y ≤ m) :
    (es.map (·.lastUse))[firstIndexBy (fun a b => decide (b.lastUse < a.lastUse)) es]? = some m ∧ ∀ i, i < firstIndexBy (fun a b => decide (b.lastUse < a.lastUse)) es → (es.map (·.lastUse))[i]? ≠ some m := by
  refine find_place (fun a ha => ?_) hm
  rw [List.all_eq_true]
  simp only [Bool.not_eq_true', decide_eq_false_iff_not]
  obtain ⟨b, hb, e⟩ := List.mem_map.mp hm
  constructor
  · intro h
    have h1 := h b hb
    have h2 := hle a.lastUse (List.mem_map.mpr ⟨a, ha, rfl⟩)
    have e' : b.lastUse = m := e
    omega
  · intro h c hc
    have h2 := hle c.lastUse (List.mem_map.mpr ⟨c, hc, rfl⟩)
    have h' : a.lastUse = m := h
    omega
/-- the entry with a last use, of several with unlike ones -/
theorem last_uniq {es : List Entry} (hn : (es.map (·.lastUse)).Nodup) {a b : Entry} (ha : a ∈ es) (hb : b ∈ es) (e : a.lastUse = b.lastUse) : a = b := by
  induction es with
  | nil => simp at ha
  | cons x es ih =>
    rw [List.map_cons, List.nodup_cons] at hn
    rcases List.mem_cons.mp ha with h1 | h1 <;> rcases List.mem_cons.mp hb with h2 | h2
    · rw [h1, h2]
    · exact absurd (List.mem_map.mpr ⟨b, h2, by rw [← e, h1]⟩) hn.1
    · exact absurd (List.mem_map.mpr ⟨a, h1, by rw [e, h2]⟩) hn.1
    · exact ih hn.2 h1 h2
theorem place_lfu {es : List Entry} {few m : Nat} (hn : (es.map (·.lastUse)).Nodup) (hf : few ∈ es.map (·.useCount)) (hfl : ∀ y ∈ es.map (·.useCount), few ≤ y)
    (hm : m ∈ (es.filter fun e => decide (e.useCount = few)).map (·.lastUse)) (hml : ∀ y ∈ (es.filter fun e => decide (e.useCount = few)).map (·.lastUse), m ≤ y) :
    (es.map (·.lastUse))[firstIndexBy (fun a b => decide (a.useCount < b.useCount ∨ (a.useCount = b.useCount ∧ a.lastUse < b.lastUse))) es]? = some m ∧
      ∀ i, i < firstIndexBy (fun a b => decide (a.useCount < b.useCount ∨ (a.useCount = b.useCount ∧ a.lastUse < b.lastUse))) es → (es.map (·.lastUse))[i]? ≠ some m := by
  obtain ⟨b, hb, e⟩ := List.mem_map.mp hm
  obtain ⟨hb, ec⟩ := List.mem_filter.mp hb
  have ec : b.useCount = few := by simpa using ec
  have eb : b.lastUse = m := e
  refine find_place (fun a ha => ?_) (List.mem_map.mpr ⟨b, hb, e⟩)
  rw [List.all_eq_true]
  simp only [Bool.not_eq_true', decide_eq_false_iff_not]
  have fa := hfl a.useCount (List.mem_map.mpr ⟨a, ha, rfl⟩)
  constructor
  · intro h
    have h1 := h b hb
    have ea : a.useCount = few := by omega
    have h3 := hml a.lastUse (List.mem_map.mpr ⟨a, List.mem_filter.mpr ⟨ha, by simpa using ea⟩, rfl⟩)
    show a.lastUse = m
    omega
  · intro h c hc
    have ab : a = b := last_uniq hn ha hb (by have h' : a.lastUse = m := h; omega)
    rw [ab]
    have fc := hfl c.useCount (List.mem_map.mpr ⟨c, hc, rfl⟩)
    intro q
    rcases q with q | ⟨q1, q2⟩
    · omega
    · have h3 := hml c.lastUse (List.mem_map.mpr ⟨c, List.mem_filter.mpr ⟨hc, by simp; omega⟩, rfl⟩)
      omega
theorem fib_lt {p : Entry → Entry → Bool} {es : List Entry} (h : es ≠ []) : firstIndexBy p es < es.length := by
  unfold firstIndexBy
  cases q : es.findIdx? (fun a => es.all fun b => !p b a) with
  | none => exact List.length_pos_iff.mpr h
  | some j =>
    rw [List.findIdx?_eq_some_iff_getElem] at q
    exact q.1
/-! ### the second chance -/
def clr (e : Entry) : Entry := { e with referenced := false }
def refs (es : List Entry) : Nat := (es.filter (·.referenced)).length
theorem refs_app (a b : List Entry) : refs (a ++ b) = refs a + refs b := by
  unfold refs
  rw [List.filter_append, List.length_append]
theorem refs_le (es : List Entry) : refs es ≤ es.length := List.length_filter_le _ _
theorem refs_yes {e : Entry} {r : List Entry} (h : e.referenced = true) : refs (e :: r) = refs (r ++ [clr e]) + 1 := by
  rw [refs_app]
  unfold refs
  rw [List.filter_cons, if_pos h]
  rfl
theorem rot_yes {n : Nat} {e : Entry} {r : List Entry} (h : e.referenced = true) : rotateReferenced (n + 1) (e :: r) = rotateReferenced n (r ++ [clr e]) := by
  rw [rotateReferenced, if_pos h]
  rfl
theorem rot_no {e : Entry} {r : List Entry} (h : e.referenced = false) : ∀ n, rotateReferenced n (e :: r) = e :: r
  | 0 => rfl
  | n + 1 => by rw [rotateReferenced, if_neg (by rw [h]; exact Bool.false_ne_true)]
theorem rot_map {α : Type} (f : Entry → α) (hf : ∀ e, f (clr e) = f e) : ∀ (n : Nat) (es : List Entry), ((rotateReferenced n es).map f).Perm (es.map f)
  | 0, es => by rw [rotateReferenced.eq_def]
  | n + 1, [] => .refl _
  | n + 1, e :: r => by
    rw [rotateReferenced]
    split
    · refine (rot_map f hf n _).trans ?_
      rw [List.map_append, List.map_cons, List.map_cons]
      have e1 : f { key := e.key, lastUse := e.lastUse, useCount := e.useCount, referenced := false } = f e := hf e
      rw [e1]
      exact List.perm_append_comm (l₁ := List.map f r) (l₂ := [f e])
    · exact .refl _
theorem rot_len (n : Nat) (es : List Entry) : (rotateReferenced n es).length = es.length := by
  have := (rot_map (fun _ => ()) (fun _ => rfl) n es).length_eq
  simpa using this
/-! ### a cache as it may be -/
structure Wfc (c : Cache) : Prop where
  cap : c.capacity ≤ 7
  len : c.entries.length ≤ c.capacity
  keys : (c.entries.map (·.key)).Nodup
  lasts : (c.entries.map (·.lastUse)).Nodup
  old : ∀ e ∈ c.entries, e.lastUse ≤ c.hits + c.misses
theorem wfc_empty {cap p : Nat} (h : cap ≤ 7) : Wfc (emptyCache cap p) := ⟨h, Nat.zero_le _, .nil, .nil, fun e he => by cases he⟩
theorem con_iff {c : Cache} {k : Nat} : contains c k = true ↔ k ∈ c.entries.map (·.key) := by
  unfold contains cachedKeys
  exact List.contains_iff_mem
def hitC (c : Cache) (k : Nat) : Cache := { c with entries := recordUse (c.hits + c.misses + 1) k c.entries, hits := c.hits + 1 }
def missC (c : Cache) (k : Nat) : Cache := { c with entries := (insertKey c (c.hits + c.misses + 1) k).1, misses := c.misses + 1 }
def goneC (c : Cache) (k : Nat) : List Nat := (insertKey c (c.hits + c.misses + 1) k).2.toList
theorem acc_hit {c : Cache} {k : Nat} (h : contains c k = true) : access c k = (hitC c k, none) := by
  unfold access
  simp only [h, if_true]
  rfl
theorem acc_miss {c : Cache} {k : Nat} (h : contains c k = false) : access c k = (missC c k, (insertKey c (c.hits + c.misses + 1) k).2) := by
  unfold access
  simp only [h, Bool.false_eq_true, if_false]
  rfl
theorem sel_len (p : Nat) (es : List Entry) : (selectVictim p es).1.length = es.length := by
  unfold selectVictim
  repeat (split; rfl)
  split
  · exact rot_len _ _
  · rfl
theorem sel_map {α : Type} (f : Entry → α) (hf : ∀ e, f (clr e) = f e) (p : Nat) (es : List Entry) : ((selectVictim p es).1.map f).Perm (es.map f) := by
  unfold selectVictim
  split
  · exact .refl _
  · split
    · exact .refl _
    · split
      · exact .refl _
      · split
        · exact rot_map f hf _ _
        · exact .refl _
theorem sel_lt {p : Nat} {es : List Entry} (h : es ≠ []) : (selectVictim p es).2 < es.length := by
  have h0 : 0 < es.length := List.length_pos_iff.mpr h
  unfold selectVictim
  split
  · exact fib_lt h
  · split
    · exact fib_lt h
    · split
      · exact fib_lt h
      · split
        · exact h0
        · exact h0
theorem wfc_hit {c : Cache} {k : Nat} (w : Wfc c) : Wfc (hitC c k) := by
  have ek : (hitC c k).entries.map (·.key) = c.entries.map (·.key) := by
    show (c.entries.map _).map _ = _
    rw [List.map_map]
    refine List.map_congr_left fun e he => ?_
    show (if e.key = k then _ else _ : Entry).key = e.key
    split <;> rfl
  refine ⟨w.cap, ?_, ?_, ?_, ?_⟩
  · show (c.entries.map _).length ≤ c.capacity
    rw [List.length_map]
    exact w.len
  · rw [ek]
    exact w.keys
  · show ((c.entries.map _).map _).Nodup
    rw [List.map_map]
    have hl := w.lasts
    have hk := w.keys
    have ho := w.old
    generalize c.entries = es at hl hk ho
    induction es with
    | nil => exact .nil
    | cons e es ih =>
      rw [List.map_cons, List.nodup_cons] at hl hk
      rw [List.map_cons, List.nodup_cons]
      refine ⟨fun q => ?_, ih hl.2 hk.2 fun x hx => ho x (List.mem_cons_of_mem _ hx)⟩
      obtain ⟨x, hx, ex⟩ := List.mem_map.mp q
      have ex' : (if x.key = k then { x with lastUse := c.hits + c.misses + 1, useCount := x.useCount + 1, referenced := true } else x : Entry).lastUse = (if e.key = k then { e with lastUse := c.hits + c.misses + 1, useCount := e.useCount + 1, referenced := true } else e : Entry).lastUse := ex
      have oe := ho e List.mem_cons_self
      have ox := ho x (List.mem_cons_of_mem _ hx)
      by_cases c1 : x.key = k
      · by_cases c2 : e.key = k
        · exact hk.1 (List.mem_map.mpr ⟨x, hx, c1.trans c2.symm⟩)
        · rw [if_pos c1, if_neg c2] at ex'
          have : c.hits + c.misses + 1 = e.lastUse := ex'
          omega
      · by_cases c2 : e.key = k
        · rw [if_neg c1, if_pos c2] at ex'
          have : x.lastUse = c.hits + c.misses + 1 := ex'
          omega
        · rw [if_neg c1, if_neg c2] at ex'
          exact hl.1 (List.mem_map.mpr ⟨x, hx, ex'⟩)
  · intro e he
    obtain ⟨x, hx, ex⟩ := List.mem_map.mp he
    have := w.old x hx
    rw [← ex]
    show (if x.key = k then _ else _ : Entry).lastUse ≤ c.hits + 1 + c.misses
    split
    · show c.hits + c.misses + 1 ≤ _
      omega
    · omega
theorem ins_zero {c : Cache} {now k : Nat} (h : c.capacity = 0) : insertKey c now k = ([], none) := by
  unfold insertKey
  rw [if_pos h]
theorem ins_room {c : Cache} {now k : Nat} (h : c.capacity ≠ 0) (l : c.entries.length < c.capacity) : insertKey c now k = (c.entries ++ [{ key := k, lastUse := now, useCount := 1, referenced := false }], none) := by
  unfold insertKey
  rw [if_neg h, if_pos l]
theorem ins_full {c : Cache} {now k : Nat} (h : c.capacity ≠ 0) (l : ¬ c.entries.length < c.capacity) : insertKey c now k =
    ((selectVictim c.policy c.entries).1.eraseIdx (selectVictim c.policy c.entries).2 ++ [{ key := k, lastUse := now, useCount := 1, referenced := false }], ((selectVictim c.policy c.entries).1[(selectVictim c.policy c.entries).2]?).map fun e => e.key) := by
  unfold insertKey
  rw [if_neg h, if_neg l]
theorem nodup_snoc {α : Type} {l : List α} {x : α} (h : l.Nodup) (hx : x ∉ l) : (l ++ [x]).Nodup := by
  rw [List.nodup_append]
  refine ⟨h, by simp, fun a ha b hb => ?_⟩
  rw [List.mem_singleton] at hb
  subst hb
  exact fun e => hx (e ▸ ha)
theorem wfc_kept {c : Cache} {k : Nat} {l : List Entry} (w : Wfc c) (hk : contains c k = false) (len : l.length + 1 ≤ c.capacity) (s1 : ∃ m, (l.map (·.key)).Sublist m ∧ m.Perm (c.entries.map (·.key)))
    (s2 : ∃ m, (l.map (·.lastUse)).Sublist m ∧ m.Perm (c.entries.map (·.lastUse))) :
    Wfc { c with entries := l ++ [{ key := k, lastUse := c.hits + c.misses + 1, useCount := 1, referenced := false }], misses := c.misses + 1 } := by
  have hk' : k ∉ c.entries.map (·.key) := fun q => by
    rw [con_iff.mpr q] at hk
    cases hk
  obtain ⟨m1, a1, b1⟩ := s1
  obtain ⟨m2, a2, b2⟩ := s2
  have old : ∀ y ∈ l.map (·.lastUse), y ≤ c.hits + c.misses := fun y hy => by
    obtain ⟨e, he, ee⟩ := List.mem_map.mp (b2.mem_iff.mp (a2.mem hy))
    rw [← ee]
    exact w.old e he
  refine ⟨w.cap, ?_, ?_, ?_, ?_⟩
  · show (l ++ [_]).length ≤ c.capacity
    rw [List.length_append]
    exact len
  · show ((l ++ [_]).map _).Nodup
    rw [List.map_append]
    exact nodup_snoc ((b1.nodup_iff.mpr w.keys).sublist a1) fun q => hk' (b1.mem_iff.mp (a1.mem q))
  · show ((l ++ [_]).map _).Nodup
    rw [List.map_append]
    refine nodup_snoc ((b2.nodup_iff.mpr w.lasts).sublist a2) fun q => ?_
    have := old _ q
    have e : c.hits + c.misses + 1 ≤ c.hits + c.misses := this
    omega
  · intro e he
    show e.lastUse ≤ c.hits + (c.misses + 1)
    rcases List.mem_append.mp he with q | q
    · have := old _ (List.mem_map.mpr ⟨e, q, rfl⟩)
      have e' : e.lastUse ≤ c.hits + c.misses := this
      omega
    · rw [List.mem_singleton] at q
      rw [q]
      show c.hits + c.misses + 1 ≤ _
      omega
theorem wfc_miss {c : Cache} {k : Nat} (w : Wfc c) (hk : contains c k = false) : Wfc (missC c k) := by
  unfold missC
  by_cases z : c.capacity = 0
  · rw [ins_zero z]
    exact ⟨w.cap, Nat.zero_le _, .nil, .nil, fun e he => by cases he⟩
  · by_cases l : c.entries.length < c.capacity
    · rw [ins_room z l]
      exact wfc_kept w hk l ⟨_, List.Sublist.refl _, .refl _⟩ ⟨_, List.Sublist.refl _, .refl _⟩
    · rw [ins_full z l]
      have ne : c.entries ≠ [] := fun e => by
        rw [e] at l
        have : ¬ 0 < c.capacity := l
        omega
      have lt := sel_lt (p := c.policy) ne
      have ll := sel_len c.policy c.entries
      refine wfc_kept w hk ?_ ⟨_, (List.eraseIdx_sublist _ _).map _, sel_map (fun e => e.key) (fun _ => rfl) _ _⟩ ⟨_, (List.eraseIdx_sublist _ _).map _, sel_map (fun e => e.lastUse) (fun _ => rfl) _ _⟩
      rw [List.length_eraseIdx, if_pos (by omega)]
      have := w.len
      omega
theorem wfc_acc {c : Cache} {k : Nat} (w : Wfc c) : Wfc (access c k).1 := by
  cases h : contains c k with
  | true => rw [acc_hit h]; exact wfc_hit w
  | false => rw [acc_miss h]; exact wfc_miss w h
theorem wfc_remove {c : Cache} {k : Nat} (w : Wfc c) : Wfc { c with entries := c.entries.filter fun e => e.key != k } :=
  ⟨w.cap, Nat.le_trans (List.length_filter_le _ _) w.len, w.keys.sublist (List.filter_sublist.map _), w.lasts.sublist (List.filter_sublist.map _), fun e he => w.old e (List.mem_filter.mp he).1⟩
end Ks
namespace Ks
open Vakptc (step natural withLength flag validCapacity validPolicy validKey validSequence inRange emptyCache access contains accessAll cachedKeys optimalPlan farthestPlan emptyPlan missCount)
open VakptcNeutral (callOf nats)
/-! ### the calls by their rows -/
theorem co0 {ns : List Int} {ls : List (List Int)} {k : Vakptc.Call} (h : callOf ((0 :: ns) :: ls) = some k) : ∃ r p, ns = [r, p] ∧ ls = [] ∧ k = .configure r p := by
  unfold callOf at h; split at h <;> simp_all; exact ⟨_, _, ⟨rfl, rfl⟩, h.symm⟩
theorem co1 {ns : List Int} {ls : List (List Int)} {k : Vakptc.Call} (h : callOf ((1 :: ns) :: ls) = some k) : ∃ r, ns = [r] ∧ ls = [] ∧ k = .access r := by
  unfold callOf at h; split at h <;> simp_all
theorem co2 {ns : List Int} {ls : List (List Int)} {k : Vakptc.Call} (h : callOf ((2 :: ns) :: ls) = some k) : ∃ r, ns = [r] ∧ ls = [] ∧ k = .remove r := by
  unfold callOf at h; split at h <;> simp_all
theorem co3 {ns : List Int} {ls : List (List Int)} {k : Vakptc.Call} (h : callOf ((3 :: ns) :: ls) = some k) : ns = [] ∧ ls = [] ∧ k = .contents := by
  unfold callOf at h; split at h <;> simp_all
theorem co4 {ns : List Int} {ls : List (List Int)} {k : Vakptc.Call} (h : callOf ((4 :: ns) :: ls) = some k) : ns = [] ∧ ls = [] ∧ k = .nextVictim := by
  unfold callOf at h; split at h <;> simp_all
theorem co5 {ns : List Int} {ls : List (List Int)} {k : Vakptc.Call} (h : callOf ((5 :: ns) :: ls) = some k) : ns = [] ∧ ls = [] ∧ k = .counters := by
  unfold callOf at h; split at h <;> simp_all
theorem co6 {ns : List Int} {ls : List (List Int)} {k : Vakptc.Call} (h : callOf ((6 :: ns) :: ls) = some k) : ∃ r p l, ns = [r, p] ∧ ls = [l] ∧ k = .simulate r p (nats l) := by
  unfold callOf at h; split at h <;> simp_all; exact ⟨_, _, ⟨rfl, rfl⟩, h.symm⟩
theorem co7 {ns : List Int} {ls : List (List Int)} {k : Vakptc.Call} (h : callOf ((7 :: ns) :: ls) = some k) : ∃ r l, ns = [r] ∧ ls = [l] ∧ k = .optimal r (nats l) := by
  unfold callOf at h; split at h <;> simp_all
theorem co8 {ns : List Int} {ls : List (List Int)} {k : Vakptc.Call} (h : callOf ((8 :: ns) :: ls) = some k) : ∃ r l, ns = [r] ∧ ls = [l] ∧ k = .farthest r (nats l) := by
  unfold callOf at h; split at h <;> simp_all
theorem co9 {ns : List Int} {ls : List (List Int)} {k : Vakptc.Call} (h : callOf ((9 :: ns) :: ls) = some k) : ∃ r l e, ns = [r] ∧ ls = [l, e] ∧ k = .replay r (nats l) (nats e) := by
  unfold callOf at h; split at h <;> simp_all; exact ⟨_, _, ⟨rfl, rfl⟩, h.symm⟩
theorem co10 {ns : List Int} {ls : List (List Int)} {k : Vakptc.Call} (h : callOf ((10 :: ns) :: ls) = some k) : ∃ r l, ns = [r] ∧ ls = [l] ∧ k = .phases r (nats l) := by
  unfold callOf at h; split at h <;> simp_all
theorem co11 {ns : List Int} {ls : List (List Int)} {k : Vakptc.Call} (h : callOf ((11 :: ns) :: ls) = some k) : ∃ p q r m n, ns = [p, q, r, m, n] ∧ ls = [] ∧ k = .separate p q r m n := by
  unfold callOf at h; split at h <;> simp_all; exact ⟨_, _, _, _, _, ⟨rfl, rfl, rfl, rfl, rfl⟩, h.symm⟩
theorem co12 {ns : List Int} {ls : List (List Int)} {k : Vakptc.Call} (h : callOf ((12 :: ns) :: ls) = some k) : ∃ p r m n, ns = [p, r, m, n] ∧ ls = [] ∧ k = .worst p r m n := by
  unfold callOf at h; split at h <;> simp_all; exact ⟨_, _, _, _, ⟨rfl, rfl, rfl, rfl⟩, h.symm⟩
theorem co13 {ns : List Int} {ls : List (List Int)} {k : Vakptc.Call} (h : callOf ((13 :: ns) :: ls) = some k) : ∃ p r l, ns = [p, r] ∧ ls = [l] ∧ k = .anomaly p r (nats l) := by
  unfold callOf at h; split at h <;> simp_all; exact ⟨_, _, ⟨rfl, rfl⟩, h.symm⟩
/-! ### numbers that were let through -/
theorem nat_in {lo hi : Nat} {z : Int} (h : inRange lo hi z = true) : ∃ n : Nat, z = n ∧ lo ≤ n ∧ n ≤ hi := by
  unfold inRange at h
  rw [Bool.and_eq_true, decide_eq_true_iff, decide_eq_true_iff] at h
  exact ⟨z.toNat, by omega, by omega, by omega⟩
theorem nat_cap {z : Int} (h : validCapacity z = true) : ∃ n : Nat, z = n ∧ n ≤ 6 := by
  obtain ⟨n, e, _, b⟩ := nat_in (lo := 0) (hi := 6) (z := z) h
  exact ⟨n, e, b⟩
theorem nat_pol {z : Int} (h : validPolicy z = true) : ∃ n : Nat, z = n ∧ n ≤ 4 := by
  obtain ⟨n, e, _, b⟩ := nat_in (lo := 0) (hi := 4) (z := z) h
  exact ⟨n, e, b⟩
theorem nat_key {z : Int} (h : validKey z = true) : ∃ n : Nat, z = n ∧ n ≤ 9 := by
  obtain ⟨n, e, _, b⟩ := nat_in (lo := 0) (hi := 9) (z := z) h
  exact ⟨n, e, b⟩
theorem len_ok {l : List Nat} (h : validSequence l = true) : l.length ≤ 30 := by
  unfold validSequence at h
  rw [Bool.and_eq_true, decide_eq_true_iff] at h
  exact h.1
/-! ### the document's steps -/
section
variable {st : Vakptc.Cache} {r p q m n z : Int} {cap po pq kb len k : Nat} {l e : List Nat}
theorem s_conf1 (h : validCapacity r = false) : step st (.configure r p) = (st, .error (-1)) := by simp [step, h]
theorem s_conf2 (h : validCapacity r = true) (h2 : validPolicy p = false) : step st (.configure r p) = (st, .error (-2)) := by simp [step, h, h2]
theorem s_conf (h : validCapacity cap = true) (h2 : validPolicy po = true) : step st (.configure cap po) = (emptyCache cap po, natural [0]) := by simp [step, h, h2]
theorem s_acc1 (h : validKey r = false) : step st (.access r) = (st, .error (-3)) := by simp [step, h]
theorem s_acc (h : validKey k = true) : step st (.access k) = ((access st k).1, natural (flag (contains st k) :: withLength (access st k).2.toList)) := by
  simp only [step, h, Int.toNat_natCast, Bool.true_eq_false, if_false]
  cases (access st k).2 <;> rfl
theorem s_rem1 (h : validKey r = false) : step st (.remove r) = (st, .error (-3)) := by simp [step, h]
theorem s_rem (h : validKey k = true) : step st (.remove k) = ({ st with entries := st.entries.filter fun e => e.key != k }, natural [flag (contains st k)]) := by simp [step, h]
theorem s_cont : step st .contents = (st, natural (st.entries.length :: st.entries.flatMap fun e => [e.key, e.useCount, flag e.referenced])) := rfl
theorem s_count : step st .counters = (st, natural [st.hits, st.misses]) := rfl
theorem s_vic0 (h : st.capacity = 0 ∨ st.entries.length < st.capacity) : step st .nextVictim = (st, natural [0]) := by simp [step, h]
theorem s_vic {e : Vakptc.Entry} (h : ¬ (st.capacity = 0 ∨ st.entries.length < st.capacity)) (h2 : (Vakptc.selectVictim st.policy st.entries).1[(Vakptc.selectVictim st.policy st.entries).2]? = some e) : step st .nextVictim = (st, natural [1, e.key]) := by
  simp only [step, if_neg h, h2]
theorem s_sim1 (h : validCapacity r = false) : step st (.simulate r p l) = (st, .error (-1)) := by simp [step, Vakptc.onPolicy, h]
theorem s_sim2 (h : validCapacity r = true) (h2 : validPolicy p = false) : step st (.simulate r p l) = (st, .error (-2)) := by simp [step, Vakptc.onPolicy, h, h2]
theorem s_sim3 (h : validCapacity r = true) (h2 : validPolicy p = true) (h3 : validSequence l = false) : step st (.simulate r p l) = (st, .error (-4)) := by simp [step, Vakptc.onPolicy, h, h2, h3]
theorem s_sim (h : validCapacity cap = true) (h2 : validPolicy po = true) (h3 : validSequence l = true) : step st (.simulate cap po l) = (st, natural ((accessAll (emptyCache cap po) l).misses :: withLength (cachedKeys (accessAll (emptyCache cap po) l)))) := by
  simp [step, Vakptc.onPolicy, h, h2, h3]
theorem s_opt1 (h : validCapacity r = false) : step st (.optimal r l) = (st, .error (-1)) := by simp [step, Vakptc.onSequence, h]
theorem s_opt2 (h : validCapacity r = true) (h3 : validSequence l = false) : step st (.optimal r l) = (st, .error (-4)) := by simp [step, Vakptc.onSequence, h, h3]
theorem s_opt (h : validCapacity cap = true) (h3 : validSequence l = true) : step st (.optimal cap l) = (st, natural ((bel cap l 0 []).1 :: withLength (optE cap l))) := by
  have ln := len_ok h3
  have e := optimal_eq (cap := cap) (s := l) (by omega)
  simp [step, Vakptc.onSequence, h, h3, e.1, e.2]
theorem s_far1 (h : validCapacity r = false) : step st (.farthest r l) = (st, .error (-1)) := by simp [step, Vakptc.onSequence, h]
theorem s_far2 (h : validCapacity r = true) (h3 : validSequence l = false) : step st (.farthest r l) = (st, .error (-4)) := by simp [step, Vakptc.onSequence, h, h3]
theorem s_far (h : validCapacity cap = true) (h3 : validSequence l = true) : step st (.farthest cap l) = (st, natural ((bel cap l 0 []).1 :: withLength (bel cap l 0 []).2)) := by
  have ln := len_ok h3
  have e := farthest_eq (cap := cap) (s := l) (by omega)
  simp [step, Vakptc.onSequence, h, h3, e.1, e.2]
theorem s_rep1 (h : validCapacity r = false) : step st (.replay r l e) = (st, .error (-1)) := by simp [step, Vakptc.onSequence, h]
theorem s_rep2 (h : validCapacity r = true) (h3 : validSequence l = false) : step st (.replay r l e) = (st, .error (-4)) := by simp [step, Vakptc.onSequence, h, h3]
theorem s_rep3 (h : validCapacity r = true) (h3 : validSequence l = true) (h4 : validSequence e = false) : step st (.replay r l e) = (st, .error (-4)) := by simp [step, Vakptc.onSequence, h, h3, h4]
theorem s_rep (h : validCapacity cap = true) (h3 : validSequence l = true) (h4 : validSequence e = true) : step st (.replay cap l e) = (st, natural [if (repF cap 0 [] 0 e l).1 then 1 else 0, (repF cap 0 [] 0 e l).2]) := by
  have q := replay_eq cap l e
  generalize repF cap 0 [] 0 e l = x at q ⊢
  obtain ⟨b, y⟩ := x
  simp only [step, Vakptc.onSequence, h, h3, h4, Int.toNat_natCast, Bool.true_eq_false, if_false, q]
  cases b <;> rfl
theorem s_pha1 (h : validCapacity r = false) : step st (.phases r l) = (st, .error (-1)) := by simp [step, h]
theorem s_pha2 (h : validCapacity r = true) (h2 : r = 0) : step st (.phases r l) = (st, .error (-5)) := by subst h2; simp [step, h]
theorem s_pha3 (h : validCapacity r = true) (h2 : r ≠ 0) (h3 : validSequence l = false) : step st (.phases r l) = (st, .error (-4)) := by simp [step, h, h2, h3]
theorem s_pha (h : validCapacity cap = true) (h2 : cap ≠ 0) (h3 : validSequence l = true) : step st (.phases cap l) = (st, natural (withLength (phIt cap l l.length).1)) := by
  have e := phases_eq h2 l
  have h2' : ¬ (cap : Int) = 0 := by omega
  simp [step, h, h2, h3, e]
theorem s_sep1 (h : validCapacity r = false) : step st (.separate p q r m n) = (st, .error (-1)) := by simp [step, h]
theorem s_sep2 (h : validCapacity r = true) (h2 : validPolicy p = false ∨ validPolicy q = false) : step st (.separate p q r m n) = (st, .error (-2)) := by simp [step, h, h2]
theorem s_sep3 (h : validCapacity r = true) (h2 : validPolicy p = true) (h3 : validPolicy q = true) (h4 : (inRange 1 4 m && inRange 0 6 n) = false) : step st (.separate p q r m n) = (st, .error (-6)) := by
  have h5 : inRange 1 4 m = false ∨ inRange 0 6 n = false := by
    cases a : inRange 1 4 m with
    | false => exact .inl rfl
    | true => rw [a, Bool.true_and] at h4; exact .inr h4
  simp [step, h, h2, h3, h5]
theorem s_sep (h : validCapacity cap = true) (h2 : validPolicy po = true) (h3 : validPolicy pq = true) (h4 : (inRange 1 4 kb && inRange 0 6 len) = true) :
    step st (.separate po pq cap kb len) = (st, natural ((separating po pq cap kb len).2.1 :: (separating po pq cap kb len).2.2 :: withLength (separating po pq cap kb len).1)) := by
  rw [Bool.and_eq_true] at h4
  obtain ⟨a, b, c, d⟩ := nat_in (lo := 1) (hi := 4) h4.1
  have e := separating_eq (p := po) (q := pq) (cap := cap) (kb := kb) len (by omega)
  simp [step, h, h2, h3, h4.1, h4.2, e]
theorem s_wor1 (h : validCapacity r = false) : step st (.worst p r m n) = (st, .error (-1)) := by simp [step, Vakptc.onPolicy, h]
theorem s_wor2 (h : validCapacity r = true) (h2 : validPolicy p = false) : step st (.worst p r m n) = (st, .error (-2)) := by simp [step, Vakptc.onPolicy, h, h2]
theorem s_wor3 (h : validCapacity r = true) (h2 : validPolicy p = true) (h4 : (inRange 1 3 m && inRange 0 6 n) = false) : step st (.worst p r m n) = (st, .error (-6)) := by
  have h5 : inRange 1 3 m = false ∨ inRange 0 6 n = false := by
    cases a : inRange 1 3 m with
    | false => exact .inl rfl
    | true => rw [a, Bool.true_and] at h4; exact .inr h4
  simp [step, Vakptc.onPolicy, h, h2, h5]
theorem s_wor (h : validCapacity cap = true) (h2 : validPolicy po = true) (h4 : (inRange 1 3 kb && inRange 0 6 len) = true) :
    step st (.worst po cap kb len) = (st, natural ((worsting po cap kb len).2.1 :: (worsting po cap kb len).2.2 :: withLength (worsting po cap kb len).1)) := by
  rw [Bool.and_eq_true] at h4
  obtain ⟨a, b, c, d⟩ := nat_in (lo := 1) (hi := 3) h4.1
  obtain ⟨a', b', c', d'⟩ := nat_in (lo := 0) (hi := 6) h4.2
  have e := worsting_eq (p := po) (cap := cap) (kb := kb) (n := len) (by omega) (by omega)
  simp [step, Vakptc.onPolicy, h, h2, h4.1, h4.2, e]
theorem s_ano1 (h : validCapacity r = false) : step st (.anomaly p r l) = (st, .error (-1)) := by simp [step, Vakptc.onPolicy, h]
theorem s_ano2 (h : validCapacity r = true) (h2 : validPolicy p = false) : step st (.anomaly p r l) = (st, .error (-2)) := by simp [step, Vakptc.onPolicy, h, h2]
theorem s_ano3 (h : validCapacity r = true) (h2 : validPolicy p = true) (h3 : validSequence l = false) : step st (.anomaly p r l) = (st, .error (-4)) := by simp [step, Vakptc.onPolicy, h, h2, h3]
theorem s_ano (h : validCapacity cap = true) (h2 : validPolicy po = true) (h3 : validSequence l = true) : step st (.anomaly po cap l) = (st, natural (match anomF 0 (emptyCache cap po) (emptyCache (cap + 1) po) l with
    | none => [0]
    | some (i, a, b) => [1, i, a, b])) := by
  have e := anomaly_eq po cap l
  simp only [step, Vakptc.onPolicy, h, h2, h3, Int.toNat_natCast, Bool.true_eq_false, if_false, e]
  cases Vakptc.anomalyLength po cap l <;> rfl
end
end Ks
namespace Ks
open VakptcNeutral (callOf asked1 encode)
/-! ### the calls as one list -/
theorem whole_id (c : List (List Int)) : PyVakptc.whole c = c := by
  unfold PyVakptc.whole
  split <;> rfl
theorem map_whole (cs : List (List (List Int))) : cs.map PyVakptc.whole = cs := by
  rw [show PyVakptc.whole = id from funext whole_id, List.map_id]
theorem rows_more {k : Nat} {r : List Int} {ls : List (List Int)} {t : List Int} (h : PyFlat.rows (k + 1) r = some (ls, t)) :
    ∃ n s ls', r = n :: s ∧ 0 ≤ n ∧ n.toNat ≤ s.length ∧ ls = s.take n.toNat :: ls' ∧ PyFlat.rows k (s.drop n.toNat) = some (ls', t) := by
  rw [PyFlat.rows] at h
  cases r with
  | nil => cases h
  | cons n s =>
    rw [PyFlat.row] at h
    by_cases c : 0 ≤ n ∧ n.toNat ≤ s.length
    · rw [if_pos c] at h
      cases e : PyFlat.rows k (s.drop n.toNat) with
      | none =>
        simp only [e] at h
        cases h
      | some q =>
        obtain ⟨xs, u⟩ := q
        simp only [e] at h
        cases h
        exact ⟨n, s, xs, rfl, c.1, c.2, rfl, e⟩
    · rw [if_neg c] at h
      cases h
theorem rows_none {r : List Int} {ls : List (List Int)} {t : List Int} (h : PyFlat.rows 0 r = some (ls, t)) : ls = [] ∧ t = r := by
  rw [PyFlat.rows] at h
  cases h
  exact ⟨rfl, rfl⟩
theorem calls_more {f : Nat} {p : Int} {r : List Int} {cs : List (List (List Int))} (h : PyFlat.calls PyVakptc.shape f (p :: r) = some cs) :
    ∃ f' n k ls t cs', PyVakptc.shape p = some (n, k) ∧ n ≤ r.length ∧ PyFlat.rows k (r.drop n) = some (ls, t) ∧ cs = ((p :: r.take n) :: ls) :: cs' ∧ PyFlat.calls PyVakptc.shape f' t = some cs' := by
  cases f with
  | zero => rw [PyFlat.calls] at h; cases h
  | succ f =>
    rw [PyFlat.calls, PyFlat.call] at h
    cases e : PyVakptc.shape p with
    | none =>
      simp only [e] at h
      cases h
    | some q =>
      obtain ⟨n, k⟩ := q
      simp only [e] at h
      by_cases c : r.length < n
      · rw [if_pos c] at h
        cases h
      · rw [if_neg c] at h
        cases e2 : PyFlat.rows k (r.drop n) with
        | none =>
          simp only [e2] at h
          cases h
        | some q =>
          obtain ⟨ls, t⟩ := q
          simp only [e2] at h
          cases e3 : PyFlat.calls PyVakptc.shape f t with
          | none =>
            simp only [e3] at h
            cases h
          | some cs' =>
            simp only [e3] at h
            cases h
            exact ⟨f, n, k, ls, t, cs', rfl, by omega, e2, rfl, e3⟩
theorem calls_end {f : Nat} {cs : List (List (List Int))} (h : PyFlat.calls PyVakptc.shape f [] = some cs) : cs = [] := by
  cases f <;> (rw [PyFlat.calls] at h; cases h; rfl)
/-- a call that is asked: what it is, its rows within the bounds -/
structure Askd (c : List (List Int)) (p : Nat) (k : Vakptc.Call) : Prop where
  lt : p < 14
  call : callOf c = some k
  rows : ∀ r ∈ c.drop 1, r.length ≤ 1000 ∧ ∀ z ∈ r, 0 ≤ z
theorem nat10 {l : List Int} (h : (l.all (fun (z : Int) => VakptcNeutral.natural z 10) && decide (l.length ≤ 100)) = true) : l.length ≤ 1000 ∧ ∀ z ∈ l, 0 ≤ z := by
  rw [Bool.and_eq_true, decide_eq_true_iff, List.all_eq_true] at h
  refine ⟨by omega, fun z hz => ?_⟩
  have := h.1 z hz
  unfold VakptcNeutral.natural at this
  rw [Bool.and_eq_true, decide_eq_true_iff] at this
  exact this.1
theorem askd_of {c : List (List Int)} (h : asked1 c = true) : ∃ (p : Nat) (k : Vakptc.Call) (ns : List Int) (ls : List (List Int)), c = ((p : Int) :: ns) :: ls ∧ Askd c p k := by
  unfold asked1 at h
  split at h
  · exact ⟨0, _, _, _, rfl, by omega, rfl, by simp⟩
  · exact ⟨1, _, _, _, rfl, by omega, rfl, by simp⟩
  · exact ⟨2, _, _, _, rfl, by omega, rfl, by simp⟩
  · exact ⟨3, _, _, _, rfl, by omega, rfl, by simp⟩
  · exact ⟨4, _, _, _, rfl, by omega, rfl, by simp⟩
  · exact ⟨5, _, _, _, rfl, by omega, rfl, by simp⟩
  · rename_i l
    rw [Bool.and_eq_true, Bool.and_eq_true] at h
    have q := nat10 h.2.2
    exact ⟨6, _, _, _, rfl, by omega, rfl, fun r hr => by
      rw [show r = l by simpa using hr]
      exact q⟩
  · rename_i l
    rw [Bool.and_eq_true] at h
    have q := nat10 h.2
    exact ⟨7, _, _, _, rfl, by omega, rfl, fun r hr => by
      rw [show r = l by simpa using hr]
      exact q⟩
  · rename_i l
    rw [Bool.and_eq_true] at h
    have q := nat10 h.2
    exact ⟨8, _, _, _, rfl, by omega, rfl, fun r hr => by
      rw [show r = l by simpa using hr]
      exact q⟩
  · rename_i l e
    rw [Bool.and_eq_true, Bool.and_eq_true] at h
    have q := nat10 h.2.1
    have q2 := nat10 h.2.2
    exact ⟨9, _, _, _, rfl, by omega, rfl, fun r hr => by
      have hr' : r = l ∨ r = e := by simpa using hr
      rcases hr' with rfl | rfl
      · exact q
      · exact q2⟩
  · rename_i l
    rw [Bool.and_eq_true] at h
    have q := nat10 h.2
    exact ⟨10, _, _, _, rfl, by omega, rfl, fun r hr => by
      rw [show r = l by simpa using hr]
      exact q⟩
  · exact ⟨11, _, _, _, rfl, by omega, rfl, by simp⟩
  · exact ⟨12, _, _, _, rfl, by omega, rfl, by simp⟩
  · rename_i l
    rw [Bool.and_eq_true, Bool.and_eq_true] at h
    have q := nat10 h.2.2
    exact ⟨13, _, _, _, rfl, by omega, rfl, fun r hr => by
      rw [show r = l by simpa using hr]
      exact q⟩
  · cases h
/-- what is asked of the whole list -/
theorem asked_is {zs : List Int} (h : PyVakptc.answers_asked zs = true) : ∃ cs, PyFlat.calls PyVakptc.shape zs.length zs = some cs ∧ (∀ c ∈ cs, asked1 c = true) ∧
    PyVakptc.answers zs = PyFlat.told (PyFlat.played VakptcNeutral.step VakptcNeutral.start cs) ∧ (PyVakptc.answers zs).length ≤ 10000000 := by
  unfold PyVakptc.answers_asked at h
  cases e : PyFlat.calls PyVakptc.shape zs.length zs with
  | none =>
    simp only [e] at h
    cases h
  | some cs =>
    simp only [e] at h
    rw [Bool.and_eq_true, Bool.and_eq_true, Bool.and_eq_true, Bool.and_eq_true] at h
    obtain ⟨⟨⟨_, _⟩, ha⟩, hs⟩ := h
    rw [map_whole] at ha
    unfold VakptcNeutral.asked at ha
    rw [Bool.and_eq_true, List.all_eq_true] at ha
    refine ⟨cs, rfl, ha.1, ?_, ?_⟩
    · unfold PyVakptc.answers PyVakptc.calls
      simp only [e, map_whole]
    · unfold PyFlat.short at hs
      exact of_decide_eq_true hs
theorem told_cons (x : List Int) (l : List (List Int)) : PyFlat.told (x :: l) = (x.length : Int) :: x ++ PyFlat.told l := by
  unfold PyFlat.told
  rw [List.flatMap_cons]
theorem played_cons {c : List (List Int)} {k : Vakptc.Call} {s : Vakptc.Cache} (h : callOf c = some k) (cs : List (List (List Int))) :
    PyFlat.played VakptcNeutral.step s (c :: cs) = encode (Vakptc.step s k).2 :: PyFlat.played VakptcNeutral.step (Vakptc.step s k).1 cs := by
  rw [PyFlat.played]
  have e : VakptcNeutral.step s c = ((Vakptc.step s k).1, encode (Vakptc.step s k).2) := by
    unfold VakptcNeutral.step
    rw [h]
  rw [e]
/-- a refusal leaves the cache as it was -/
theorem step_error {s : Vakptc.Cache} {k : Vakptc.Call} {code : Int} (h : (Vakptc.step s k).2 = .error code) : (Vakptc.step s k).1 = s := by
  cases k with
  | configure r p =>
    unfold Vakptc.step at h ⊢
    dsimp only at h ⊢
    split
    · rfl
    · split
      · rfl
      · rename_i a b
        rw [if_neg a, if_neg b] at h
        cases h
  | access r =>
    unfold Vakptc.step at h ⊢
    dsimp only at h ⊢
    split
    · rfl
    · rename_i a
      rw [if_neg a] at h
      cases h
  | remove r =>
    unfold Vakptc.step at h ⊢
    dsimp only at h ⊢
    split
    · rfl
    · rename_i a
      rw [if_neg a] at h
      cases h
  | _ => rfl
theorem drop_next {zs : List Int} {a : Nat} {n : Int} {s : List Int} (h : zs.drop a = n :: s) : zs[a]? = some n ∧ zs.drop (a + 1) = s ∧ a < zs.length := by
  have hl : a < zs.length := by
    have := congrArg List.length h
    rw [List.length_drop, List.length_cons] at this
    omega
  rw [List.drop_eq_getElem_cons hl] at h
  injection h with h1 h2
  exact ⟨by rw [List.getElem?_eq_getElem hl, h1], h2, hl⟩
end Ks
set_option maxRecDepth 100000
set_option maxHeartbeats 2000000
/-! The walk's ground: defs and how they are called, heaps with a part that is told of, what stands in them. -/
namespace Ks
open PySem PySem.Spec PyProof.Rows L2
def top (i : Nat) : Stmt := PySem.Challenge.pw_keepslots_s01_answers.main.body.getD i (.Pass ⟨0, 0, 0, 0⟩)
/-! ### defs -/
section
variable (P : Program) (w : World) (K : PySem.W.Frag) (mg : Str → Option Value) (base : Heap)
/-- the def s of the top stands under its name at f -/
structure DF (x : Str) (s : Stmt) (ps : List Str) (f : Addr) : Prop where
  ex : ∃ fd : FuncData, Fun K x x s f fd ∧ Binds K fd ps []
  g : mg x = some (.ref f)
/-- the method s of the class at C -/
structure DM (C : Addr) (x q : Str) (s : Stmt) (ps : List Str) (f : Addr) : Prop where
  ex : ∃ fd : FuncData, Fun K x q s f fd ∧ Binds K fd ps []
  m : Meth K C x f
/-- the __init__ s of the class at C -/
structure DI (C : Addr) (c q : Str) (s : Stmt) (ps : List Str) (f : Addr) : Prop where
  ex : ∃ fd : FuncData, Fun K "__init__" q s f fd ∧ Binds K fd ps []
  m : Mk K C f
  g : mg c = some (.ref C)
/-- the def at f keeps its promise -/
structure FOk (CX : CXT) (k : Nat) (ps : List Str) (sp : Sp) (f : Addr) : Prop where
  ex : ∃ fd : FuncData, FnOk P w K mg base CX k f fd ps sp ∧ Binds K fd ps [] ∧ PySem.W.keepIn K (.ref f) = true
structure CallOk (CX : CXT) (k : Nat) (x : Str) (ps : List Str) (sp : Sp) : Prop where
  ex : ∃ f, FOk P w K mg base CX k ps sp f ∧ mg x = some (.ref f)
structure MethOk (CX : CXT) (k : Nat) (C : Addr) (x : Str) (ps : List Str) (sp : Sp) : Prop where
  ex : ∃ f, FOk P w K mg base CX k ps sp f ∧ Meth K C x f
structure MakeOk (CX : CXT) (k : Nat) (C : Addr) (c : Str) (ps : List Str) (sp : Sp) : Prop where
  ex : ∃ f fd, FnOk P w K mg base CX k f fd ps sp ∧ Binds K fd ps [] ∧ Mk K C f ∧ mg c = some (.ref C)
end
section
variable {P : Program} {w : World} {K : PySem.W.Frag} {mg : Str → Option Value} {base : Heap}
theorem FOk.call {CX : CXT} {k : Nat} {x : Str} {ps : List Str} {sp : Sp} {f : Addr} {s : Stmt} (F : FOk P w K mg base CX k ps sp f) (D : DF K mg x s ps f) : CallOk P w K mg base CX k x ps sp := ⟨f, F, D.g⟩
theorem FOk.meth {CX : CXT} {k : Nat} {x q : Str} {ps : List Str} {sp : Sp} {f C : Addr} {s : Stmt} (F : FOk P w K mg base CX k ps sp f) (D : DM K C x q s ps f) : MethOk P w K mg base CX k C x ps sp := ⟨f, F, D.m⟩
/-- a def that lets nothing out is one that may -/
theorem FOk.lift {CX : CXT} {k : Nat} {ps : List Str} {sp : Sp} {f : Addr} (F : FOk P w K mg base CX0 k ps sp f) : FOk P w K mg base CX k ps sp f := by
  obtain ⟨fd, F, b, kp⟩ := F
  refine ⟨fd, ⟨F.len, fun A outer s H args us vs Q E hr e0 hb r h => codeAny_mono (F.run A outer s H args us vs Q E hr e0 hb r h) fun q s' z => ?_⟩, b, kp⟩
  cases q with
  | error e => exact False.elim z
  | ok fl => cases fl <;> exact z
theorem FOk.mono {CX : CXT} {j k : Nat} {ps : List Str} {sp : Sp} {f : Addr} (F : FOk P w K mg base CX j ps sp f) (h : j ≤ k) : FOk P w K mg base CX k ps sp f := by
  obtain ⟨fd, F, b, kp⟩ := F
  exact ⟨fd, F.mono h, b, kp⟩
/-- THE RULE for a def of the top that lets nothing out -/
theorem DF.ok {x : Str} {s : Stmt} {N ps : List Str} {f : Addr} {k : Nat} {sp : Sp} (D : DF K mg x s ps f) (S : FnScope N ps (defScope s)) (len : ∀ vs H Q E, sp vs H Q E → vs.length = ps.length)
    (hbody : ∀ (f : Addr) (cdv : Value) (A : Around) (outer : List Env) (s1 : Shared) (H : Hp) (vs : List V) (Q : VK) (E : XK), Room k (A.deeper (envOfC x (defScope s) s1.heap.objs.size f cdv)) → sp vs H Q E →
      ∃ t, PSs (cxOf CX0 P w K mg base N x (defScope s) f cdv A outer s1 H E).nox (defBody s) t ∧ t { nx := fun _ H' => Q .non H', rt := Q } (start N vs) H) : FOk P w K mg base CX0 (k + 1) ps sp f := by
  obtain ⟨fd, F, b⟩ := D.ex
  exact ⟨fd, F.ok S len (hbody f), b, F.kp⟩
theorem DF.okX {x : Str} {s : Stmt} {N ps : List Str} {f : Addr} {k : Nat} {sp : Sp} (D : DF K mg x s ps f) (S : FnScope N ps (defScope s)) (len : ∀ vs H Q E, sp vs H Q E → vs.length = ps.length)
    (hbody : ∀ (f : Addr) (cdv : Value) (A : Around) (outer : List Env) (s1 : Shared) (H : Hp) (vs : List V) (Q : VK) (E : XK), Room k (A.deeper (envOfC x (defScope s) s1.heap.objs.size f cdv)) → sp vs H Q E →
      ∃ t, PSs (cxOf (L2.CX P w) P w K mg base N x (defScope s) f cdv A outer s1 H E) (defBody s) t ∧ t { nx := fun _ H' => Q .non H', rt := Q } (start N vs) H) : FOk P w K mg base (L2.CX P w) (k + 1) ps sp f := by
  obtain ⟨fd, F, b⟩ := D.ex
  exact ⟨fd, F.okX S len (hbody f), b, F.kp⟩
theorem DM.ok {C : Addr} {x q : Str} {s : Stmt} {N ps : List Str} {f : Addr} {k : Nat} {sp : Sp} (D : DM K C x q s ps f) (S : FnScope N ps (defScope s)) (len : ∀ vs H Q E, sp vs H Q E → vs.length = ps.length)
    (hbody : ∀ (f : Addr) (cdv : Value) (A : Around) (outer : List Env) (s1 : Shared) (H : Hp) (vs : List V) (Q : VK) (E : XK), Room k (A.deeper (envOfC q (defScope s) s1.heap.objs.size f cdv)) → sp vs H Q E →
      ∃ t, PSs (cxOf CX0 P w K mg base N q (defScope s) f cdv A outer s1 H E).nox (defBody s) t ∧ t { nx := fun _ H' => Q .non H', rt := Q } (start N vs) H) : FOk P w K mg base CX0 (k + 1) ps sp f := by
  obtain ⟨fd, F, b⟩ := D.ex
  exact ⟨fd, F.ok S len (hbody f), b, F.kp⟩
theorem DI.ok {C : Addr} {c q : Str} {s : Stmt} {N ps : List Str} {f : Addr} {k : Nat} {sp : Sp} (D : DI K mg C c q s ps f) (S : FnScope N ps (defScope s)) (len : ∀ vs H Q E, sp vs H Q E → vs.length = ps.length)
    (hbody : ∀ (f : Addr) (cdv : Value) (A : Around) (outer : List Env) (s1 : Shared) (H : Hp) (vs : List V) (Q : VK) (E : XK), Room k (A.deeper (envOfC q (defScope s) s1.heap.objs.size f cdv)) → sp vs H Q E →
      ∃ t, PSs (cxOf CX0 P w K mg base N q (defScope s) f cdv A outer s1 H E).nox (defBody s) t ∧ t { nx := fun _ H' => Q .non H', rt := Q } (start N vs) H) : MakeOk P w K mg base CX0 (k + 1) C c ps sp := by
  obtain ⟨fd, F, b⟩ := D.ex
  exact ⟨f, fd, F.ok S len (hbody f), b, D.m, D.g⟩
end
section
variable {X : Cx} {CX : CXT} {j k : Nat} {C : Addr} {ps : List Str} {sp : Sp} {E : XK} {x m : Str} {p pos apos : Pos} {e o : Expr} {es : List Expr} {ta : TE} {t : TA}
/-- the arguments, one by one, none with a star -/
abbrev Plain1 (X : Cx) (e : Expr) (es : List Expr) : Prop := starEach (e :: es) X.env = (false, eval e X.env) :: starEach es X.env
abbrev NoStar (X : Cx) (pos : Pos) (es : List Expr) : Prop := (backTo pos (starEach es X.env)).any (·.1) = false
abbrev NotDbg (x : Str) : Prop := (x == ("__debug__" : Str)) = false
/-- o.m(as) is: o, its method, the arguments, the call -/
abbrev Split (X : Cx) (o : Expr) (m : Str) (apos pos : Pos) (as : List Expr) (pl : Sem Bool) : Prop :=
  eval (.Call (.Attribute o m apos) as [] pos) X.env = (do let b ← eval o X.env; standAt apos.atName; let (g, one) ← holding [b] (getMethod b m pl); callWith pos g one (backTo pos (starEach as X.env)) (backToKw pos (keywordEach [] X.env)))
def tCl (sp : Sp) (E : XK) (t : TA) : TE := fun σ H Q => t σ H fun vs H1 => sp vs H1 Q E
def tMt (C : Addr) (m : Str) (sp : Sp) (E : XK) (ta : TE) (t : TA) : TE := fun σ H Q => ta σ H fun x H1 => ∃ a dx fs, x = .ref a ∧ H1 a = some (.ins C dx fs) ∧ fs.lookup m = none ∧ t σ H1 fun vs H2 => sp (x :: vs) H2 Q E
theorem TE.eq {X : Cx} {e : Expr} {t t' : TE} (h : PE X e t) (q : ∀ σ H Q, t' σ H Q → t σ H Q) : PE X e t' := ⟨fun pins s σ H Q I z => h.run pins s σ H Q I (q σ H Q z)⟩
theorem tCl_of {σ : L2.St} {H : Hp} {Q : VK} {t : TA} (mono : ∀ (R R' : List V → Hp → Prop), (∀ vs H, R vs H → R' vs H) → t σ H R → t σ H R') (h : tCl sp E t σ H Q) : tCall sp [] E t σ H Q :=
  mono _ _ (fun vs H q => by rw [List.append_nil]; exact q) h
/-- f(e, ..) -/
theorem pe_callC (c : CallOk X.prog X.w X.K X.mg X.base CX k x ps sp) (hr : Room j X.A) (hk : k ≤ j) (hx : Passes CX X E) (ha : PA X (e :: es) t) (hg : Gl X x := by rfl)
    (nd : NotDbg x := by decide) (p1 : Plain1 X e es := by rfl) (p2 : NoStar X pos es := by rfl) :
    PE X (.Call (.Name x p) (e :: es) [] pos) (tCl sp E t) := by
  obtain ⟨f, ⟨fd, F, b, kp⟩, g⟩ := c
  refine ⟨fun pins s σ H Q I h => ?_⟩
  refine wpAny_Call_Name_kw (ld_glob I hg g ?_ nd)
  refine PySem.W.callWith_K (h₀ := X.base) I.ok.mod.kin kp (thn (ha.run pos pins s σ H _ I h) fun as t1 ⟨vs, J, IJ, rr, qq⟩ => ⟨IJ.kIn, ?_⟩) p1 p2
  have z := run_fn (dvs := []) F (hr.mono hk) b .nil hx IJ rr (by rw [List.append_nil]; exact qq)
  exact z
/-- o.m(e, ..) -/
theorem pe_mC {pl : Sem Bool} (he : PE X o ta) (c : Cls X.K C) (hm : MethOk X.prog X.w X.K X.mg X.base CX k C m ps sp) (hr : Room j X.A) (hk : k ≤ j) (hx : Passes CX X E) (ha : PA X (e :: es) t)
    (p1 : Plain1 X e es := by rfl) (p2 : NoStar X pos es := by rfl) (p3 : Split X o m apos pos (e :: es) pl := by rfl) :
    PE X (.Call (.Attribute o m apos) (e :: es) [] pos) (tMt C m sp E ta t) := by
  obtain ⟨f, ⟨fd, F, b, kp⟩, mm⟩ := hm
  refine ⟨fun pins s σ H Q I h => ?_⟩
  refine PySem.W.methodCall_KW (pl := pl) (thn (he.run pins s σ H _ I h) fun u s1 ⟨x, H1, I1, rx, a, dx, fs, ex, ea, l, q⟩ => ?_) p3
  subst ex
  obtain rfl : u = Value.ref a := rx
  refine getmeth_ok I1 ea c mm l ?_
  refine PySem.W.callWith_K (first := [.ref a]) (h₀ := X.base) I.ok.mod.kin mm.kp (thn (ha.run pos pins s1 σ H1 _ I1 q) fun us s2 ⟨vs, H2, I2, r, q2⟩ => ⟨I2.kIn, ?_⟩) p1 p2
  exact run_fn (us := .ref a :: us) (vs := .ref a :: vs) (dvs := []) F (hr.mono hk) b .nil hx I2 (.cons rfl r) (by rw [List.append_nil]; exact q2)
/-- o.m() -/
theorem pe_mC0 {pl : Sem Bool} (he : PE X o ta) (c : Cls X.K C) (hm : MethOk X.prog X.w X.K X.mg X.base CX k C m ps sp) (hr : Room j X.A) (hk : k ≤ j) (hx : Passes CX X E)
    (p3 : Split X o m apos pos [] pl := by rfl) :
    PE X (.Call (.Attribute o m apos) [] [] pos) (tMt C m sp E ta tNil) := by
  obtain ⟨f, ⟨fd, F, b, kp⟩, mm⟩ := hm
  exact pe_meth0 (pl := pl) (sp := sp) he c mm F (hr.mono hk) b .nil hx p3
/-- C(e, ..) -/
def tMk (C : Addr) (sp : Sp) (E : XK) (t : TA) : TE := fun σ H Q => t σ H fun vs H1 => ∀ x dx, H1 x = none → H1 dx = none → dx ≠ x →
  sp (.ref x :: vs) (upd (upd H1 dx (.own x)) x (.ins C dx [])) (fun v H2 => v = .non ∧ Q (.ref x) H2) E
theorem pe_mkC (c : MakeOk X.prog X.w X.K X.mg X.base CX k C x ps sp) (hr : Room j X.A) (hk : k + 1 ≤ j) (hx : Passes CX X E) (ha : PA X (e :: es) t) (hg : Gl X x := by rfl)
    (nd : NotDbg x := by decide) (p1 : Plain1 X e es := by rfl) (p2 : NoStar X pos es := by rfl) :
    PE X (.Call (.Name x p) (e :: es) [] pos) (tMk C sp E t) := by
  obtain ⟨f, fd, F, b, M, g⟩ := c
  refine ⟨fun pins s σ H Q I h => ?_⟩
  refine wpAny_Call_Name_kw (ld_glob I hg g ?_ nd)
  refine PySem.W.callWith_K (h₀ := X.base) I.ok.mod.kin M.kp (thn (ha.run pos pins s σ H _ I h) fun as t1 ⟨vs, J, IJ, rr, qq⟩ => ⟨IJ.kIn, ?_⟩) p1 p2
  refine run_make (dvs := []) M F (hr.mono hk) b .nil hx IJ rr fun x dx h1 h2 h3 => ?_
  rw [List.append_nil]
  exact qq x dx h1 h2 h3
theorem pe_mkC0 (c : MakeOk X.prog X.w X.K X.mg X.base CX k C x ps sp) (hr : Room j X.A) (hk : k + 1 ≤ j) (hx : Passes CX X E) (hg : Gl X x := by rfl)
    (nd : NotDbg x := by decide) : PE X (.Call (.Name x p) [] [] pos) (tMk C sp E tNil) := by
  obtain ⟨f, fd, F, b, M, g⟩ := c
  exact pe_make0 (sp := sp) M F (hr.mono hk) hg g b .nil hx nd
/-- a module's whole number -/
theorem pe_const {i : Int} (h : ∃ t, X.mg x = some (Value.int i t)) (hg : Gl X x := by rfl) (hd : (x == ("__debug__" : Str)) = false := by decide) : PE X (.Name x p) (tC (.int i)) := by
  obtain ⟨t, h⟩ := h
  exact pe_glob hg h ⟨t, rfl⟩ hd
/-- a module's object -/
theorem pe_gref {a : Addr} (h : X.mg x = some (.ref a)) (hg : Gl X x := by rfl) (hd : (x == ("__debug__" : Str)) = false := by decide) : PE X (.Name x p) (tC (.ref a)) := pe_glob hg h rfl hd
end
/-! ### for over enumerate -/
/-- a measure that tells that the rounds of a for go well -/
abbrev Rounds (I : It) (g : TG) (tb : TS) (D : Ends) (σ : L2.St) (H : Hp) : Prop := ∃ M : Nat → Nat → L2.St → Hp → Prop, (∃ n, M 0 n σ H) ∧ ∀ j n τ J, M j n τ J →
  (I.stop j J ∧ D.nx τ J) ∨ (I.go j J ∧ ∃ N : L2.St → Hp → Prop, (∀ τ' J', N τ' J' → ∃ n', n' < n ∧ M (j + 1) n' τ' J') ∧ ∀ x J', I.yld j J x J' → g x τ J' fun τ2 J2 => tb { D with nx := N, ct := N, bk := D.nx } τ2 J2)
/-- the same of a comprehension: D its list, as it grows -/
abbrev CRounds (I : It) (g : TG) (vs : List Nat) (σ : L2.St) (tt : TT) (te : TE) (D : Addr) (Qd : Hp → Prop) (J0 : Hp) : Prop := ∃ M : Nat → Nat → Hp → Prop, (∃ n, M 0 n J0) ∧ ∀ j n J, M j n J →
  (I.stop j J ∧ Qd J) ∨ (I.go j J ∧ ∃ N : Hp → Prop, (∀ J', N J' → ∃ n', n' < n ∧ M (j + 1) n' J') ∧ ∀ x J', I.yld j J x J' → g x (wipe σ vs) J' fun τ J2 => wipe τ vs = wipe σ vs ∧
    tt τ J2 fun b J3 => if b = true then te τ J3 fun y J4 => ∃ ys, J4 D = some (.lst ys) ∧ ys.length < sizeLine ∧ N (upd J4 D (.lst (ys ++ [y]))) else N J3)
theorem for_enum {K : PySem.W.Frag} {a : Addr} {xs : List V} {g : TG} {tb : TS} {D : Ends} {σ : L2.St} {H : Hp} (Pv : Nat → L2.St → Hp → Prop) (h0 : Pv 0 σ H) (hl : ∀ i σ H, i ≤ xs.length → Pv i σ H → SqL K H a xs)
    (hs : ∀ i x σ H T, xs[i]? = some x → Pv i σ H → H T = none → g (.ref T) σ (upd H T (.tup [.int (i : Nat), x])) fun σ2 H2 => tb { D with nx := Pv (i + 1), ct := Pv (i + 1), bk := D.nx } σ2 H2) (hd : ∀ σ H, Pv xs.length σ H → D.nx σ H) :
    Rounds (Ite K a) g tb D σ H := by
  refine ⟨fun j n τ J => n = xs.length - j ∧ j ≤ xs.length ∧ Pv j τ J, ⟨xs.length, by simp, Nat.zero_le _, h0⟩, ?_⟩
  rintro j n τ J ⟨rfl, hj, p⟩
  have q := hl j τ J hj p
  by_cases hlt : j < xs.length
  · refine .inr ⟨⟨xs, xs[j], q, by simp [hlt]⟩, Pv (j + 1), fun τ' J' p' => ⟨xs.length - (j + 1), by omega, rfl, hlt, p'⟩, fun x J' y => ?_⟩
    obtain ⟨T, y, rfl, hT, rfl, hy⟩ := y
    exact hs j y τ J T (hy xs q) p hT
  · have e : xs.length = j := by omega
    subst e
    exact .inl ⟨⟨xs, q, Nat.le_refl _⟩, hd τ J p⟩
/-! ### a heap, and the part of it that is told of -/
structure Ext (G H G' H' : Hp) : Prop where
  same : Same H H'
  sub : Same G' H'
  ext : Same G G'
  new : ∀ b, H b ≠ none → G b = none → G' b = none
theorem Ext.refl {G H : Hp} (s : Same G H) : Ext G H G H := ⟨.refl _, s, .refl _, fun _ _ h => h⟩
theorem some_of {H H' : Hp} (s : Same H H') {b : Addr} (h : H b ≠ none) : H' b ≠ none := fun e => h (s.free e)
theorem Ext.trans {G H G1 H1 G2 H2 : Hp} (a : Ext G H G1 H1) (b : Ext G1 H1 G2 H2) : Ext G H G2 H2 := ⟨a.same.trans b.same, b.sub, a.ext.trans b.ext, fun c h g => b.new c (some_of a.same h) (a.new c h g)⟩
theorem same_upd {H : Hp} {p : Addr} {o : HO} (h : H p = none) : Same H (upd H p o) := fun b u e => by
  rw [upd_ne (ne_of_none e h)]
  exact e
theorem upd_mono {G H : Hp} {p : Addr} {o : HO} (s : Same G H) : Same (upd G p o) (upd H p o) := fun b u e => by
  by_cases h : b = p
  · subst h
    rw [upd_same] at e ⊢
    exact e
  · rw [upd_ne h] at e ⊢
    exact s b u e
/-- a new object, told of -/
theorem Ext.made {G H G1 H1 : Hp} {p : Addr} (x : Ext G H G1 H1) (h : H1 p = none) (o : HO) : Ext G H (upd G1 p o) (upd H1 p o) :=
  ⟨x.same.trans (same_upd h), upd_mono x.sub, x.ext.trans (same_upd (x.sub.free h)), fun b hb g => by
    rw [upd_ne fun e => hb (by rw [e]; exact x.same.free h)]
    exact x.new b hb g⟩
/-- a new object, not told of -/
theorem Ext.hid {G H G1 H1 : Hp} {p : Addr} (x : Ext G H G1 H1) (h : H1 p = none) (o : HO) : Ext G H G1 (upd H1 p o) :=
  ⟨x.same.trans (same_upd h), x.sub.trans (same_upd h), x.ext, x.new⟩
/-- an object of one's own is changed -/
theorem Ext.put {G H G1 H1 : Hp} {p : Addr} (x : Ext G H G1 H1) (h : H p = none) (g : G1 p = none) (o : HO) : Ext G H G1 (upd H1 p o) :=
  ⟨fun b u e => by rw [upd_ne (ne_of_none e h)]; exact x.same b u e, fun b u e => by rw [upd_ne (ne_of_none e g)]; exact x.sub b u e, x.ext, x.new⟩
/-- it is told of from now on -/
theorem Ext.tell {G H G1 H1 : Hp} {p : Addr} {o : HO} (x : Ext G H G1 H1) (h : H p = none) (g : G1 p = none) (e : H1 p = some o) : Ext G H (upd G1 p o) H1 :=
  ⟨x.same, fun b u q => by
    by_cases hb : b = p
    · subst hb
      rw [upd_same] at q
      rw [e]
      exact q
    · rw [upd_ne hb] at q
      exact x.sub b u q, x.ext.trans (same_upd g), fun b hb q => by
    rw [upd_ne fun z => hb (by rw [z]; exact h)]
    exact x.new b hb q⟩
/-- what is not told of there stays so -/
theorem Ext.keep {G H G1 H1 : Hp} {p : Addr} (x : Ext G H G1 H1) (h : H p ≠ none) (g : G p = none) : G1 p = none := x.new p h g
/-- what stands behind a call: told of it R -/
def Post (G H : Hp) (R : Hp → V → Prop) (Q : VK) : Prop := ∀ G' H' v, Ext G H G' H' → R G' v → Q v H'
/-! ### what stands there -/
abbrev vN (n : Nat) : V := .int (n : Int)
def NatsAt (G : Hp) (a : Addr) (ns : List Nat) : Prop := G a = some (.lst (ns.map vN))
theorem NatsAt.mono {G G' : Hp} {a : Addr} {ns : List Nat} (h : NatsAt G a ns) (s : Same G G') : NatsAt G' a ns := s _ _ h
theorem NatsAt.seq {K : PySem.W.Frag} {G : Hp} {a : Addr} {ns : List Nat} (h : NatsAt G a ns) : SqL K G a (ns.map vN) := .inl (.inl h)
/-- two lists, item by item -/
inductive All2 {α β : Type} (R : α → β → Prop) : List α → List β → Prop
  | nil : All2 R [] []
  | cons {a b l m} : R a b → All2 R l m → All2 R (a :: l) (b :: m)
section
variable {α β : Type} {R R' : α → β → Prop}
theorem All2.imp {l : List α} {m : List β} (h : All2 R l m) (f : ∀ a b, R a b → R' a b) : All2 R' l m := by
  induction h with
  | nil => exact .nil
  | cons r _ ih => exact .cons (f _ _ r) ih
theorem All2.len {l : List α} {m : List β} (h : All2 R l m) : l.length = m.length := by
  induction h with
  | nil => rfl
  | cons _ _ ih => rw [List.length_cons, List.length_cons, ih]
theorem All2.get {l : List α} {m : List β} (h : All2 R l m) : ∀ {i : Nat} {x : α}, l[i]? = some x → ∃ y, m[i]? = some y ∧ R x y := by
  induction h with
  | nil => intro i x e; simp at e
  | cons r _ ih =>
    intro i x e
    cases i with
    | zero => simp at e; subst e; exact ⟨_, rfl, r⟩
    | succ i => exact ih (by simpa using e)
theorem All2.got {l : List α} {m : List β} (h : All2 R l m) : ∀ {i : Nat} {y : β}, m[i]? = some y → ∃ x, l[i]? = some x ∧ R x y := by
  induction h with
  | nil => intro i x e; simp at e
  | cons r _ ih =>
    intro i x e
    cases i with
    | zero => simp at e; subst e; exact ⟨_, rfl, r⟩
    | succ i => exact ih (by simpa using e)
theorem All2.app {l l' : List α} {m m' : List β} (h : All2 R l m) (h' : All2 R l' m') : All2 R (l ++ l') (m ++ m') := by
  induction h with
  | nil => exact h'
  | cons r _ ih => exact .cons r ih
theorem All2.take {l : List α} {m : List β} (h : All2 R l m) : ∀ n, All2 R (l.take n) (m.take n) := by
  induction h with
  | nil => intro n; simp; exact .nil
  | cons r _ ih =>
    intro n
    cases n with
    | zero => exact .nil
    | succ n => exact .cons r (ih n)
theorem All2.drop {l : List α} {m : List β} (h : All2 R l m) : ∀ n, All2 R (l.drop n) (m.drop n) := by
  induction h with
  | nil => intro n; simp; exact .nil
  | cons r t ih =>
    intro n
    cases n with
    | zero => exact .cons r t
    | succ n => exact ih n
theorem All2.one {a : α} {b : β} (r : R a b) : All2 R [a] [b] := .cons r .nil
end
end Ks
/-! What the top has written: built-ins' names, whole numbers. -/
namespace Ks
open PySem PySem.Spec PyProof.Rows L2
/-- the built-ins' names are not the module's own -/
structure Blt (mg : Str → Option Value) : Prop where
  len : mg "len" = none
  min : mg "min" = none
  max : mg "max" = none
  all : mg "all" = none
  sorted : mg "sorted" = none
  list : mg "list" = none
  int : mg "int" = none
  range : mg "range" = none
  enumerate : mg "enumerate" = none
  ve : mg "ValueError" = none
def Num (mg : Str → Option Value) (x : Str) (i : Int) : Prop := ∃ t, mg x = some (Value.int i t)
structure Cn (mg : Str → Option Value) : Prop where
  LEAST_RECENT : Num mg "LEAST_RECENT" 1
  MOST_RECENT : Num mg "MOST_RECENT" 2
  LEAST_USED : Num mg "LEAST_USED" 3
  SECOND_CHANCE : Num mg "SECOND_CHANCE" 4
  MOST_POLICY : Num mg "MOST_POLICY" 4
  KEY : Num mg "KEY" 0
  LAST : Num mg "LAST" 1
  COUNT : Num mg "COUNT" 2
  BIT : Num mg "BIT" 3
  FRESH_COUNT : Num mg "FRESH_COUNT" 1
  NEVER : Num mg "NEVER" 1000
  BAD_CAPACITY : Num mg "BAD_CAPACITY" (-1)
  BAD_POLICY : Num mg "BAD_POLICY" (-2)
  BAD_KEY : Num mg "BAD_KEY" (-3)
  BAD_SEQUENCE : Num mg "BAD_SEQUENCE" (-4)
  NO_CAPACITY : Num mg "NO_CAPACITY" (-5)
  BAD_SIZE : Num mg "BAD_SIZE" (-6)
  MOST_CAPACITY : Num mg "MOST_CAPACITY" 6
  MOST_KEY : Num mg "MOST_KEY" 9
  MOST_ELEMENTS : Num mg "MOST_ELEMENTS" 30
  MOST_LENGTH : Num mg "MOST_LENGTH" 6
  MOST_BOUND_SEPARATE : Num mg "MOST_BOUND_SEPARATE" 4
  MOST_BOUND_WORST : Num mg "MOST_BOUND_WORST" 3
end Ks
/-! Comprehensions in the two forms that the program has; entries, caches, rows in a heap. -/
namespace Ks
open PySem PySem.Spec PyProof.Rows L2
open Vakptc (Cache)
theorem take_snoc {α : Type} : ∀ {l : List α} {i : Nat} {x : α}, l[i]? = some x → l.take (i + 1) = l.take i ++ [x]
  | [], i, x, h => by simp at h
  | a :: l, 0, x, h => by
    have e : a = x := Option.some.inj h
    subst e
    rfl
  | a :: l, i + 1, x, h => by
    have ih := take_snoc (l := l) (i := i) (x := x) h
    show a :: l.take (i + 1) = a :: l.take i ++ [x]
    rw [ih]
    rfl
theorem lt_of_get {α : Type} {l : List α} {i : Nat} {x : α} (h : l[i]? = some x) : i < l.length := (List.getElem?_eq_some_iff.mp h).1
theorem seq_upd {K : PySem.W.Frag} {H : Hp} {a D : Addr} {xs : List V} {o : HO} (h : SqL K H a xs) (hD : H D = none) : SqL K (upd H D o) a xs := (same_upd hD).seq h
theorem seq_put {K : PySem.W.Frag} {H : Hp} {a D : Addr} {xs : List V} {o : HO} (h : SqL K H a xs) (hD : D ≠ a) : SqL K (upd H D o) a xs := by
  rcases h with (h | ⟨u, h⟩) | h
  · exact .inl (.inl (by rw [upd_ne (Ne.symm hD)]; exact h))
  · exact .inl (.inr ⟨u, by rw [upd_ne (Ne.symm hD)]; exact h⟩)
  · exact .inr h
/-- a comprehension whose turns leave the heap as it is; ys: what the items stand for -/
theorem lc_pure {β : Type} {K : PySem.W.Frag} {a : Addr} {xs : List V} {g : TG} {tt : TT} {te : TE} {vs : List Nat} {σ : L2.St} {H1 : Hp} {D : Addr} {Qd : Hp → Prop} (R : V → β → Prop) (ys : List β) (keep : β → Bool) (val : β → V)
    (hD : H1 D = none) (hq : SqL K H1 a xs) (hz : xs.length < sizeLine) (al : All2 R xs ys)
    (hs : ∀ (x : V) (b : β) (H' : Hp) (Rt : V → Hp → Prop) (Rf : Hp → Prop), R x b → Same H1 H' → (keep b = true → Rt (val b) H') → (keep b = false → Rf H') →
      g x (wipe σ vs) H' fun σ2 H2 => wipe σ2 vs = wipe σ vs ∧ tt σ2 H2 fun b H3 => if b = true then te σ2 H3 Rt else Rf H3)
    (hd : Qd (upd H1 D (.lst ((ys.filter keep).map val)))) :
    CRounds (Itl K a) g vs σ tt te D Qd (upd H1 D (.lst [])) := by
  refine lc_list (K := K) (a := a) (xs := xs) (fun i H' => H' = upd H1 D (.lst (((ys.take i).filter keep).map val))) rfl (fun i H' _ e => by rw [e]; exact seq_upd hq hD) (fun i x H' hx e => ?_) (fun H' e => by rw [e, al.len, List.take_length]; exact hd)
  subst e
  obtain ⟨b, hb, r⟩ := al.get hx
  have hl := al.len
  have sl : (((ys.take i).filter keep).map val).length < sizeLine := by
    rw [List.length_map]
    exact Nat.lt_of_le_of_lt (Nat.le_trans (List.length_filter_le _ _) (by rw [List.length_take, ← hl]; exact Nat.min_le_right _ _)) hz
  refine hs x b _ _ _ r (same_upd hD) (fun k => ⟨_, upd_same, sl, ?_⟩) (fun k => ?_)
  · rw [upd_upd, take_snoc hb, List.filter_append, List.map_append, List.filter_cons, if_pos k]
    rfl
  · rw [take_snoc hb, List.filter_append, List.filter_cons, if_neg (by rw [k]; exact Bool.false_ne_true), List.filter_nil, List.append_nil]
theorem filter_all {β : Type} (l : List β) : l.filter (fun _ => true) = l := by
  induction l with
  | nil => rfl
  | cons a l ih => rw [List.filter_cons, if_pos rfl, ih]
theorem all2_map {α β : Type} (f : β → α) : ∀ l : List β, All2 (fun x b => x = f b) (l.map f) l
  | [] => .nil
  | b :: l => .cons rfl (all2_map f l)
/-- a comprehension without a test whose turns make new objects -/
theorem lc_made {β : Type} {K : PySem.W.Frag} {a : Addr} {xs : List V} {g : TG} {te : TE} {vs : List Nat} {σ : L2.St} {G H1 : Hp} {D : Addr} {Qd : Hp → Prop} (R : Hp → V → β → Prop) (mono : ∀ G G' v b, Same G G' → R G v b → R G' v b) (ys : List β)
    (s : Same G H1) (hD : H1 D = none) (hq : SqL K G a xs) (hz : xs.length < sizeLine) (hl : xs.length = ys.length)
    (hs : ∀ (i : Nat) (x : V) (b : β) (G' H' : Hp) (N : V → Hp → Prop), xs[i]? = some x → ys[i]? = some b → Ext G H1 G' H' → (∀ G2 H2 v, Ext G' H' G2 H2 → R G2 v b → N v H2) →
      g x (wipe σ vs) H' fun σ2 H2 => wipe σ2 vs = wipe σ vs ∧ te σ2 H2 N)
    (hd : ∀ G' H' ws, Ext G H1 G' H' → G' D = some (.lst ws) → All2 (R G') ws ys → Qd H') :
    CRounds (Itl K a) g vs σ tYes te D Qd (upd H1 D (.lst [])) := by
  have gD : G D = none := s.free hD
  refine lc_list (K := K) (a := a) (xs := xs) (fun i H' => ∃ G' acc, Ext G H1 G' H' ∧ H' D = some (.lst acc) ∧ G' D = none ∧ acc.length = i ∧ All2 (R G') acc (ys.take i))
    ⟨G, [], (Ext.refl s).put hD gD _, upd_same, gD, rfl, .nil⟩ (fun i H' _ ⟨G', acc, x, _⟩ => (x.ext.trans x.sub).seq hq) (fun i x H' hx ⟨G', acc, X, hacc, gn, len, al⟩ => ?_) (fun H' ⟨G', acc, X, hacc, gn, len, al⟩ => ?_)
  · have hi := lt_of_get hx
    obtain ⟨b, hb⟩ : ∃ b, ys[i]? = some b := ⟨ys[i]'(by omega), List.getElem?_eq_getElem (by omega)⟩
    refine hs i x b G' H' _ hx hb X fun G2 H2 v X2 r => ?_
    have e2 : H2 D = some (.lst acc) := X2.same _ _ hacc
    have g2 : G2 D = none := X2.keep (by rw [hacc]; exact fun z => by cases z) gn
    refine ⟨acc, e2, by omega, G2, acc ++ [v], (X.trans X2).put hD g2 _, upd_same, g2, by rw [List.length_append, len]; rfl, ?_⟩
    rw [take_snoc hb]
    exact (al.imp fun v b r => mono _ _ _ _ X2.ext r).app (.one r)
  · rw [hl, List.take_length] at al
    exact hd (upd G' D (.lst acc)) H' acc (X.tell hD gn hacc) upd_same (al.imp fun v b r => mono _ _ _ _ (same_upd gn) r)
/-! ### entries, caches -/
def entV (e : Vakptc.Entry) : List V := [vN e.key, vN e.lastUse, vN e.useCount, vN (if e.referenced then 1 else 0)]
def EntAt (G : Hp) (v : V) (e : Vakptc.Entry) : Prop := ∃ p, v = .ref p ∧ G p = some (.tup (entV e))
theorem EntAt.mono {G G' : Hp} {v : V} {e : Vakptc.Entry} (s : Same G G') (h : EntAt G v e) : EntAt G' v e := by
  obtain ⟨p, r, q⟩ := h
  exact ⟨p, r, s _ _ q⟩
def EntsAt (G : Hp) (a : Addr) (es : List Vakptc.Entry) : Prop := ∃ ts, G a = some (.lst ts) ∧ All2 (EntAt G) ts es
theorem EntsAt.mono {G G' : Hp} {a : Addr} {es : List Vakptc.Entry} (s : Same G G') (h : EntsAt G a es) : EntsAt G' a es := by
  obtain ⟨ts, r, q⟩ := h
  exact ⟨ts, s _ _ r, q.imp fun _ _ => EntAt.mono s⟩
def cF (c : Cache) (l : Addr) : List (Str × V) := [("capacity", vN c.capacity), ("policy", vN c.policy), ("entries", .ref l), ("number", vN (c.hits + c.misses)), ("misses", vN c.misses)]
/-- at a: an instance of the class at C that is the cache c -/
def CacheAt (C : Addr) (G : Hp) (a : Addr) (c : Cache) : Prop := Wfc c ∧ ∃ dx l, G a = some (.ins C dx (cF c l)) ∧ EntsAt G l c.entries
theorem CacheAt.mono {C : Addr} {G G' : Hp} {a : Addr} {c : Cache} (s : Same G G') (h : CacheAt C G a c) : CacheAt C G' a c := by
  obtain ⟨w, dx, l, r, q⟩ := h
  exact ⟨w, dx, l, s _ _ r, q.mono s⟩
def CacheV (C : Addr) (G : Hp) (v : V) (c : Cache) : Prop := ∃ a, v = .ref a ∧ CacheAt C G a c
theorem CacheV.mono {C : Addr} {G G' : Hp} {v : V} {c : Cache} (s : Same G G') (h : CacheV C G v c) : CacheV C G' v c := by
  obtain ⟨a, r, q⟩ := h
  exact ⟨a, r, q.mono s⟩
theorem lk_here {k : Str} {v : V} {r : List (Str × V)} : List.lookup k ((k, v) :: r) = some v := by
  have e : (k == k) = true := beq_self_eq_true k
  simp only [List.lookup, e]
theorem lk_past {k g : Str} {v : V} {r : List (Str × V)} (h : (k == g) = false) : List.lookup k ((g, v) :: r) = List.lookup k r := by
  simp only [List.lookup, h]
section
variable (c : Cache) (l : Addr)
theorem cF_capacity : (cF c l).lookup ("capacity" : Str) = some (vN c.capacity) := lk_here
theorem cF_policy : (cF c l).lookup ("policy" : Str) = some (vN c.policy) := (lk_past (by decide +kernel)).trans lk_here
theorem cF_entries : (cF c l).lookup ("entries" : Str) = some (.ref l) := (lk_past (by decide +kernel)).trans ((lk_past (by decide +kernel)).trans lk_here)
theorem cF_number : (cF c l).lookup ("number" : Str) = some (vN (c.hits + c.misses)) := (lk_past (by decide +kernel)).trans ((lk_past (by decide +kernel)).trans ((lk_past (by decide +kernel)).trans lk_here))
theorem cF_misses : (cF c l).lookup ("misses" : Str) = some (vN c.misses) := (lk_past (by decide +kernel)).trans ((lk_past (by decide +kernel)).trans ((lk_past (by decide +kernel)).trans ((lk_past (by decide +kernel)).trans lk_here)))
theorem cF_not {x : Str} (h1 : (x == ("capacity" : Str)) = false) (h2 : (x == ("policy" : Str)) = false) (h3 : (x == ("entries" : Str)) = false) (h4 : (x == ("number" : Str)) = false) (h5 : (x == ("misses" : Str)) = false) : (cF c l).lookup x = none :=
  (lk_past h1).trans ((lk_past h2).trans ((lk_past h3).trans ((lk_past h4).trans ((lk_past h5).trans rfl))))
end
/-- what the top has written of the class Cache -/
structure ClsC (K : PySem.W.Frag) (C : Addr) : Prop where
  cl : Cls K C
  nC : NoAttr K C "capacity"
  nP : NoAttr K C "policy"
  nE : NoAttr K C "entries"
  nN : NoAttr K C "number"
  nM : NoAttr K C "misses"
theorem size_small {n : Nat} (h : n ≤ 100000) : n < sizeLine := Nat.lt_of_le_of_lt h (by decide)
theorem size_le {n : Nat} (h : n ≤ 100000) : n ≤ sizeLine := Nat.le_of_lt (size_small h)
end Ks
/-! The policies' defs. -/
namespace Ks
open PySem PySem.Spec PyProof.Rows L2
open Vakptc (Cache firstIndexBy rotateReferenced selectVictim)
theorem ifd {c A B : Prop} [Decidable c] (h1 : c → A) (h2 : ¬ c → B) : if decide c = true then A else B := by
  by_cases h : c
  · rw [if_pos (decide_eq_true h)]
    exact h1 h
  · rw [if_neg (by rw [decide_eq_false h]; exact Bool.false_ne_true)]
    exact h2 h
theorem ifnd {c A B : Prop} [Decidable c] (h1 : ¬ c → A) (h2 : c → B) : if (!decide c) = true then A else B := by
  by_cases h : c
  · rw [decide_eq_true h, if_neg (by decide)]
    exact h2 h
  · rw [decide_eq_false h, if_pos (by decide)]
    exact h1 h
theorem v_inj {i j : Int} (h : V.int i = V.int j) : i = j := V.int.inj h
theorem vn_inj {i j : Nat} (h : vN i = vN j) : i = j := by
  have := v_inj h
  omega
theorem vn_ne {i j : Nat} (h : ¬ vN i = vN j) : i ≠ j := fun e => h (by rw [e])
theorem at_zero {v : V} {vs : List V} : atI (v :: vs) 0 = some v := atI_nat (j := 0) rfl
theorem cut_to (xs : List V) {n : Nat} (h : n ≤ xs.length) : cutV xs none (some (n : Int)) = xs.take n := by
  unfold cutV
  rw [HT.sIx_none, HT.sIx_nat, List.drop_zero, Nat.min_eq_left h, Nat.sub_zero]
theorem cut_from (xs : List V) {n : Nat} (h : n ≤ xs.length) : cutV xs (some (n : Int)) none = xs.drop n := by
  unfold cutV
  rw [HT.sIx_none, HT.sIx_nat, Nat.min_eq_left h]
  exact List.take_of_length_le (by rw [List.length_drop]; exact Nat.le_refl _)
section
variable (K : PySem.W.Frag)
def spKeysOf : Sp := fun vs H Q _ => ∃ (G : Hp) (a : Addr) (es : List Vakptc.Entry), vs = [.ref a] ∧ Same G H ∧ EntsAt G a es ∧ es.length ≤ 1000 ∧ Post G H (fun G' v => ∃ p, v = .ref p ∧ NatsAt G' p (es.map (·.key))) Q
def spWithout : Sp := fun vs H Q _ => ∃ (G : Hp) (a : Addr) (xs : List V) (n : Nat), vs = [.ref a, vN n] ∧ Same G H ∧ G a = some (.lst xs) ∧ n < xs.length ∧ xs.length ≤ 1000 ∧ Post G H (fun G' v => ∃ p, v = .ref p ∧ G' p = some (.lst (xs.eraseIdx n))) Q
def spUsed : Sp := fun vs H Q _ => ∃ (G : Hp) (v : V) (e : Vakptc.Entry) (n : Nat), vs = [v, vN n] ∧ Same G H ∧ EntAt G v e ∧ Post G H (fun G' v => EntAt G' v { e with lastUse := n, useCount := e.useCount + 1, referenced := true }) Q
def spCleared : Sp := fun vs H Q _ => ∃ (G : Hp) (v : V) (e : Vakptc.Entry), vs = [v] ∧ Same G H ∧ EntAt G v e ∧ Post G H (fun G' v => EntAt G' v (clr e)) Q
def spTurned : Sp := fun vs H Q _ => ∃ (G : Hp) (a : Addr) (es : List Vakptc.Entry), vs = [.ref a] ∧ Same G H ∧ EntsAt G a es ∧ es ≠ [] ∧ es.length ≤ 1000 ∧ Post G H (fun G' v => ∃ p, v = .ref p ∧ EntsAt G' p (rotateReferenced es.length es)) Q
def spFirst : Sp := fun vs H Q _ => ∃ (a : Addr) (ns : List Nat) (m j : Nat), vs = [.ref a, vN m] ∧ NatsAt H a ns ∧ ns[j]? = some m ∧ (∀ i, i < j → ns[i]? ≠ some m) ∧ Q (vN j) H
def spPlace (pl : List Vakptc.Entry → Nat) : Sp := fun vs H Q _ => ∃ (G : Hp) (a : Addr) (es : List Vakptc.Entry), vs = [.ref a] ∧ Same G H ∧ EntsAt G a es ∧ es ≠ [] ∧ es.length ≤ 1000 ∧ (es.map (·.lastUse)).Nodup ∧ Post G H (fun _ v => v = vN (pl es)) Q
def spBefore : Sp := fun vs H Q _ => ∃ (G : Hp) (p : Nat) (a : Addr) (es : List Vakptc.Entry), vs = [vN p, .ref a] ∧ Same G H ∧ EntsAt G a es ∧ es ≠ [] ∧ es.length ≤ 1000 ∧ Post G H (fun G' v => ∃ q, v = .ref q ∧ EntsAt G' q (selectVictim p es).1) Q
def spVictim : Sp := fun vs H Q _ => ∃ (G : Hp) (p : Nat) (a : Addr) (es : List Vakptc.Entry), vs = [vN p, .ref a] ∧ Same G H ∧ EntsAt G a es ∧ es ≠ [] ∧ es.length ≤ 1000 ∧ (es.map (·.lastUse)).Nodup ∧ Post G H (fun _ v => v = vN (selectVictim p es).2) Q
end
section
variable {P : Program} {w : World} {K : PySem.W.Frag} {mg : Str → Option Value} {base : Heap} {f : Addr}
theorem sc_keys_of : FnScope ["entries", "entry"] ["entries"] (defScope (top 10)) := ⟨rfl, rfl, rfl, by decide +kernel, rfl, by decide +kernel, by decide +kernel⟩
theorem ok_keys_of (cn : Cn mg) (D : DF K mg "keys_of" (top 10) ["entries"] f) : FOk P w K mg base CX0 1 ["entries"] spKeysOf f := by
  refine D.ok sc_keys_of (fun vs H Q E ⟨_, _, _, e, _⟩ => by rw [e]; rfl) (fun f cdv A outer s1 H vs Q E hr h => ⟨_, (pss_one (ps_ret (pe_lc (own := [("entry", 1)]) (g := (gName 1)) (tt := tYes) rfl sc_keys_of.nd (pi_list (pv 0)) (blkOk_by (own := [("entry", 1)]) (N := ["entries", "entry"]) (sc := defScope (top 10)) (by decide +kernel)) (fun _ _ _ _ _ => pg_name (i := 1) sc_keys_of.nd rfl (Or.inl rfl)) (fun _ _ _ _ _ => pts_nil) (fun _ _ _ _ _ => (pe_ix (show IxR _ (rIxT K) from ix_tup) (pv 1) (pe_const cn.KEY) (fun _ _ => rfl)))))), ?_⟩)
  obtain ⟨G, a, es, rfl, s, ⟨ts, ha, al⟩, hz, post⟩ := h
  refine ⟨_, rfl, a, rfl, ⟨_, .inl (.inl (s _ _ ha))⟩, fun D hD => ?_⟩
  refine lc_pure (EntAt G) es (fun _ => true) (fun e => vN e.key) hD (.inl (.inl (s _ _ ha))) (size_small (by rw [al.len]; omega)) al (fun x b H' Rt Rf r sm kt kf => ?_) ?_
  · obtain ⟨p, rfl, hp⟩ := r
    exact ⟨rfl, _, rfl, p, _, 0, _, rfl, rfl, .inl (.inl (sm _ _ (s _ _ hp))), rfl, kt rfl⟩
  · rw [filter_all]
    refine post _ _ _ ((Ext.refl s).made hD _) ⟨D, rfl, ?_⟩
    show upd G D _ D = _
    rw [upd_same, List.map_map]
    rfl
theorem sc_without : FnScope ["things", "at"] ["things", "at"] (defScope (top 11)) := ⟨rfl, rfl, rfl, by decide +kernel, rfl, by decide +kernel, by decide +kernel⟩
theorem ok_without (D : DF K mg "without" (top 11) ["things", "at"] f) : FOk P w K mg base CX0 1 ["things", "at"] spWithout f := by
  refine D.ok sc_without (fun vs H Q E ⟨_, _, _, _, e, _⟩ => by rw [e]; rfl) (fun f cdv A outer s1 H vs Q E hr h => ⟨_, (pss_one (ps_ret (pe_op op_cat (pe_slice sl_list (pv 0) po_none (po_some (pv 1))) (pe_slice sl_list (pv 0) (po_some (pe_op op_add (pv 1) pe_int)) po_none)))), ?_⟩)
  obtain ⟨G, a, xs, n, rfl, s, ha, hn, hz, post⟩ := h
  refine ⟨_, rfl, _, rfl, n, rfl, a, xs, rfl, .inl (.inl (s _ _ ha)), fun p hp => ?_⟩
  refine ⟨_, rfl, _, rfl, _, _, rfl, rfl, _, rfl, a, xs, rfl, seq_upd (.inl (.inl (s _ _ ha))) hp, fun q hq => ?_⟩
  have hqp : q ≠ p := fun e => by
    rw [e, upd_same] at hq
    cases hq
  refine ⟨p, q, _, _, rfl, rfl, by rw [upd_ne (Ne.symm hqp), upd_same], upd_same, size_le ?_, fun r hr => ?_⟩
  · have := cutV_length xs none (some (n : Int))
    have := cutV_length xs (some ((n : Int) + 1)) none
    omega
  · refine post _ _ _ ((((Ext.refl s).hid hp _).hid hq _).made hr _) ⟨r, rfl, ?_⟩
    rw [upd_same, cut_to xs (by omega), show (n : Int) + 1 = ((n + 1 : Nat) : Int) from rfl, cut_from xs (by omega), List.eraseIdx_eq_take_drop_succ]
theorem sc_used : FnScope ["entry", "number"] ["entry", "number"] (defScope (top 12)) := ⟨rfl, rfl, rfl, by decide +kernel, rfl, by decide +kernel, by decide +kernel⟩
theorem ok_used (cn : Cn mg) (D : DF K mg "used" (top 12) ["entry", "number"] f) : FOk P w K mg base CX0 1 ["entry", "number"] spUsed f := by
  refine D.ok sc_used (fun vs H Q E ⟨_, _, _, _, e, _⟩ => by rw [e]; rfl) (fun f cdv A outer s1 H vs Q E hr h => ⟨_, (pss_one (ps_ret (pe_tup (pa_cons (pe_ix (show IxR _ (rIxT K) from ix_tup) (pv 0) (pe_const cn.KEY) (fun _ _ => rfl)) (pa_cons (pv 1) (pa_cons (pe_op op_add (pe_ix (show IxR _ (rIxT K) from ix_tup) (pv 0) (pe_const cn.COUNT) (fun _ _ => rfl)) pe_int) (pa_cons pe_int pa_nil))))))), ?_⟩)
  obtain ⟨G, v, e, n, rfl, s, ⟨t, rfl, ht⟩, post⟩ := h
  have q : SqT K H t (entV e) := .inl (.inl (s _ _ ht))
  refine ⟨_, rfl, t, _, 0, _, rfl, rfl, q, rfl, _, rfl, _, rfl, t, _, 2, _, rfl, rfl, q, rfl, _, _, rfl, rfl, by show 4 ≤ sizeLine; decide, fun p hp => ?_⟩
  exact post _ _ _ ((Ext.refl s).made hp _) ⟨p, rfl, upd_same⟩
theorem sc_cleared : FnScope ["entry"] ["entry"] (defScope (top 13)) := ⟨rfl, rfl, rfl, by decide +kernel, rfl, by decide +kernel, by decide +kernel⟩
theorem ok_cleared (cn : Cn mg) (D : DF K mg "cleared" (top 13) ["entry"] f) : FOk P w K mg base CX0 1 ["entry"] spCleared f := by
  refine D.ok sc_cleared (fun vs H Q E ⟨_, _, _, e, _⟩ => by rw [e]; rfl) (fun f cdv A outer s1 H vs Q E hr h => ⟨_, (pss_one (ps_ret (pe_tup (pa_cons (pe_ix (show IxR _ (rIxT K) from ix_tup) (pv 0) (pe_const cn.KEY) (fun _ _ => rfl)) (pa_cons (pe_ix (show IxR _ (rIxT K) from ix_tup) (pv 0) (pe_const cn.LAST) (fun _ _ => rfl)) (pa_cons (pe_ix (show IxR _ (rIxT K) from ix_tup) (pv 0) (pe_const cn.COUNT) (fun _ _ => rfl)) (pa_cons pe_int pa_nil))))))), ?_⟩)
  obtain ⟨G, v, e, rfl, s, ⟨t, rfl, ht⟩, post⟩ := h
  have q : SqT K H t (entV e) := .inl (.inl (s _ _ ht))
  refine ⟨_, rfl, t, _, 0, _, rfl, rfl, q, rfl, _, rfl, t, _, 1, _, rfl, rfl, q, rfl, _, rfl, t, _, 2, _, rfl, rfl, q, rfl, by show 4 ≤ sizeLine; decide, fun p hp => ?_⟩
  exact post _ _ _ ((Ext.refl s).made hp _) ⟨p, rfl, upd_same⟩
theorem sc_turned : FnScope ["entries", "found"] ["entries"] (defScope (top 14)) := ⟨rfl, rfl, rfl, by decide +kernel, rfl, by decide +kernel, by decide +kernel⟩
theorem ok_turned (cn : Cn mg) (bl : Blt mg) (D : DF K mg "turned" (top 14) ["entries"] f) (c_cleared : CallOk P w K mg base CX0 1 "cleared" ["entry"] spCleared) : FOk P w K mg base CX0 2 ["entries"] spTurned f := by
  refine D.ok sc_turned (fun vs H Q E ⟨_, _, _, e, _⟩ => by rw [e]; rfl) (fun f cdv A outer s1 H vs Q E hr h => ⟨_, (pss_cons (ps_set (i := 1) sc_turned.nd rfl (Or.inl rfl) (pe_callTy call_list_of (by rfl) bl.list (by decide +kernel) (pa_cons (pv 0) pa_nil))) (pss_cons (ps_while PassesOwn.never (pt_cmpR op_eq (pe_ix (show IxR _ (rIxT K) from ix_tup) (pe_ix ix_list (pv 1) pe_int (fun _ _ => rfl)) (pe_const cn.BIT) (fun _ _ => rfl)) pe_int (nomark _)) (pss_one (ps_set (i := 1) sc_turned.nd rfl (Or.inl rfl) (pe_op op_cat (pe_slice sl_list (pv 1) (po_some pe_int) po_none) (pe_lst (pa_cons (pe_callC c_cleared hr (by decide) pass0 (pa_cons (pe_ix ix_list (pv 1) pe_int (fun _ _ => rfl)) pa_nil)) pa_nil)))))) (pss_one (ps_ret (pv 1))))), ?_⟩)
  obtain ⟨G, a, es, rfl, s, ⟨ts, ha, al⟩, ne, hz, post⟩ := h
  refine ⟨_, rfl, a, _, rfl, .inl (.inl (.inl (s _ _ ha))), fun l hl => ?_⟩
  refine ⟨fun m σ H' => ∃ G' p fs n, σ = [some (.ref a), some (.ref p)] ∧ Ext G H G' H' ∧ EntsAt G' p fs ∧ fs.length = es.length ∧ refs fs ≤ n ∧ rotateReferenced n fs = rotateReferenced es.length es ∧ m = refs fs, ⟨_, _, l, es, es.length, rfl, (Ext.refl s).made hl _, ⟨ts, upd_same, al.imp fun _ _ => EntAt.mono (same_upd (s.free hl))⟩, rfl, refs_le es, rfl, rfl⟩, ?_⟩
  rintro m σ H' ⟨G', p, fs, n, rfl, X, ⟨us, hu, bl'⟩, len, hn, eq, rfl⟩
  cases bl' with
  | nil => exact absurd (List.eq_nil_of_length_eq_zero len.symm) ne
  | @cons v e vs r hv hr' =>
    obtain ⟨q, rfl, hq⟩ := hv
    have hu' := X.sub _ _ hu
    refine ⟨_, rfl, p, _, 0, _, rfl, rfl, .inl (.inl hu'), at_zero, q, _, 3, _, rfl, rfl, .inl (.inl (X.sub _ _ hq)), rfl, rfl, _, rfl, ?_⟩
    refine ifd (fun h => ?_) (fun h => ?_)
    · have er : e.referenced = true := by
        cases z : e.referenced with
        | true => rfl
        | false =>
          rw [z] at h
          have h' : vN 0 = vN 1 := h
          have := vn_inj h'
          omega
      refine ⟨fun σ2 H2 => ∃ m', m' < refs (e :: r) ∧ ∃ G' p fs n, σ2 = [some (.ref a), some (.ref p)] ∧ Ext G H G' H2 ∧ EntsAt G' p fs ∧ fs.length = es.length ∧ refs fs ≤ n ∧ rotateReferenced n fs = rotateReferenced es.length es ∧ m' = refs fs, fun _ _ z => z, ?_⟩
      refine ⟨_, rfl, _, rfl, p, _, rfl, .inl (.inl hu'), fun p1 h1 => ?_⟩
      have sm : Same H' (upd H' p1 (.lst (cutV (.ref q :: vs) (some 1) none))) := same_upd h1
      refine ⟨_, rfl, p, _, 0, _, rfl, rfl, .inl (.inl (sm _ _ hu')), at_zero, G', _, e, rfl, X.sub.trans sm, ⟨q, rfl, hq⟩, fun G2 H2 v2 X2 r2 => ?_⟩
      refine ⟨by show 1 ≤ sizeLine; decide, fun p2 h2 => ?_⟩
      have hp1 : H2 p1 = some (.lst (cutV (.ref q :: vs) (some 1) none)) := X2.same _ _ upd_same
      have n21 : p1 ≠ p2 := ne_of_none hp1 h2
      have ecut : cutV (.ref q :: vs) (some 1) none = vs := cut_from (.ref q :: vs) (n := 1) (by simp)
      have lv : vs.length = r.length := hr'.len
      have lr : r.length + 1 = es.length := len
      refine ⟨p1, p2, _, _, rfl, rfl, by rw [upd_ne n21]; exact hp1, upd_same, size_le ?_, fun p3 h3 => ?_⟩
      · rw [ecut]
        show vs.length + 1 ≤ 100000
        omega
      rw [ecut] at *
      have X3 : Ext G H G2 H2 := X.trans (Ext.trans ((Ext.refl X.sub).hid h1 _) X2)
      have X4 := ((X3.hid h2 (.lst [v2])).made h3 (.lst (vs ++ [v2])))
      have g3 : G2 p3 = none := X3.sub.free (by rw [upd_ne (fun z => by rw [z, upd_same] at h3; cases h3)] at h3; exact h3)
      rw [refs_yes er] at hn
      obtain ⟨k, rfl⟩ : ∃ k, n = k + 1 := ⟨n - 1, by omega⟩
      refine ⟨_, by rw [refs_yes er]; exact Nat.lt_succ_self _, _, p3, r ++ [clr e], k, rfl, X4, ⟨_, upd_same, ?_⟩, by rw [List.length_append]; exact lr, by omega, by rw [← rot_yes er]; exact eq, rfl⟩
      exact ((hr'.imp fun _ _ z => (z.mono X2.ext).mono (same_upd g3)).app (.one (r2.mono (same_upd g3))))
    · have er : e.referenced = false := by
        cases z : e.referenced with
        | false => rfl
        | true =>
          rw [z] at h
          exact absurd rfl h
      refine ⟨_, rfl, post _ _ _ X ⟨p, rfl, _, hu, ?_⟩⟩
      rw [← eq, rot_no er]
      exact .cons ⟨q, rfl, hq⟩ hr'
theorem sc_first_with : FnScope ["numbers", "wanted"] ["numbers", "wanted"] (defScope (top 15)) := ⟨rfl, rfl, rfl, by decide +kernel, rfl, by decide +kernel, by decide +kernel⟩
theorem ok_first_with (D : DF K mg "first_with" (top 15) ["numbers", "wanted"] f) : FOk P w K mg base CX0 1 ["numbers", "wanted"] spFirst f := by
  refine D.ok sc_first_with (fun vs H Q E ⟨_, _, _, _, e, _⟩ => by rw [e]; rfl) (fun f cdv A outer s1 H vs Q E hr h => ⟨_, (pss_one (ps_ret (pe_bm PySem.F.plainAttrs_list PySem.F.slot_list_index PySem.F.type_list_index mt_index (pv 0) (pa_cons (pv 1) pa_nil)))), ?_⟩)
  obtain ⟨a, ns, m, j, rfl, ha, hj, hb, q⟩ := h
  refine ⟨_, rfl, .inl ⟨rfl, _, ha.seq⟩, _, rfl, a, _, _, j, vN m, rfl, rfl, ha.seq, rfl, ?_, ?_, ?_, fun i z hi hz => ?_, q⟩
  · rw [List.all_eq_true]
    intro x hx
    obtain ⟨y, _, rfl⟩ := List.mem_map.mp hx
    rfl
  · rw [List.getElem?_map, hj]
    rfl
  · show ((m : Int) == (m : Int)) = true
    exact beq_self_eq_true _
  · rw [List.getElem?_map] at hz
    cases e : ns[i]? with
    | none => rw [e] at hz; cases hz
    | some y =>
      rw [e] at hz
      cases hz
      show ((y : Int) == (m : Int)) = false
      have := hb i hi
      rw [e] at this
      rw [beq_eq_false_iff_ne]
      intro q
      exact this (by rw [show y = m by omega])
theorem min_nat {ns : List Nat} {m : Int} (hm : m ∈ ns.map fun n : Nat => (n : Int)) (hle : ∀ y, y ∈ ns.map (fun n : Nat => (n : Int)) → m ≤ y) : ∃ k : Nat, m = k ∧ k ∈ ns ∧ ∀ y ∈ ns, k ≤ y := by
  obtain ⟨k, hk, rfl⟩ := List.mem_map.mp hm
  refine ⟨k, rfl, hk, fun y hy => ?_⟩
  have := hle y (List.mem_map.mpr ⟨y, hy, rfl⟩)
  omega
theorem max_nat {ns : List Nat} {m : Int} (hm : m ∈ ns.map fun n : Nat => (n : Int)) (hle : ∀ y, y ∈ ns.map (fun n : Nat => (n : Int)) → y ≤ m) : ∃ k : Nat, m = k ∧ k ∈ ns ∧ ∀ y ∈ ns, y ≤ k := by
  obtain ⟨k, hk, rfl⟩ := List.mem_map.mp hm
  refine ⟨k, rfl, hk, fun y hy => ?_⟩
  have := hle y (List.mem_map.mpr ⟨y, hy, rfl⟩)
  omega
theorem ints_seq {H : Hp} {a : Addr} {ns : List Nat} (h : NatsAt H a ns) : SqL K H a ((ns.map fun n : Nat => (n : Int)).map V.int) := by
  rw [List.map_map]
  exact .inl (.inl h)
/-- the list of one number of each entry, as a comprehension makes it -/
theorem lasts_at {G H : Hp} {D : Addr} {es : List Vakptc.Entry} (g : Vakptc.Entry → Nat) : upd H D (.lst ((es.filter fun _ => true).map fun e => vN (g e))) D = some (.lst ((es.map g).map vN)) := by
  rw [upd_same, filter_all, List.map_map]
  rfl
theorem sc_least_recent : FnScope ["entries", "lasts", "entry"] ["entries"] (defScope (top 16)) := ⟨rfl, rfl, rfl, by decide +kernel, rfl, by decide +kernel, by decide +kernel⟩
theorem ok_least_recent (cn : Cn mg) (bl : Blt mg) (D : DF K mg "least_recent" (top 16) ["entries"] f) (c_first_with : CallOk P w K mg base CX0 1 "first_with" ["numbers", "wanted"] spFirst) : FOk P w K mg base CX0 2 ["entries"] (spPlace (firstIndexBy fun a b => decide (a.lastUse < b.lastUse))) f := by
  refine D.ok sc_least_recent (fun vs H Q E ⟨_, _, _, e, _⟩ => by rw [e]; rfl) (fun f cdv A outer s1 H vs Q E hr h => ⟨_, (pss_cons (ps_setLc (i := 1) (own := [("entry", 2)]) (g := (gName 2)) (tt := tYes) rfl sc_least_recent.nd rfl rfl (sw_true rfl rfl rfl (by decide +kernel)) (pi_list (pv 0)) (blkOk_by (own := [("entry", 2)]) (N := ["entries", "lasts", "entry"]) (sc := defScope (top 16)) (by decide +kernel)) (fun _ _ _ _ _ => pg_name (i := 2) sc_least_recent.nd rfl (Or.inl rfl)) (fun _ _ _ _ _ => pts_nil) (fun _ _ _ _ _ => (pe_ix (show IxR _ (rIxT K) from ix_tup) (pv 2) (pe_const cn.LAST) (fun _ _ => rfl)))) (pss_one (ps_ret (pe_callC c_first_with hr (by decide) pass0 (pa_cons (pv 1) (pa_cons (pe_callB (cr_min rfl) (by rfl) bl.min (by decide +kernel) (pa_cons (pv 1) pa_nil)) pa_nil)))))), ?_⟩)
  obtain ⟨G, a, es, rfl, s, ⟨ts, ha, al⟩, ne, hz, nd, post⟩ := h
  refine ⟨_, rfl, a, rfl, ⟨_, .inl (.inl (s _ _ ha))⟩, fun D hD => ?_⟩
  refine lc_pure (EntAt G) es (fun _ => true) (fun e => vN e.lastUse) hD (.inl (.inl (s _ _ ha))) (size_small (by rw [al.len]; omega)) al (fun x b H' Rt Rf r sm kt kf => ?_) ?_
  · obtain ⟨p, rfl, hp⟩ := r
    exact ⟨rfl, _, rfl, p, _, 1, _, rfl, rfl, .inl (.inl (sm _ _ (s _ _ hp))), rfl, kt rfl⟩
  have hl : NatsAt _ D (es.map (·.lastUse)) := lasts_at (G := G) (H := H) (D := D) (·.lastUse)
  refine ⟨_, rfl, _, rfl, D, _, rfl, ints_seq hl, by rw [List.length_map, List.length_map]; exact List.length_pos_iff.mpr ne, fun m hm hle => ?_⟩
  obtain ⟨k, rfl, hk, hkl⟩ := min_nat hm hle
  obtain ⟨p1, p2⟩ := place_lru hk hkl
  exact ⟨D, _, k, _, rfl, hl, p1, p2, post _ _ _ ((Ext.refl s).hid hD _) rfl⟩
theorem sc_most_recent : FnScope ["entries", "lasts", "entry"] ["entries"] (defScope (top 17)) := ⟨rfl, rfl, rfl, by decide +kernel, rfl, by decide +kernel, by decide +kernel⟩
theorem ok_most_recent (cn : Cn mg) (bl : Blt mg) (D : DF K mg "most_recent" (top 17) ["entries"] f) (c_first_with : CallOk P w K mg base CX0 1 "first_with" ["numbers", "wanted"] spFirst) : FOk P w K mg base CX0 2 ["entries"] (spPlace (firstIndexBy fun a b => decide (b.lastUse < a.lastUse))) f := by
  refine D.ok sc_most_recent (fun vs H Q E ⟨_, _, _, e, _⟩ => by rw [e]; rfl) (fun f cdv A outer s1 H vs Q E hr h => ⟨_, (pss_cons (ps_setLc (i := 1) (own := [("entry", 2)]) (g := (gName 2)) (tt := tYes) rfl sc_most_recent.nd rfl rfl (sw_true rfl rfl rfl (by decide +kernel)) (pi_list (pv 0)) (blkOk_by (own := [("entry", 2)]) (N := ["entries", "lasts", "entry"]) (sc := defScope (top 17)) (by decide +kernel)) (fun _ _ _ _ _ => pg_name (i := 2) sc_most_recent.nd rfl (Or.inl rfl)) (fun _ _ _ _ _ => pts_nil) (fun _ _ _ _ _ => (pe_ix (show IxR _ (rIxT K) from ix_tup) (pv 2) (pe_const cn.LAST) (fun _ _ => rfl)))) (pss_one (ps_ret (pe_callC c_first_with hr (by decide) pass0 (pa_cons (pv 1) (pa_cons (pe_callB (cr_max rfl) (by rfl) bl.max (by decide +kernel) (pa_cons (pv 1) pa_nil)) pa_nil)))))), ?_⟩)
  obtain ⟨G, a, es, rfl, s, ⟨ts, ha, al⟩, ne, hz, nd, post⟩ := h
  refine ⟨_, rfl, a, rfl, ⟨_, .inl (.inl (s _ _ ha))⟩, fun D hD => ?_⟩
  refine lc_pure (EntAt G) es (fun _ => true) (fun e => vN e.lastUse) hD (.inl (.inl (s _ _ ha))) (size_small (by rw [al.len]; omega)) al (fun x b H' Rt Rf r sm kt kf => ?_) ?_
  · obtain ⟨p, rfl, hp⟩ := r
    exact ⟨rfl, _, rfl, p, _, 1, _, rfl, rfl, .inl (.inl (sm _ _ (s _ _ hp))), rfl, kt rfl⟩
  have hl : NatsAt _ D (es.map (·.lastUse)) := lasts_at (G := G) (H := H) (D := D) (·.lastUse)
  refine ⟨_, rfl, _, rfl, D, _, rfl, ints_seq hl, by rw [List.length_map, List.length_map]; exact List.length_pos_iff.mpr ne, fun m hm hle => ?_⟩
  obtain ⟨k, rfl, hk, hkl⟩ := max_nat hm hle
  obtain ⟨p1, p2⟩ := place_mru hk hkl
  exact ⟨D, _, k, _, rfl, hl, p1, p2, post _ _ _ ((Ext.refl s).hid hD _) rfl⟩
theorem sc_least_used : FnScope ["entries", "few", "last", "entry"] ["entries"] (defScope (top 18)) := ⟨rfl, rfl, rfl, by decide +kernel, rfl, by decide +kernel, by decide +kernel⟩
theorem ok_least_used (cn : Cn mg) (bl : Blt mg) (D : DF K mg "least_used" (top 18) ["entries"] f) (c_first_with : CallOk P w K mg base CX0 1 "first_with" ["numbers", "wanted"] spFirst) :
    FOk P w K mg base CX0 2 ["entries"] (spPlace (firstIndexBy fun a b => decide (a.useCount < b.useCount ∨ (a.useCount = b.useCount ∧ a.lastUse < b.lastUse)))) f := by
  refine D.ok sc_least_used (fun vs H Q E ⟨_, _, _, e, _⟩ => by rw [e]; rfl) (fun f cdv A outer s1 H vs Q E hr h => ⟨_, (pss_cons (ps_set (i := 1) sc_least_used.nd rfl (Or.inr rfl) (pe_callB (cr_min rfl) (by rfl) bl.min (by decide +kernel) (pa_cons (pe_lc (own := [("entry", 3)]) (g := (gName 3)) (tt := tYes) rfl sc_least_used.nd (pi_list (pv 0)) (blkOk_by (own := [("entry", 3)]) (N := ["entries", "few", "last", "entry"]) (sc := defScope (top 18)) (by decide +kernel)) (fun _ _ _ _ _ => pg_name (i := 3) sc_least_used.nd rfl (Or.inl rfl)) (fun _ _ _ _ _ => pts_nil) (fun _ _ _ _ _ => (pe_ix (show IxR _ (rIxT K) from ix_tup) (pv 3) (pe_const cn.COUNT) (fun _ _ => rfl)))) pa_nil))) (pss_cons (ps_set (i := 2) sc_least_used.nd rfl (Or.inl rfl) (pe_callB (cr_min rfl) (by rfl) bl.min (by decide +kernel) (pa_cons (pe_lc (own := [("entry", 3)]) (g := (gName 3)) rfl sc_least_used.nd (pi_list (pv 0)) (blkOk_by (own := [("entry", 3)]) (N := ["entries", "few", "last", "entry"]) (sc := defScope (top 18)) (by decide +kernel)) (fun _ _ _ _ _ => pg_name (i := 3) sc_least_used.nd rfl (Or.inl rfl)) (fun _ _ _ _ _ => (pts_one (pt_cmpR op_eq (pe_ix (show IxR _ (rIxT K) from ix_tup) (pv 3) (pe_const cn.COUNT) (fun _ _ => rfl)) (pv 1) (nomark _)))) (fun _ _ _ _ _ => (pe_ix (show IxR _ (rIxT K) from ix_tup) (pv 3) (pe_const cn.LAST) (fun _ _ => rfl)))) pa_nil))) (pss_one (ps_ret (pe_callC c_first_with hr (by decide) pass0 (pa_cons (pe_lc (own := [("entry", 3)]) (g := (gName 3)) (tt := tYes) rfl sc_least_used.nd (pi_list (pv 0)) (blkOk_by (own := [("entry", 3)]) (N := ["entries", "few", "last", "entry"]) (sc := defScope (top 18)) (by decide +kernel)) (fun _ _ _ _ _ => pg_name (i := 3) sc_least_used.nd rfl (Or.inl rfl)) (fun _ _ _ _ _ => pts_nil) (fun _ _ _ _ _ => (pe_ix (show IxR _ (rIxT K) from ix_tup) (pv 3) (pe_const cn.LAST) (fun _ _ => rfl)))) (pa_cons (pv 2) pa_nil))))))), ?_⟩)
  obtain ⟨G, a, es, rfl, s, ⟨ts, ha, al⟩, ne, hz, nd, post⟩ := h
  refine ⟨_, rfl, a, rfl, ⟨_, .inl (.inl (s _ _ ha))⟩, fun D hD => ?_⟩
  refine lc_pure (EntAt G) es (fun _ => true) (fun e => vN e.useCount) hD (.inl (.inl (s _ _ ha))) (size_small (by rw [al.len]; omega)) al (fun x b H' Rt Rf r sm kt kf => ?_) ?_
  · obtain ⟨p, rfl, hp⟩ := r
    exact ⟨rfl, _, rfl, p, _, 2, _, rfl, rfl, .inl (.inl (sm _ _ (s _ _ hp))), rfl, kt rfl⟩
  have hl : NatsAt _ D (es.map (·.useCount)) := lasts_at (G := G) (H := H) (D := D) (·.useCount)
  refine ⟨D, _, rfl, ints_seq hl, by rw [List.length_map, List.length_map]; exact List.length_pos_iff.mpr ne, fun m hm hle => ?_⟩
  obtain ⟨few, rfl, hk, hkl⟩ := min_nat hm hle
  have X1 := (Ext.refl s).hid hD (.lst ((es.filter fun _ => true).map fun e => vN e.useCount))
  generalize upd H D (.lst ((es.filter fun _ => true).map fun e => vN e.useCount)) = H1 at *
  refine ⟨_, rfl, a, rfl, ⟨_, .inl (.inl (X1.sub _ _ ha))⟩, fun D2 hD2 => ?_⟩
  refine lc_pure (EntAt G) es (fun e => decide (e.useCount = few)) (fun e => vN e.lastUse) hD2 (.inl (.inl (X1.sub _ _ ha))) (size_small (by rw [al.len]; omega)) al (fun x b H' Rt Rf r sm kt kf => ?_) ?_
  · obtain ⟨p, rfl, hp⟩ := r
    have q : SqT K H' p (entV b) := .inl (.inl (sm _ _ (X1.sub _ _ hp)))
    refine ⟨rfl, _, rfl, p, _, 2, _, rfl, rfl, q, rfl, _, rfl, rfl, _, rfl, ?_⟩
    refine ifd (fun c => ?_) (fun c => ?_)
    · exact ⟨_, rfl, p, _, 1, _, rfl, rfl, q, rfl, kt (decide_eq_true (vn_inj c))⟩
    · exact kf (decide_eq_false (vn_ne c))
  have hl2 : NatsAt (upd H1 D2 (.lst ((es.filter fun e => decide (e.useCount = few)).map fun e => vN e.lastUse))) D2 ((es.filter fun e => decide (e.useCount = few)).map (·.lastUse)) := by
    show _ = _
    rw [upd_same, List.map_map]
    rfl
  obtain ⟨e0, he0, ee0⟩ := List.mem_map.mp hk
  refine ⟨D2, _, rfl, ints_seq hl2, ?_, fun m hm hle => ?_⟩
  · rw [List.length_map, List.length_map]
    exact List.length_pos_of_mem (List.mem_filter.mpr ⟨he0, by simpa using ee0⟩)
  obtain ⟨last, rfl, hk2, hkl2⟩ := min_nat hm hle
  have X2 := X1.hid hD2 (.lst ((es.filter fun e => decide (e.useCount = few)).map fun e => vN e.lastUse))
  generalize upd H1 D2 (.lst ((es.filter fun e => decide (e.useCount = few)).map fun e => vN e.lastUse)) = H2 at *
  refine ⟨_, rfl, a, rfl, ⟨_, .inl (.inl (X2.sub _ _ ha))⟩, fun D3 hD3 => ?_⟩
  refine lc_pure (EntAt G) es (fun _ => true) (fun e => vN e.lastUse) hD3 (.inl (.inl (X2.sub _ _ ha))) (size_small (by rw [al.len]; omega)) al (fun x b H' Rt Rf r sm kt kf => ?_) ?_
  · obtain ⟨p, rfl, hp⟩ := r
    exact ⟨rfl, _, rfl, p, _, 1, _, rfl, rfl, .inl (.inl (sm _ _ (X2.sub _ _ hp))), rfl, kt rfl⟩
  have hl3 : NatsAt _ D3 (es.map (·.lastUse)) := lasts_at (G := G) (H := H2) (D := D3) (·.lastUse)
  obtain ⟨p1, p2⟩ := place_lfu nd hk hkl hk2 hkl2
  exact ⟨_, rfl, D3, _, last, _, rfl, hl3, p1, p2, post _ _ _ (X2.hid hD3 _) rfl⟩
theorem sc_before_eviction : FnScope ["policy", "entries"] ["policy", "entries"] (defScope (top 19)) := ⟨rfl, rfl, rfl, by decide +kernel, rfl, by decide +kernel, by decide +kernel⟩
theorem ok_before_eviction (cn : Cn mg) (bl : Blt mg) (D : DF K mg "before_eviction" (top 19) ["policy", "entries"] f) (c_turned : CallOk P w K mg base CX0 2 "turned" ["entries"] spTurned) : FOk P w K mg base CX0 3 ["policy", "entries"] spBefore f := by
  refine D.ok sc_before_eviction (fun vs H Q E ⟨_, _, _, _, e, _⟩ => by rw [e]; rfl) (fun f cdv A outer s1 H vs Q E hr h => ⟨_, (pss_one (ps_ret (pe_ifExp (pt_cmpR op_eq (pv 0) (pe_const cn.SECOND_CHANCE) (nomark _)) (pe_callC c_turned hr (by decide) pass0 (pa_cons (pv 1) pa_nil)) (pe_callTy call_list_of (by rfl) bl.list (by decide +kernel) (pa_cons (pv 1) pa_nil))))), ?_⟩)
  obtain ⟨G, p, a, es, rfl, s, hE, ne, hz, post⟩ := h
  refine ⟨_, rfl, rfl, _, rfl, ?_⟩
  refine ifd (fun c => ?_) (fun c => ?_)
  · have c' : p = 4 := vn_inj (j := 4) c
    subst c'
    exact ⟨_, rfl, G, a, es, rfl, s, hE, ne, hz, fun G' H' v X r => post _ _ _ X r⟩
  · have c' : p ≠ 4 := vn_ne (j := 4) c
    obtain ⟨ts, ha, al⟩ := hE
    refine ⟨_, rfl, a, _, rfl, .inl (.inl (.inl (s _ _ ha))), fun l hl => post _ _ _ ((Ext.refl s).made hl _) ⟨l, rfl, ts, upd_same, ?_⟩⟩
    have e : (selectVictim p es).1 = es := by
      unfold selectVictim
      split
      · rfl
      · split
        · rfl
        · split
          · rfl
          · rw [if_neg (show ¬ p = Vakptc.secondChance from c')]
    rw [e]
    exact al.imp fun _ _ => EntAt.mono (same_upd (s.free hl))
theorem sc_victim_place : FnScope ["policy", "entries"] ["policy", "entries"] (defScope (top 20)) := ⟨rfl, rfl, rfl, by decide +kernel, rfl, by decide +kernel, by decide +kernel⟩
theorem ok_victim_place (cn : Cn mg) (D : DF K mg "victim_place" (top 20) ["policy", "entries"] f) (c_least_recent : CallOk P w K mg base CX0 2 "least_recent" ["entries"] (spPlace (firstIndexBy fun a b => decide (a.lastUse < b.lastUse))))
    (c_most_recent : CallOk P w K mg base CX0 2 "most_recent" ["entries"] (spPlace (firstIndexBy fun a b => decide (b.lastUse < a.lastUse))))
    (c_least_used : CallOk P w K mg base CX0 2 "least_used" ["entries"] (spPlace (firstIndexBy fun a b => decide (a.useCount < b.useCount ∨ (a.useCount = b.useCount ∧ a.lastUse < b.lastUse))))) : FOk P w K mg base CX0 3 ["policy", "entries"] spVictim f := by
  refine D.ok sc_victim_place (fun vs H Q E ⟨_, _, _, _, e, _⟩ => by rw [e]; rfl) (fun f cdv A outer s1 H vs Q E hr h => ⟨_, (pss_cons (ps_if (pt_cmpR op_eq (pv 0) (pe_const cn.LEAST_RECENT) (nomark _)) (pss_one (ps_ret (pe_callC c_least_recent hr (by decide) pass0 (pa_cons (pv 1) pa_nil)))) pss_nil) (pss_cons (ps_if (pt_cmpR op_eq (pv 0) (pe_const cn.MOST_RECENT) (nomark _)) (pss_one (ps_ret (pe_callC c_most_recent hr (by decide) pass0 (pa_cons (pv 1) pa_nil)))) pss_nil) (pss_cons (ps_if (pt_cmpR op_eq (pv 0) (pe_const cn.LEAST_USED) (nomark _)) (pss_one (ps_ret (pe_callC c_least_used hr (by decide) pass0 (pa_cons (pv 1) pa_nil)))) pss_nil) (pss_one (ps_ret pe_int))))), ?_⟩)
  obtain ⟨G, p, a, es, rfl, s, hE, ne, hz, nd, post⟩ := h
  refine ⟨_, rfl, rfl, _, rfl, ?_⟩
  refine ifd (fun c => ?_) (fun c1 => ?_)
  · have c' : p = 1 := vn_inj (j := 1) c
    subst c'
    exact ⟨_, rfl, G, a, es, rfl, s, hE, ne, hz, nd, post⟩
  refine ⟨_, rfl, rfl, _, rfl, ?_⟩
  refine ifd (fun c => ?_) (fun c2 => ?_)
  · have c' : p = 2 := vn_inj (j := 2) c
    subst c'
    exact ⟨_, rfl, G, a, es, rfl, s, hE, ne, hz, nd, post⟩
  refine ⟨_, rfl, rfl, _, rfl, ?_⟩
  refine ifd (fun c => ?_) (fun c3 => ?_)
  · have c' : p = 3 := vn_inj (j := 3) c
    subst c'
    exact ⟨_, rfl, G, a, es, rfl, s, hE, ne, hz, nd, post⟩
  refine post _ _ _ (Ext.refl s) ?_
  have n1 : p ≠ 1 := vn_ne (j := 1) c1
  have n2 : p ≠ 2 := vn_ne (j := 2) c2
  have n3 : p ≠ 3 := vn_ne (j := 3) c3
  have e : (selectVictim p es).2 = 0 := by
    unfold selectVictim
    rw [if_neg (show ¬ p = Vakptc.leastRecentlyUsed from n1), if_neg (show ¬ p = Vakptc.mostRecentlyUsed from n2), if_neg (show ¬ p = Vakptc.leastFrequentlyUsed from n3)]
    split <;> rfl
  rw [e]
  rfl
end
end Ks
/-! The class Cache. -/
namespace Ks
open PySem PySem.Spec PyProof.Rows L2
open Vakptc (Cache firstIndexBy rotateReferenced selectVictim cachedKeys contains access accessAll emptyCache recordUse insertKey)
theorem inV_nats (k : Nat) (ns : List Nat) : inV (vN k) (ns.map vN) = ns.contains k := by
  induction ns with
  | nil => rfl
  | cons a l ih =>
    show (eqV (vN a) (vN k) || inV (vN k) (l.map vN)) = (a :: l).contains k
    rw [ih, List.contains_cons]
    have e : eqV (vN a) (vN k) = (k == a) := by
      show ((a : Int) == (k : Int)) = (k == a)
      rw [Bool.eq_iff_iff, beq_iff_eq, beq_iff_eq]
      omega
    rw [e]
theorem flat_nats (ns : List Nat) : (ns.map vN).all flatV = true := by
  rw [List.all_eq_true]
  intro x hx
  obtain ⟨y, _, rfl⟩ := List.mem_map.mp hx
  rfl
def full (c : Cache) : Bool := decide (0 < c.capacity) && decide (c.entries.length = c.capacity)
theorem full_t {c : Cache} (h : full c = true) : c.capacity ≠ 0 ∧ c.entries.length = c.capacity := by
  unfold full at h
  simp at h
  exact ⟨by omega, h.2⟩
theorem full_f {c : Cache} (w : Wfc c) (h : full c = false) : c.capacity = 0 ∨ c.entries.length < c.capacity := by
  unfold full at h
  simp at h
  have := w.len
  by_cases z : c.capacity = 0
  · exact .inl z
  · exact .inr (by have := h (by omega); omega)
section
variable (K : PySem.W.Frag) (C : Addr)
def spCInit : Sp := fun vs H Q _ => ∃ (x dx : Addr) (v1 v2 v3 v4 v5 : V), vs = [.ref x, v1, v2, v3, v4, v5] ∧ H x = some (.ins C dx []) ∧
  Q .non (upd H x (.ins C dx [("capacity", v1), ("policy", v2), ("entries", v3), ("number", v4), ("misses", v5)]))
def spHits : Sp := fun vs H Q _ => ∃ (a : Addr) (c : Cache), vs = [.ref a] ∧ CacheAt C H a c ∧ Q (vN c.hits) H
def spKeys : Sp := fun vs H Q _ => ∃ (G : Hp) (a : Addr) (c : Cache), vs = [.ref a] ∧ Same G H ∧ CacheAt C G a c ∧ Post G H (fun G' v => ∃ p, v = .ref p ∧ NatsAt G' p (cachedKeys c)) Q
def spHas : Sp := fun vs H Q _ => ∃ (G : Hp) (a : Addr) (c : Cache) (k : Nat), vs = [.ref a, vN k] ∧ Same G H ∧ CacheAt C G a c ∧ Post G H (fun _ v => v = .bl (contains c k)) Q
def spFull : Sp := fun vs H Q _ => ∃ (a : Addr) (c : Cache), vs = [.ref a] ∧ CacheAt C H a c ∧ Q (.bl (full c)) H
def spWith : Sp := fun vs H Q _ => ∃ (G : Hp) (a l : Addr) (c : Cache) (es : List Vakptc.Entry), vs = [.ref a, .ref l] ∧ Same G H ∧ CacheAt C G a c ∧ EntsAt G l es ∧ Wfc { c with entries := es } ∧ Post G H (fun G' v => CacheV C G' v { c with entries := es }) Q
def spRemoved : Sp := fun vs H Q _ => ∃ (G : Hp) (a : Addr) (c : Cache) (k : Nat), vs = [.ref a, vN k] ∧ Same G H ∧ CacheAt C G a c ∧ Post G H (fun G' v => CacheV C G' v { c with entries := c.entries.filter fun e => e.key != k }) Q
def spEvicted : Sp := fun vs H Q _ => ∃ (G : Hp) (a : Addr) (c : Cache), vs = [.ref a] ∧ Same G H ∧ CacheAt C G a c ∧ c.entries ≠ [] ∧
  Post G H (fun G' v => ∃ t q y e, v = .ref t ∧ G' t = some (.tup [y, .ref q]) ∧ (selectVictim c.policy c.entries).1[(selectVictim c.policy c.entries).2]? = some e ∧ EntAt G' y e ∧ EntsAt G' q ((selectVictim c.policy c.entries).1.eraseIdx (selectVictim c.policy c.entries).2)) Q
def spHit : Sp := fun vs H Q _ => ∃ (G : Hp) (a : Addr) (c : Cache) (k : Nat), vs = [.ref a, vN k] ∧ Same G H ∧ CacheAt C G a c ∧ Post G H (fun G' v => CacheV C G' v (hitC c k)) Q
def spMissed : Sp := fun vs H Q _ => ∃ (G : Hp) (a : Addr) (c : Cache) (k : Nat), vs = [.ref a, vN k] ∧ Same G H ∧ CacheAt C G a c ∧ contains c k = false ∧
  Post G H (fun G' v => ∃ t y q, v = .ref t ∧ G' t = some (.tup [y, .ref q]) ∧ CacheV C G' y (missC c k) ∧ NatsAt G' q (goneC c k)) Q
def spAccessed : Sp := fun vs H Q _ => ∃ (G : Hp) (a : Addr) (c : Cache) (k : Nat), vs = [.ref a, vN k] ∧ Same G H ∧ CacheAt C G a c ∧ Post G H (fun G' v => CacheV C G' v (access c k).1) Q
def spEmpty : Sp := fun vs H Q _ => ∃ (G : Hp) (cap p : Nat), vs = [vN cap, vN p] ∧ Same G H ∧ cap ≤ 7 ∧ Post G H (fun G' v => CacheV C G' v (emptyCache cap p)) Q
def spBehind : Sp := fun vs H Q _ => ∃ (G : Hp) (cap p : Nat) (s : Addr) (ns : List Nat), vs = [vN cap, vN p, .ref s] ∧ Same G H ∧ cap ≤ 7 ∧ NatsAt G s ns ∧ Post G H (fun G' v => CacheV C G' v (accessAll (emptyCache cap p) ns)) Q
def spAnom : Sp := fun vs H Q _ => ∃ (G : Hp) (p cap : Nat) (s : Addr) (ns : List Nat), vs = [vN p, vN cap, .ref s] ∧ Same G H ∧ cap ≤ 6 ∧ NatsAt G s ns ∧
  Post G H (fun G' v => match anomF 0 (emptyCache cap p) (emptyCache (cap + 1) p) ns with
    | none => v = .non
    | some (i, a, b) => ∃ q, v = .ref q ∧ NatsAt G' q [i, a, b]) Q
end
/-- a cache that was just made -/
theorem made_cache {C : Addr} {G H G1 H1 : Hp} {c : Cache} {x dx l : Addr} (X : Ext G H G1 H1) (hx : H1 x = none) (hd : H1 dx = none) (hne : dx ≠ x) (w : Wfc c) (he : EntsAt G1 l c.entries) :
    Ext G H (upd G1 x (.ins C dx (cF c l))) (upd (upd (upd H1 dx (.own x)) x (.ins C dx [])) x (.ins C dx (cF c l))) ∧ CacheV C (upd G1 x (.ins C dx (cF c l))) (.ref x) c := by
  rw [upd_upd]
  refine ⟨(X.hid hd _).made (by rw [upd_ne (Ne.symm hne)]; exact hx) _, x, rfl, w, dx, l, upd_same, he.mono (same_upd (X.sub.free hx))⟩
section
variable {P : Program} {w : World} {K : PySem.W.Frag} {mg : Str → Option Value} {base : Heap} {C f : Addr}
theorem sc_Cache___init__ : FnScope ["self", "capacity", "policy", "entries", "number", "misses"] ["self", "capacity", "policy", "entries", "number", "misses"] (defScope (inClass (top 23) 0)) := ⟨rfl, rfl, rfl, by decide +kernel, rfl, by decide +kernel, by decide +kernel⟩
theorem ok_Cache_init (T : ClsC K C) (D : DI K mg C "Cache" "Cache.__init__" (inClass (top 23) 0) ["self", "capacity", "policy", "entries", "number", "misses"] f) : MakeOk P w K mg base CX0 1 C "Cache" ["self", "capacity", "policy", "entries", "number", "misses"] (spCInit C) := by
  refine D.ok sc_Cache___init__ (fun vs H Q E ⟨_, _, _, _, _, _, _, e, _⟩ => by rw [e]; rfl) (fun f cdv A outer s1 H vs Q E hr h => ⟨_, (pss_cons (ps_fld (pv 0) (pv 1) rfl) (pss_cons (ps_fld (pv 0) (pv 2) rfl) (pss_cons (ps_fld (pv 0) (pv 3) rfl) (pss_cons (ps_fld (pv 0) (pv 4) rfl) (pss_one (ps_fld (pv 0) (pv 5) rfl)))))), ?_⟩)
  obtain ⟨x, dx, v1, v2, v3, v4, v5, rfl, hx, q⟩ := h
  refine ⟨_, rfl, _, rfl, x, C, dx, _, rfl, hx, T.cl, T.nC, by show 0 < 1000; decide, ?_⟩
  refine ⟨_, rfl, _, rfl, x, C, dx, _, rfl, upd_same, T.cl, T.nP, by show 1 < 1000; decide, ?_⟩
  refine ⟨_, rfl, _, rfl, x, C, dx, _, rfl, upd_same, T.cl, T.nE, by show 2 < 1000; decide, ?_⟩
  refine ⟨_, rfl, _, rfl, x, C, dx, _, rfl, upd_same, T.cl, T.nN, by show 3 < 1000; decide, ?_⟩
  refine ⟨_, rfl, _, rfl, x, C, dx, _, rfl, upd_same, T.cl, T.nM, by show 4 < 1000; decide, ?_⟩
  rw [upd_upd, upd_upd, upd_upd, upd_upd]
  exact q
theorem sc_Cache_hits : FnScope ["self"] ["self"] (defScope (inClass (top 23) 1)) := ⟨rfl, rfl, rfl, by decide +kernel, rfl, by decide +kernel, by decide +kernel⟩
theorem ok_Cache_hits (T : ClsC K C) (D : DM K C "hits" "Cache.hits" (inClass (top 23) 1) ["self"] f) : FOk P w K mg base CX0 1 ["self"] (spHits C) f := by
  refine D.ok sc_Cache_hits (fun vs H Q E ⟨_, _, e, _⟩ => by rw [e]; rfl) (fun f cdv A outer s1 H vs Q E hr h => ⟨_, (pss_one (ps_ret (pe_op op_sub (pe_fld (pv 0) rfl) (pe_fld (pv 0) rfl)))), ?_⟩)
  obtain ⟨a, c, rfl, ⟨_, dx, l, ha, _⟩, q⟩ := h
  refine ⟨_, rfl, a, C, dx, _, _, rfl, ha, T.cl, T.nN, cF_number c l, _, rfl, a, C, dx, _, _, rfl, ha, T.cl, T.nM, cF_misses c l, _, _, rfl, rfl, ?_⟩
  have e : ((c.hits + c.misses : Nat) : Int) - (c.misses : Int) = (c.hits : Int) := by omega
  show Q (.int (((c.hits + c.misses : Nat) : Int) - (c.misses : Int))) H
  rw [e]
  exact q
theorem sc_Cache_cached_keys : FnScope ["self"] ["self"] (defScope (inClass (top 23) 2)) := ⟨rfl, rfl, rfl, by decide +kernel, rfl, by decide +kernel, by decide +kernel⟩
theorem ok_Cache_cached_keys (T : ClsC K C) (D : DM K C "cached_keys" "Cache.cached_keys" (inClass (top 23) 2) ["self"] f) (c_keys_of : CallOk P w K mg base CX0 1 "keys_of" ["entries"] spKeysOf) : FOk P w K mg base CX0 2 ["self"] (spKeys C) f := by
  refine D.ok sc_Cache_cached_keys (fun vs H Q E ⟨_, _, _, e, _⟩ => by rw [e]; rfl) (fun f cdv A outer s1 H vs Q E hr h => ⟨_, (pss_one (ps_ret (pe_callC c_keys_of hr (by decide) pass0 (pa_cons (pe_fld (pv 0) rfl) pa_nil)))), ?_⟩)
  obtain ⟨G, a, c, rfl, s, ⟨wf, dx, l, ha, he⟩, post⟩ := h
  have := wf.len
  have := wf.cap
  exact ⟨_, rfl, a, C, dx, _, _, rfl, s _ _ ha, T.cl, T.nE, cF_entries c l, G, l, c.entries, rfl, s, he, by omega, post⟩
theorem sc_Cache_has : FnScope ["self", "key"] ["self", "key"] (defScope (inClass (top 23) 3)) := ⟨rfl, rfl, rfl, by decide +kernel, rfl, by decide +kernel, by decide +kernel⟩
theorem ok_Cache_has (T : ClsC K C) (D : DM K C "has" "Cache.has" (inClass (top 23) 3) ["self", "key"] f) (m_cached_keys : MethOk P w K mg base CX0 2 C "cached_keys" ["self"] (spKeys C)) : FOk P w K mg base CX0 3 ["self", "key"] (spHas C) f := by
  have cl := T.cl
  refine D.ok sc_Cache_has (fun vs H Q E ⟨_, _, _, _, e, _⟩ => by rw [e]; rfl) (fun f cdv A outer s1 H vs Q E hr h => ⟨_, (pss_one (ps_ret (pe_cmpR op_in_seq (pv 1) (pe_mC0 (pv 0) cl m_cached_keys hr (by decide) pass0) (by rfl)))), ?_⟩)
  obtain ⟨G, a, c, k, rfl, s, hc, post⟩ := h
  have hc' := hc
  obtain ⟨wf, dx, l, ha, he⟩ := hc'
  refine ⟨_, rfl, _, rfl, a, dx, _, rfl, s _ _ ha, cF_not c l (by decide +kernel) (by decide +kernel) (by decide +kernel) (by decide +kernel) (by decide +kernel), G, a, c, rfl, s, hc, fun G2 H2 v X r => ?_⟩
  obtain ⟨p, rfl, hp⟩ := r
  refine ⟨p, _, rfl, .inl (NatsAt.seq (X.sub _ _ hp)), rfl, flat_nats _, post _ _ _ X ?_⟩
  show V.bl (inV (vN k) ((cachedKeys c).map vN)) = _
  rw [inV_nats]
  rfl
theorem sc_Cache_is_full : FnScope ["self"] ["self"] (defScope (inClass (top 23) 4)) := ⟨rfl, rfl, rfl, by decide +kernel, rfl, by decide +kernel, by decide +kernel⟩
theorem ok_Cache_is_full (bl : Blt mg) (T : ClsC K C) (D : DM K C "is_full" "Cache.is_full" (inClass (top 23) 4) ["self"] f) : FOk P w K mg base CX0 1 ["self"] (spFull C) f := by
  refine D.ok sc_Cache_is_full (fun vs H Q E ⟨_, _, e, _⟩ => by rw [e]; rfl) (fun f cdv A outer s1 H vs Q E hr h => ⟨_, (pss_one (ps_ret (pe_and (pe_cmpR op_gt (pe_fld (pv 0) rfl) pe_int (nomark _)) (pe_one (pe_cmpR op_eq (pe_callB call_len_seq (by rfl) bl.len (by decide +kernel) (pa_cons (pe_fld (pv 0) rfl) pa_nil)) (pe_fld (pv 0) rfl) (nomark _)))))), ?_⟩)
  obtain ⟨a, c, rfl, ⟨wf, dx, l, ha, ts, hl, al⟩, q⟩ := h
  refine ⟨_, rfl, a, C, dx, _, _, rfl, ha, T.cl, T.nC, cF_capacity c l, _, _, rfl, rfl, _, rfl, ?_⟩
  refine ifd (fun h => ?_) (fun h => ?_)
  · refine ⟨_, rfl, a, C, dx, _, _, rfl, ha, T.cl, T.nE, cF_entries c l, l, ts, rfl, .inl (.inl (.inl hl)), _, rfl, a, C, dx, _, _, rfl, ha, T.cl, T.nC, cF_capacity c l, rfl, ?_⟩
    have e : full c = decide (V.int ts.length = vN c.capacity) := by
      unfold full
      rw [decide_eq_true (show 0 < c.capacity by omega), Bool.true_and, ← al.len, Bool.eq_iff_iff, decide_eq_true_iff, decide_eq_true_iff]
      exact ⟨fun e => by rw [e], fun e => vn_inj e⟩
    rw [e] at q
    exact q
  · have e : full c = false := by
      unfold full
      rw [decide_eq_false (show ¬ 0 < c.capacity by omega), Bool.false_and]
    rw [e] at q
    exact q
theorem sc_Cache_with_entries : FnScope ["self", "entries"] ["self", "entries"] (defScope (inClass (top 23) 5)) := ⟨rfl, rfl, rfl, by decide +kernel, rfl, by decide +kernel, by decide +kernel⟩
theorem ok_Cache_with_entries (T : ClsC K C) (D : DM K C "with_entries" "Cache.with_entries" (inClass (top 23) 5) ["self", "entries"] f) (c_Cache : MakeOk P w K mg base CX0 1 C "Cache" ["self", "capacity", "policy", "entries", "number", "misses"] (spCInit C)) : FOk P w K mg base CX0 3 ["self", "entries"] (spWith C) f := by
  refine D.ok sc_Cache_with_entries (fun vs H Q E ⟨_, _, _, _, _, e, _⟩ => by rw [e]; rfl) (fun f cdv A outer s1 H vs Q E hr h => ⟨_, (pss_one (ps_ret (pe_mkC c_Cache hr (by decide) pass0 (pa_cons (pe_fld (pv 0) rfl) (pa_cons (pe_fld (pv 0) rfl) (pa_cons (pv 1) (pa_cons (pe_fld (pv 0) rfl) (pa_cons (pe_fld (pv 0) rfl) pa_nil)))))))), ?_⟩)
  obtain ⟨G, a, l', c, es, rfl, s, ⟨wf, dx, l, ha, he⟩, he', wf', post⟩ := h
  have ha' := s _ _ ha
  refine ⟨_, rfl, a, C, dx, _, _, rfl, ha', T.cl, T.nC, cF_capacity c l, _, rfl, a, C, dx, _, _, rfl, ha', T.cl, T.nP, cF_policy c l, _, rfl, _, rfl, a, C, dx, _, _, rfl, ha', T.cl, T.nN, cF_number c l, _, rfl, a, C, dx, _, _, rfl, ha', T.cl, T.nM, cF_misses c l, fun x dx hx hd hne => ?_⟩
  obtain ⟨X, r⟩ := made_cache (C := C) (Ext.refl s) hx hd hne wf' he'
  exact ⟨x, dx, _, _, _, _, _, rfl, upd_same, rfl, post _ _ _ X r⟩
theorem sc_Cache_removed : FnScope ["self", "key", "entry"] ["self", "key"] (defScope (inClass (top 23) 6)) := ⟨rfl, rfl, rfl, by decide +kernel, rfl, by decide +kernel, by decide +kernel⟩
theorem ok_Cache_removed (cn : Cn mg) (T : ClsC K C) (D : DM K C "removed" "Cache.removed" (inClass (top 23) 6) ["self", "key"] f) (m_with_entries : MethOk P w K mg base CX0 3 C "with_entries" ["self", "entries"] (spWith C)) : FOk P w K mg base CX0 4 ["self", "key"] (spRemoved C) f := by
  have cl := T.cl
  refine D.ok sc_Cache_removed (fun vs H Q E ⟨_, _, _, _, e, _⟩ => by rw [e]; rfl) (fun f cdv A outer s1 H vs Q E hr h => ⟨_, (pss_one (ps_ret (pe_mC (pv 0) cl m_with_entries hr (by decide) pass0 (pa_cons (pe_lc (own := [("entry", 2)]) (g := (gName 2)) rfl sc_Cache_removed.nd (pi_list (pe_fld (pv 0) rfl)) (blkOk_by (own := [("entry", 2)]) (N := ["self", "key", "entry"]) (sc := defScope (inClass (top 23) 6)) (by decide +kernel)) (fun _ _ _ _ _ => pg_name (i := 2) sc_Cache_removed.nd rfl (Or.inl rfl)) (fun _ _ _ _ _ => (pts_one (pt_cmpR op_ne (pe_ix (show IxR _ (rIxT K) from ix_tup) (pv 2) (pe_const cn.KEY) (fun _ _ => rfl)) (pv 1) (nomark _)))) (fun _ _ _ _ _ => (pv 2))) pa_nil)))), ?_⟩)
  obtain ⟨G, a, c, k, rfl, s, hc, post⟩ := h
  have hc' := hc
  obtain ⟨wf, dx, l, ha, ts, hl, al⟩ := hc'
  have ha' := s _ _ ha
  have := wf.len
  have := wf.cap
  refine ⟨_, rfl, a, dx, _, rfl, ha', cF_not c l (by decide +kernel) (by decide +kernel) (by decide +kernel) (by decide +kernel) (by decide +kernel), _, rfl, a, C, dx, _, _, rfl, ha', T.cl, T.nE, cF_entries c l, l, rfl, ⟨_, .inl (.inl (s _ _ hl))⟩, fun D hD => ?_⟩
  -- the items that stay, as they stand
  have al2 : All2 (fun v (q : V × Vakptc.Entry) => v = q.1 ∧ EntAt G v q.2) ts (ts.zip c.entries) := by
    clear hl
    generalize c.entries = es at al
    induction al with
    | nil => exact .nil
    | cons r _ ih => exact .cons ⟨rfl, r⟩ ih
  refine lc_pure (fun v (q : V × Vakptc.Entry) => v = q.1 ∧ EntAt G v q.2) (ts.zip c.entries) (fun q => q.2.key != k) (fun q => q.1) hD (.inl (.inl (s _ _ hl))) (size_small (by rw [al.len]; omega)) al2 (fun x b H' Rt Rf r sm kt kf => ?_) ?_
  · obtain ⟨y, e⟩ := b
    obtain ⟨rfl, p, ep, hp⟩ := r
    have ep' : x = .ref p := ep
    subst ep'
    refine ⟨rfl, _, rfl, p, _, 0, _, rfl, rfl, .inl (.inl (sm _ _ (s _ _ hp))), rfl, _, rfl, rfl, _, rfl, ?_⟩
    refine ifnd (fun h => ?_) (fun h => ?_)
    · exact ⟨_, rfl, kt (by simpa using vn_ne h)⟩
    · exact kf (by simpa using vn_inj h)
  · have X := (Ext.refl s).made hD (.lst (((ts.zip c.entries).filter fun q => q.2.key != k).map fun q => q.1))
    refine ⟨_, a, D, c, c.entries.filter fun e => e.key != k, rfl, X.sub, hc.mono X.ext, ⟨_, upd_same, ?_⟩, wfc_remove wf, fun G2 H2 v X2 r => post _ _ _ (X.trans X2) r⟩
    have gD : G D = none := s.free hD
    clear post X al2 hl
    generalize c.entries = es at al
    induction al with
    | nil => exact .nil
    | @cons v e ts es r _ ih =>
      rw [List.zip_cons_cons, List.filter_cons, List.filter_cons]
      show All2 _ (List.map _ (if (e.key != k) = true then _ else _)) (if (e.key != k) = true then _ else _)
      by_cases h : (e.key != k) = true
      · rw [if_pos h, if_pos h]
        exact .cons (EntAt.mono (fun b o q => by rw [upd_ne (ne_of_none q gD)]; exact q) r) (by
          refine All2.imp ih fun v e r => ?_
          obtain ⟨p, r1, r2⟩ := r
          refine ⟨p, r1, ?_⟩
          by_cases hp : p = D
          · rw [hp, upd_same] at r2
            cases r2
          · rw [upd_ne hp] at r2 ⊢
            exact r2)
      · rw [if_neg h, if_neg h]
        refine All2.imp ih fun v e r => ?_
        obtain ⟨p, r1, r2⟩ := r
        refine ⟨p, r1, ?_⟩
        by_cases hp : p = D
        · rw [hp, upd_same] at r2
          cases r2
        · rw [upd_ne hp] at r2 ⊢
          exact r2
end
end Ks
/-! The class Cache, its further methods, and the defs that go through a sequence. -/
namespace Ks
open PySem PySem.Spec PyProof.Rows L2
open Vakptc (Cache firstIndexBy rotateReferenced selectVictim cachedKeys contains access accessAll emptyCache recordUse insertKey)
theorem All2.gets {α β : Type} {R : α → β → Prop} {l : List α} {m : List β} (h : All2 R l m) {i : Nat} (hi : i < m.length) : ∃ x y, l[i]? = some x ∧ m[i]? = some y ∧ R x y := by
  obtain ⟨x, hx, r⟩ := h.got (List.getElem?_eq_getElem hi)
  exact ⟨x, _, hx, List.getElem?_eq_getElem hi, r⟩
theorem All2.erase {α β : Type} {R : α → β → Prop} {l : List α} {m : List β} (h : All2 R l m) (i : Nat) : All2 R (l.eraseIdx i) (m.eraseIdx i) := by
  rw [List.eraseIdx_eq_take_drop_succ, List.eraseIdx_eq_take_drop_succ]
  exact (h.take i).app (h.drop (i + 1))
theorem sel_lasts {p : Nat} {es : List Vakptc.Entry} (h : (es.map (·.lastUse)).Nodup) : ((selectVictim p es).1.map (·.lastUse)).Nodup := (sel_map (fun e => e.lastUse) (fun _ => rfl) p es).nodup_iff.mpr h
/-- what is chosen of entries that were made ready is what is chosen of them as they were -/
theorem sel_again (p : Nat) (es : List Vakptc.Entry) : (selectVictim p (selectVictim p es).1).2 = (selectVictim p es).2 := by
  unfold selectVictim
  by_cases h1 : p = Vakptc.leastRecentlyUsed
  · simp only [if_pos h1]
  · by_cases h2 : p = Vakptc.mostRecentlyUsed
    · simp only [if_neg h1, if_pos h2]
    · by_cases h3 : p = Vakptc.leastFrequentlyUsed
      · simp only [if_neg h1, if_neg h2, if_pos h3]
      · by_cases h4 : p = Vakptc.secondChance
        · simp only [if_neg h1, if_neg h2, if_neg h3, if_pos h4]
        · simp only [if_neg h1, if_neg h2, if_neg h3, if_neg h4]
section
variable {P : Program} {w : World} {K : PySem.W.Frag} {mg : Str → Option Value} {base : Heap} {C f : Addr}
theorem sc_Cache_evicted : FnScope ["self", "entries", "place"] ["self"] (defScope (inClass (top 23) 7)) := ⟨rfl, rfl, rfl, by decide +kernel, rfl, by decide +kernel, by decide +kernel⟩
theorem ok_Cache_evicted (T : ClsC K C) (D : DM K C "evicted" "Cache.evicted" (inClass (top 23) 7) ["self"] f) (c_before_eviction : CallOk P w K mg base CX0 3 "before_eviction" ["policy", "entries"] spBefore) (c_victim_place : CallOk P w K mg base CX0 3 "victim_place" ["policy", "entries"] spVictim)
    (c_without : CallOk P w K mg base CX0 1 "without" ["things", "at"] spWithout) : FOk P w K mg base CX0 4 ["self"] (spEvicted C) f := by
  refine D.ok sc_Cache_evicted (fun vs H Q E ⟨_, _, _, e, _⟩ => by rw [e]; rfl) (fun f cdv A outer s1 H vs Q E hr h => ⟨_, (pss_cons (ps_set (i := 1) sc_Cache_evicted.nd rfl (Or.inl rfl) (pe_callC c_before_eviction hr (by decide) pass0 (pa_cons (pe_fld (pv 0) rfl) (pa_cons (pe_fld (pv 0) rfl) pa_nil)))) (pss_cons (ps_set (i := 2) sc_Cache_evicted.nd rfl (Or.inl rfl) (pe_callC c_victim_place hr (by decide) pass0 (pa_cons (pe_fld (pv 0) rfl) (pa_cons (pv 1) pa_nil)))) (pss_one (ps_ret (pe_tup (pa_cons (pe_ix ix_list (pv 1) (pv 2) (fun _ _ => rfl)) (pa_cons (pe_callC c_without hr (by decide) pass0 (pa_cons (pv 1) (pa_cons (pv 2) pa_nil))) pa_nil))))))), ?_⟩)
  obtain ⟨G, a, c, rfl, s, ⟨wf, dx, l, ha, he⟩, ne, post⟩ := h
  have ha' := s _ _ ha
  have h1 := wf.len
  have h2 := wf.cap
  refine ⟨_, rfl, a, C, dx, _, _, rfl, ha', T.cl, T.nP, cF_policy c l, _, rfl, a, C, dx, _, _, rfl, ha', T.cl, T.nE, cF_entries c l, G, c.policy, l, c.entries, rfl, s, he, ne, by omega, fun G2 H2 v X2 r => ?_⟩
  obtain ⟨q, rfl, hq⟩ := r
  have hl : (selectVictim c.policy c.entries).1.length = c.entries.length := sel_len _ _
  have ne2 : (selectVictim c.policy c.entries).1 ≠ [] := fun e => ne (List.eq_nil_of_length_eq_zero (by rw [← hl, e]; rfl))
  refine ⟨_, rfl, a, C, dx, _, _, rfl, X2.same _ _ ha', T.cl, T.nP, cF_policy c l, _, rfl, G2, c.policy, q, _, rfl, X2.sub, hq, ne2, by omega, sel_lasts wf.lasts, fun G3 H3 v X3 r => ?_⟩
  rw [sel_again] at r
  subst r
  have lt : (selectVictim c.policy c.entries).2 < (selectVictim c.policy c.entries).1.length := by
    rw [hl]
    exact sel_lt ne
  have hq3 := hq.mono X3.ext
  obtain ⟨ts, ht, al⟩ := hq3
  obtain ⟨x, e, hx, he2, r⟩ := al.gets lt
  refine ⟨_, rfl, _, rfl, q, ts, _, x, rfl, rfl, .inl (.inl (X3.sub _ _ ht)), atI_nat hx, _, rfl, _, rfl, G3, q, ts, _, rfl, X3.sub, ht, by rw [al.len]; exact lt, by rw [al.len]; omega, fun G4 H4 v X4 r4 => ?_⟩
  obtain ⟨p, rfl, hp⟩ := r4
  refine ⟨by show 2 ≤ sizeLine; decide, fun t ht4 => ?_⟩
  have g4 := X4.sub.free ht4
  exact post _ _ _ (((X2.trans X3).trans X4).made ht4 _) ⟨t, p, x, e, rfl, upd_same, he2, (r.mono X4.ext).mono (same_upd g4), _, (same_upd g4) _ _ hp, (al.erase _).imp fun _ _ z => (z.mono X4.ext).mono (same_upd g4)⟩
theorem sc_Cache_hit : FnScope ["self", "key", "number", "entries", "entry"] ["self", "key"] (defScope (inClass (top 23) 8)) := ⟨rfl, rfl, rfl, by decide +kernel, rfl, by decide +kernel, by decide +kernel⟩
theorem ok_Cache_hit (cn : Cn mg) (T : ClsC K C) (D : DM K C "hit" "Cache.hit" (inClass (top 23) 8) ["self", "key"] f) (c_Cache : MakeOk P w K mg base CX0 1 C "Cache" ["self", "capacity", "policy", "entries", "number", "misses"] (spCInit C)) (c_used : CallOk P w K mg base CX0 1 "used" ["entry", "number"] spUsed) : FOk P w K mg base CX0 3 ["self", "key"] (spHit C) f := by
  refine D.ok sc_Cache_hit (fun vs H Q E ⟨_, _, _, _, e, _⟩ => by rw [e]; rfl) (fun f cdv A outer s1 H vs Q E hr h => ⟨_, (pss_cons (ps_set (i := 2) sc_Cache_hit.nd rfl (Or.inr rfl) (pe_op op_add (pe_fld (pv 0) rfl) pe_int)) (pss_cons (ps_setLc (i := 3) (own := [("entry", 4)]) (g := (gName 4)) (tt := tYes) rfl sc_Cache_hit.nd rfl rfl (sw_true rfl rfl rfl (by decide +kernel)) (pi_list (pe_fld (pv 0) rfl)) (blkOk_by (own := [("entry", 4)]) (N := ["self", "key", "number", "entries", "entry"]) (sc := defScope (inClass (top 23) 8)) (by decide +kernel)) (fun _ _ _ _ _ => pg_name (i := 4) sc_Cache_hit.nd rfl (Or.inl rfl)) (fun _ _ _ _ _ => pts_nil) (fun _ _ _ _ _ => (pe_ifExp (pt_cmpR op_eq (pe_ix (show IxR _ (rIxT K) from ix_tup) (pv 4) (pe_const cn.KEY) (fun _ _ => rfl)) (pv 1) (nomark _)) (pe_callC c_used hr (by decide) pass0 (pa_cons (pv 4) (pa_cons (pv 2) pa_nil))) (pv 4)))) (pss_one (ps_ret (pe_mkC c_Cache hr (by decide) pass0 (pa_cons (pe_fld (pv 0) rfl) (pa_cons (pe_fld (pv 0) rfl) (pa_cons (pv 3) (pa_cons (pv 2) (pa_cons (pe_fld (pv 0) rfl) pa_nil)))))))))), ?_⟩)
  obtain ⟨G, a, c, k, rfl, s, ⟨wf, dx, l, ha, ts, hl, al⟩, post⟩ := h
  have ha' := s _ _ ha
  have h1 := wf.len
  have h2 := wf.cap
  refine ⟨_, rfl, a, C, dx, _, _, rfl, ha', T.cl, T.nN, cF_number c l, _, _, rfl, rfl, ?_⟩
  refine ⟨_, rfl, a, C, dx, _, _, rfl, ha', T.cl, T.nE, cF_entries c l, l, rfl, ⟨_, .inl (.inl (s _ _ hl))⟩, fun D hD => ?_⟩
  refine lc_made (G := G) EntAt (fun _ _ _ _ s r => r.mono s) (recordUse (c.hits + c.misses + 1) k c.entries) s hD (.inl (.inl hl)) (size_small (by rw [al.len]; omega)) (by rw [al.len]; exact (List.length_map _).symm) (fun i x b G' H' N hx hb X hN => ?_) (fun G' H' ws X hw al' => ?_)
  · obtain ⟨e, he, p, rfl, hp⟩ := al.get hx
    have hb' : (if e.key = k then { e with lastUse := c.hits + c.misses + 1, useCount := e.useCount + 1, referenced := true } else e) = b := by
      have z : (recordUse (c.hits + c.misses + 1) k c.entries)[i]? = some (if e.key = k then { e with lastUse := c.hits + c.misses + 1, useCount := e.useCount + 1, referenced := true } else e) := by
        show (c.entries.map _)[i]? = _
        rw [List.getElem?_map, he]
        rfl
      rw [hb] at z
      exact (Option.some.inj z).symm
    have hp' := X.ext _ _ hp
    refine ⟨rfl, _, rfl, p, _, 0, _, rfl, rfl, .inl (.inl (X.sub _ _ hp')), rfl, _, rfl, rfl, _, rfl, ?_⟩
    refine ifd (fun h => ?_) (fun h => ?_)
    · rw [if_pos (vn_inj h)] at hb'
      exact ⟨_, rfl, _, rfl, G', _, e, c.hits + c.misses + 1, rfl, X.sub, ⟨p, rfl, hp'⟩, fun G2 H2 v X2 r => hN _ _ _ X2 (by rw [← hb']; exact r)⟩
    · rw [if_neg (vn_ne h)] at hb'
      exact ⟨_, rfl, hN _ _ _ (Ext.refl X.sub) (by rw [← hb']; exact ⟨p, rfl, hp'⟩)⟩
  · have ha2 := X.same _ _ ha'
    refine ⟨_, rfl, a, C, dx, _, _, rfl, ha2, T.cl, T.nC, cF_capacity c l, _, rfl, a, C, dx, _, _, rfl, ha2, T.cl, T.nP, cF_policy c l, _, rfl, _, rfl, _, rfl, a, C, dx, _, _, rfl, ha2, T.cl, T.nM, cF_misses c l, fun x dx hx hd hne => ?_⟩
    have X' : Ext G H G' H' := X
    obtain ⟨X2, r⟩ := made_cache (C := C) (c := hitC c k) X' hx hd hne (wfc_hit wf) ⟨ws, hw, al'⟩
    have e : ((c.hits + c.misses : Nat) : Int) + 1 = ((c.hits + 1 + c.misses : Nat) : Int) := by omega
    have e2 : cF (hitC c k) D = ([("capacity", vN c.capacity), ("policy", vN c.policy), ("entries", .ref D), ("number", .int (((c.hits + c.misses : Nat) : Int) + 1)), ("misses", vN c.misses)] : List (Str × V)) := by
      rw [e]
      rfl
    rw [e2] at X2 r
    exact ⟨x, dx, _, _, _, _, _, rfl, upd_same, rfl, post _ _ _ X2 r⟩
theorem sc_Cache_missed : FnScope ["self", "key", "number", "kept", "gone", "victim", "more"] ["self", "key"] (defScope (inClass (top 23) 9)) := ⟨rfl, rfl, rfl, by decide +kernel, rfl, by decide +kernel, by decide +kernel⟩
theorem ok_Cache_missed (cn : Cn mg) (T : ClsC K C) (D : DM K C "missed" "Cache.missed" (inClass (top 23) 9) ["self", "key"] f) (c_Cache : MakeOk P w K mg base CX0 1 C "Cache" ["self", "capacity", "policy", "entries", "number", "misses"] (spCInit C)) (m_is_full : MethOk P w K mg base CX0 1 C "is_full" ["self"] (spFull C))
    (m_evicted : MethOk P w K mg base CX0 4 C "evicted" ["self"] (spEvicted C)) : FOk P w K mg base CX0 5 ["self", "key"] (spMissed C) f := by
  have cl := T.cl
  refine D.ok sc_Cache_missed (fun vs H Q E ⟨_, _, _, _, e, _⟩ => by rw [e]; rfl) (fun f cdv A outer s1 H vs Q E hr h => ⟨_, (pss_cons (ps_par3 (i := 2) (j := 3) (l := 4) rfl sc_Cache_missed.nd rfl rfl rfl (by decide) (by decide) (by decide) rfl rfl rfl (pa_cons (pe_op op_add (pe_fld (pv 0) rfl) pe_int) (pa_cons (pe_fld (pv 0) rfl) (pa_cons (pe_lst pa_nil) pa_nil))) (by rfl)) (pss_cons (ps_if (pt_val (pe_mC0 (pv 0) cl m_is_full hr (by decide) pass0)) (pss_cons (ps_asg (pe_mC0 (pv 0) cl m_evicted hr (by decide) pass0) (pg_tup rfl (pgs_cons (pg_name (i := 5) sc_Cache_missed.nd rfl (Or.inl rfl)) (pgs_cons (pg_name (i := 3) sc_Cache_missed.nd rfl (Or.inl rfl)) pgs_nil)))) (pss_one (ps_set (i := 4) sc_Cache_missed.nd rfl (Or.inl rfl) (pe_lst (pa_cons (pe_ix (show IxR _ (rIxT K) from ix_tup) (pv 5) (pe_const cn.KEY) (fun _ _ => rfl)) pa_nil))))) pss_nil) (pss_cons (ps_set (i := 6) sc_Cache_missed.nd rfl (Or.inl rfl) (pe_ifExp (pt_cmpR op_gt (pe_fld (pv 0) rfl) pe_int (nomark _)) (pe_lst (pa_cons (pe_tup (pa_cons (pv 1) (pa_cons (pv 2) (pa_cons (pe_const cn.FRESH_COUNT) (pa_cons pe_int pa_nil))))) pa_nil)) (pe_lst pa_nil))) (pss_one (ps_ret (pe_tup (pa_cons (pe_mkC c_Cache hr (by decide) pass0 (pa_cons (pe_fld (pv 0) rfl) (pa_cons (pe_fld (pv 0) rfl) (pa_cons (pe_op op_cat (pv 3) (pv 6)) (pa_cons (pv 2) (pa_cons (pe_op op_add (pe_fld (pv 0) rfl) pe_int) pa_nil)))))) (pa_cons (pv 4) pa_nil)))))))), ?_⟩)
  obtain ⟨G, a, c, k, rfl, s, hc, hk, post⟩ := h
  have hc0 := hc
  obtain ⟨wf, dx, l, ha, he⟩ := hc0
  have ha' := s _ _ ha
  have h1 := wf.len
  have h2 := wf.cap
  have nofld : ∀ {x : Str}, (x == ("capacity" : Str)) = false → (x == ("policy" : Str)) = false → (x == ("entries" : Str)) = false → (x == ("number" : Str)) = false → (x == ("misses" : Str)) = false → (cF c l).lookup x = none := fun {x} a b d e f => cF_not c l a b d e f
  refine ⟨_, rfl, a, C, dx, _, _, rfl, ha', T.cl, T.nN, cF_number c l, _, _, rfl, rfl, _, rfl, a, C, dx, _, _, rfl, ha', T.cl, T.nE, cF_entries c l, by show 0 ≤ sizeLine; decide, fun p0 hp0 => ⟨_, _, _, rfl, ?_⟩⟩
  have X0 := (Ext.refl s).made hp0 (.lst [])
  -- behind the if: kept at kp, gone at gp, both told of in G3
  have tail : ∀ (G3 H3 : Hp) (kp gp : Addr) (es : List Vakptc.Entry) (vv : Option V), Ext G H G3 H3 → EntsAt G3 kp es → es.length ≤ 7 → NatsAt G3 gp (goneC c k) → (c.capacity = 0 → es = []) →
      (c.capacity ≠ 0 → (insertKey c (c.hits + c.misses + 1) k).1 = es ++ [{ key := k, lastUse := c.hits + c.misses + 1, useCount := 1, referenced := false }]) →
      (tSeq (tAsg (tIf (tTest (tOp (rI0 fun i j => V.bl (decide (j < i))) (tFld K (tVar 0) "capacity") (tC (.int 0)))) (tLst (tCons (tTup (tCons (tVar 1) (tCons (tVar 2) (tCons (tC (.int 1)) (tCons (tC (.int 0)) tNil))))) tNil)) (tLst tNil)) (gName 6))
        (tRet (tTup (tCons (tMk C (spCInit C) E0 (tCons (tFld K (tVar 0) "capacity") (tCons (tFld K (tVar 0) "policy") (tCons (tOp rCat (tVar 3) (tVar 6)) (tCons (tVar 2) (tCons (tOp rAdd (tFld K (tVar 0) "misses") (tC (.int 1))) tNil)))))) (tCons (tVar 4) tNil)))))
        { nx := fun _ H' => Q .non H', rt := Q } [some (.ref a), some (vN k), some (.int (((c.hits + c.misses : Nat) : Int) + 1)), some (.ref kp), some (.ref gp), vv, none] H3 := by
    intro G3 H3 kp gp es vv X3 hkp hes hgp hz hins
    have ha3 := X3.same _ _ ha'
    obtain ⟨us, hu, al⟩ := hkp
    have fin : ∀ (G4 H4 : Hp) (mp : Addr) (ms : List V) (me : List Vakptc.Entry), Ext G H G4 H4 → H4 kp = some (.lst us) → H4 mp = some (.lst ms) → ms.length ≤ 1 → All2 (EntAt G4) us es → All2 (EntAt G4) ms me → NatsAt G4 gp (goneC c k) → (missC c k).entries = es ++ me →
        (tRet (tTup (tCons (tMk C (spCInit C) E0 (tCons (tFld K (tVar 0) "capacity") (tCons (tFld K (tVar 0) "policy") (tCons (tOp rCat (tVar 3) (tVar 6)) (tCons (tVar 2) (tCons (tOp rAdd (tFld K (tVar 0) "misses") (tC (.int 1))) tNil)))))) (tCons (tVar 4) tNil))))
          { nx := fun _ H' => Q .non H', rt := Q } [some (.ref a), some (vN k), some (.int (((c.hits + c.misses : Nat) : Int) + 1)), some (.ref kp), some (.ref gp), vv, some (.ref mp)] H4 := by
      intro G4 H4 mp ms me X4 hk4 hm4 hms al4 alm hg4 hent
      have ha4 := X4.same _ _ ha'
      refine ⟨_, rfl, a, C, dx, _, _, rfl, ha4, T.cl, T.nC, cF_capacity c l, _, rfl, a, C, dx, _, _, rfl, ha4, T.cl, T.nP, cF_policy c l, _, rfl, _, rfl, kp, mp, us, ms, rfl, rfl, hk4, hm4, size_le (by rw [al4.len]; omega), fun r5 hr5 => ?_⟩
      have sm5 : Same H4 (upd H4 r5 (.lst (us ++ ms))) := same_upd hr5
      have X5 := X4.made hr5 (.lst (us ++ ms))
      have g5 := X4.sub.free hr5
      refine ⟨_, rfl, _, rfl, a, C, dx, _, _, rfl, sm5 _ _ ha4, T.cl, T.nM, cF_misses c l, _, _, rfl, rfl, fun x dx2 hx hd hne => ?_⟩
      have hee : EntsAt (upd G4 r5 (.lst (us ++ ms))) r5 (missC c k).entries := ⟨_, upd_same, by rw [hent]; exact (al4.app alm).imp fun _ _ z => z.mono (same_upd g5)⟩
      obtain ⟨X6, r⟩ := made_cache (C := C) (c := missC c k) X5 hx hd hne (wfc_miss wf hk) hee
      refine ⟨x, dx2, _, _, _, _, _, rfl, upd_same, rfl, ?_⟩
      have e2 : cF (missC c k) r5 = ([("capacity", vN c.capacity), ("policy", vN c.policy), ("entries", .ref r5), ("number", .int (((c.hits + c.misses : Nat) : Int) + 1)), ("misses", .int ((c.misses : Int) + 1))] : List (Str × V)) := rfl
      rw [e2] at X6 r
      refine ⟨_, rfl, by show 2 ≤ sizeLine; decide, fun t ht => ?_⟩
      have g6 := X6.sub.free ht
      refine post _ _ _ (X6.made ht _) ⟨t, .ref x, gp, rfl, upd_same, r.mono (same_upd g6), ?_⟩
      have gx : (upd G4 r5 (.lst (us ++ ms))) x = none := X5.sub.free hx
      exact (same_upd g6) _ _ ((same_upd gx) _ _ ((same_upd g5) _ _ hg4))
    refine ⟨_, rfl, a, C, dx, _, _, rfl, ha3, T.cl, T.nC, cF_capacity c l, _, _, rfl, rfl, _, rfl, ?_⟩
    refine ifd (fun hc0 => ?_) (fun hc0 => ?_)
    · refine ⟨_, rfl, _, rfl, by show 4 ≤ sizeLine; decide, fun t ht => ⟨by show 1 ≤ sizeLine; decide, fun m hm => ?_⟩⟩
      have X4 := X3.made ht (.tup [vN k, .int (((c.hits + c.misses : Nat) : Int) + 1), .int 1, .int 0])
      have g3 := X3.sub.free ht
      have X5 := X4.made hm (.lst [.ref t])
      have g4 := X4.sub.free hm
      have sm := (same_upd (o := .tup [vN k, .int (((c.hits + c.misses : Nat) : Int) + 1), .int 1, .int 0]) g3).trans (same_upd (o := .lst [.ref t]) g4)
      refine fin _ _ m [.ref t] [{ key := k, lastUse := c.hits + c.misses + 1, useCount := 1, referenced := false }] X5 (X5.sub _ _ (sm _ _ hu)) upd_same (by show 1 ≤ 1; omega) (al.imp fun _ _ z => z.mono sm) (.one ⟨t, rfl, (same_upd g4) _ _ upd_same⟩) (sm _ _ hgp) ?_
      exact hins (by omega)
    · have z : c.capacity = 0 := by omega
      refine ⟨by show 0 ≤ sizeLine; decide, fun m hm => ?_⟩
      have X5 := X3.made hm (.lst [])
      have g3 := X3.sub.free hm
      refine fin _ _ m [] [] X5 (X5.sub _ _ ((same_upd g3) _ _ hu)) upd_same (by show 0 ≤ 1; omega) (al.imp fun _ _ z => z.mono (same_upd g3)) .nil ((same_upd g3) _ _ hgp) ?_
      show (insertKey c (c.hits + c.misses + 1) k).1 = es ++ []
      rw [ins_zero z, hz z]
      rfl
  have ha0 := X0.same _ _ ha'
  have g0 : G p0 = none := s.free hp0
  have hc0' : CacheAt C (upd H p0 (.lst [])) a c := hc.mono (s.trans (same_upd hp0))
  refine ⟨_, rfl, a, dx, _, rfl, ha0, nofld (by decide +kernel) (by decide +kernel) (by decide +kernel) (by decide +kernel) (by decide +kernel), a, c, rfl, hc0', _, rfl, ?_⟩
  cases hf : full c with
  | true =>
    obtain ⟨z, len⟩ := full_t hf
    have ne : c.entries ≠ [] := fun e => by
      rw [e] at len
      exact z len.symm
    refine iteT ?_
    refine ⟨_, rfl, a, dx, _, rfl, ha0, nofld (by decide +kernel) (by decide +kernel) (by decide +kernel) (by decide +kernel) (by decide +kernel), _, a, c, rfl, X0.sub, hc.mono X0.ext, ne, fun G2 H2 v X2 r => ?_⟩
    obtain ⟨t, q, y, e, rfl, ht, he2, ⟨ye, rfl, hy⟩, hq⟩ := r
    refine ⟨t, _, rfl, .inl (.inl (X2.sub _ _ ht)), rfl, _, _, rfl, _, _, rfl, rfl, ?_⟩
    refine ⟨_, rfl, ye, _, 0, _, rfl, rfl, .inl (.inl (X2.sub _ _ hy)), rfl, by show 1 ≤ sizeLine; decide, fun g hg => ?_⟩
    have X3 := (X0.trans X2).made hg (.lst [vN e.key])
    have g2 := X2.sub.free hg
    have lt : (selectVictim c.policy c.entries).2 < (selectVictim c.policy c.entries).1.length := by
      rw [sel_len]
      exact sel_lt ne
    refine tail _ _ q g _ _ X3 (hq.mono (same_upd g2)) ?_ ?_ (fun q => absurd q z) fun _ => ?_
    · rw [List.length_eraseIdx, if_pos lt, sel_len]
      omega
    · show upd G2 g (.lst [vN e.key]) g = some (.lst ((goneC c k).map vN))
      rw [upd_same]
      unfold goneC
      rw [ins_full z (by omega), he2]
      rfl
    · rw [ins_full z (by omega)]
  | false =>
    refine iteF ?_
    have hf' := full_f wf hf
    refine tail _ _ l p0 c.entries _ X0 (he.mono (same_upd g0)) (by omega) ?_ (fun z => ?_) fun z => ?_
    · show upd G p0 (.lst []) p0 = some (.lst ((goneC c k).map vN))
      rw [upd_same]
      unfold goneC
      rcases hf' with z | z
      · rw [ins_zero z]
        rfl
      · rw [ins_room (by omega) z]
        rfl
    · exact List.eq_nil_of_length_eq_zero (by omega)
    · rw [ins_room z (by omega)]
theorem sc_Cache_accessed : FnScope ["self", "key"] ["self", "key"] (defScope (inClass (top 23) 10)) := ⟨rfl, rfl, rfl, by decide +kernel, rfl, by decide +kernel, by decide +kernel⟩
theorem ok_Cache_accessed (T : ClsC K C) (D : DM K C "accessed" "Cache.accessed" (inClass (top 23) 10) ["self", "key"] f) (m_has : MethOk P w K mg base CX0 3 C "has" ["self", "key"] (spHas C)) (m_hit : MethOk P w K mg base CX0 3 C "hit" ["self", "key"] (spHit C))
    (m_missed : MethOk P w K mg base CX0 5 C "missed" ["self", "key"] (spMissed C)) : FOk P w K mg base CX0 6 ["self", "key"] (spAccessed C) f := by
  have cl := T.cl
  refine D.ok sc_Cache_accessed (fun vs H Q E ⟨_, _, _, _, e, _⟩ => by rw [e]; rfl) (fun f cdv A outer s1 H vs Q E hr h => ⟨_, (pss_one (ps_ret (pe_ifExp (pt_val (pe_mC (pv 0) cl m_has hr (by decide) pass0 (pa_cons (pv 1) pa_nil))) (pe_mC (pv 0) cl m_hit hr (by decide) pass0 (pa_cons (pv 1) pa_nil)) (pe_ix (show IxR _ (rIxT K) from ix_tup) (pe_mC (pv 0) cl m_missed hr (by decide) pass0 (pa_cons (pv 1) pa_nil)) pe_int (fun _ _ => rfl))))), ?_⟩)
  obtain ⟨G, a, c, k, rfl, s, hc, post⟩ := h
  have hc0 := hc
  obtain ⟨wf, dx, l, ha, he⟩ := hc0
  have ha' := s _ _ ha
  have nofld : ∀ {x : Str}, (x == ("capacity" : Str)) = false → (x == ("policy" : Str)) = false → (x == ("entries" : Str)) = false → (x == ("number" : Str)) = false → (x == ("misses" : Str)) = false → (cF c l).lookup x = none := fun {x} a b d e f => cF_not c l a b d e f
  refine ⟨_, rfl, a, dx, _, rfl, ha', nofld (by decide +kernel) (by decide +kernel) (by decide +kernel) (by decide +kernel) (by decide +kernel), _, rfl, G, a, c, k, rfl, s, hc, fun G2 H2 v X2 r => ?_⟩
  subst r
  refine ⟨_, rfl, ?_⟩
  cases hk : contains c k with
  | true =>
    refine iteT ?_
    refine ⟨_, rfl, a, dx, _, rfl, X2.same _ _ ha', nofld (by decide +kernel) (by decide +kernel) (by decide +kernel) (by decide +kernel) (by decide +kernel), _, rfl, G2, a, c, k, rfl, X2.sub, hc.mono X2.ext, fun G3 H3 v X3 r => post _ _ _ (X2.trans X3) ?_⟩
    rw [acc_hit hk]
    exact r
  | false =>
    refine iteF ?_
    refine ⟨_, rfl, a, dx, _, rfl, X2.same _ _ ha', nofld (by decide +kernel) (by decide +kernel) (by decide +kernel) (by decide +kernel) (by decide +kernel), _, rfl, G2, a, c, k, rfl, X2.sub, hc.mono X2.ext, hk, fun G3 H3 v X3 r => ?_⟩
    obtain ⟨t, y, q, rfl, ht, r, hq⟩ := r
    refine ⟨t, _, 0, y, rfl, rfl, .inl (.inl (X3.sub _ _ ht)), rfl, post _ _ _ (X2.trans X3) ?_⟩
    rw [acc_miss hk]
    exact r
theorem sc_empty_cache : FnScope ["capacity", "policy"] ["capacity", "policy"] (defScope (top 24)) := ⟨rfl, rfl, rfl, by decide +kernel, rfl, by decide +kernel, by decide +kernel⟩
theorem ok_empty_cache (D : DF K mg "empty_cache" (top 24) ["capacity", "policy"] f) (c_Cache : MakeOk P w K mg base CX0 1 C "Cache" ["self", "capacity", "policy", "entries", "number", "misses"] (spCInit C)) : FOk P w K mg base CX0 3 ["capacity", "policy"] (spEmpty C) f := by
  refine D.ok sc_empty_cache (fun vs H Q E ⟨_, _, _, e, _⟩ => by rw [e]; rfl) (fun f cdv A outer s1 H vs Q E hr h => ⟨_, (pss_one (ps_ret (pe_mkC c_Cache hr (by decide) pass0 (pa_cons (pv 0) (pa_cons (pv 1) (pa_cons (pe_lst pa_nil) (pa_cons pe_int (pa_cons pe_int pa_nil)))))))), ?_⟩)
  obtain ⟨G, cap, p, rfl, s, hc, post⟩ := h
  refine ⟨_, rfl, _, rfl, by show 0 ≤ sizeLine; decide, fun l hl x dx hx hd hne => ?_⟩
  have X1 := (Ext.refl s).made hl (.lst [])
  obtain ⟨X2, r⟩ := made_cache (C := C) (c := emptyCache cap p) X1 hx hd hne (wfc_empty hc) ⟨[], upd_same, .nil⟩
  exact ⟨x, dx, _, _, _, _, _, rfl, upd_same, rfl, post _ _ _ X2 r⟩
theorem sc_cache_behind : FnScope ["capacity", "policy", "sequence", "cache", "key"] ["capacity", "policy", "sequence"] (defScope (top 25)) := ⟨rfl, rfl, rfl, by decide +kernel, rfl, by decide +kernel, by decide +kernel⟩
theorem ok_cache_behind (T : ClsC K C) (D : DF K mg "cache_behind" (top 25) ["capacity", "policy", "sequence"] f) (c_empty_cache : CallOk P w K mg base CX0 3 "empty_cache" ["capacity", "policy"] (spEmpty C)) (m_accessed : MethOk P w K mg base CX0 6 C "accessed" ["self", "key"] (spAccessed C)) :
    FOk P w K mg base CX0 7 ["capacity", "policy", "sequence"] (spBehind C) f := by
  have cl := T.cl
  refine D.ok sc_cache_behind (fun vs H Q E ⟨_, _, _, _, _, e, _⟩ => by rw [e]; rfl) (fun f cdv A outer s1 H vs Q E hr h => ⟨_, (pss_cons (ps_set (i := 3) sc_cache_behind.nd rfl (Or.inl rfl) (pe_callC c_empty_cache hr (by decide) pass0 (pa_cons (pv 0) (pa_cons (pv 1) pa_nil)))) (pss_cons (ps_for PassesOwn.never rfl (pi_list (pv 2)) (pg_name (i := 4) sc_cache_behind.nd rfl (Or.inl rfl)) (pss_one (ps_set (i := 3) sc_cache_behind.nd rfl (Or.inl rfl) (pe_mC (pv 3) cl m_accessed hr (by decide) pass0 (pa_cons (pv 4) pa_nil))))) (pss_one (ps_ret (pv 3))))), ?_⟩)
  obtain ⟨G, cap, p, sq, ns, rfl, s, hc, hs, post⟩ := h
  refine ⟨_, rfl, _, rfl, G, cap, p, rfl, s, hc, fun G1 H1 v X1 r => ?_⟩
  refine ⟨_, rfl, sq, rfl, ⟨_, NatsAt.seq (X1.same _ _ (s _ _ hs))⟩, for_list (K := K) (a := sq) (xs := ns.map vN) (fun i σ H' => ∃ G' v y, σ = [some (vN cap), some (vN p), some (.ref sq), some v, y] ∧ Ext G H G' H' ∧ CacheV C G' v (accessAll (emptyCache cap p) (ns.take i)))
    ⟨G1, v, none, rfl, X1, r⟩ (fun i σ H' _ ⟨G', v, y, _, X, _⟩ => NatsAt.seq (X.same _ _ (s _ _ hs))) ?_ ?_⟩
  · rintro i x σ H' hx ⟨G', v, y, rfl, X, a, rfl, hca⟩
    obtain ⟨k, hk, rfl⟩ : ∃ k, ns[i]? = some k ∧ vN k = x := by
      rw [List.getElem?_map] at hx
      cases e : ns[i]? with
      | none => rw [e] at hx; cases hx
      | some k => rw [e] at hx; exact ⟨k, rfl, Option.some.inj hx⟩
    have hca0 := hca
    obtain ⟨wf, dx, l, ha, he⟩ := hca0
    refine ⟨_, rfl, a, dx, _, rfl, X.sub _ _ ha, cF_not _ l (by decide +kernel) (by decide +kernel) (by decide +kernel) (by decide +kernel) (by decide +kernel), _, rfl, G', a, _, k, rfl, X.sub, hca, fun G2 H2 v X2 r => ?_⟩
    refine ⟨G2, v, _, rfl, X.trans X2, ?_⟩
    rw [take_snoc hk, acc_snoc]
    exact r
  · rintro σ H' ⟨G', v, y, rfl, X, r⟩
    rw [List.length_map, List.take_length] at r
    exact ⟨_, rfl, post _ _ _ X r⟩
theorem sc_anomaly_of : FnScope ["policy", "capacity", "sequence", "small", "large", "at", "key"] ["policy", "capacity", "sequence"] (defScope (top 26)) := ⟨rfl, rfl, rfl, by decide +kernel, rfl, by decide +kernel, by decide +kernel⟩
theorem ok_anomaly_of (bl : Blt mg) (T : ClsC K C) (D : DF K mg "anomaly_of" (top 26) ["policy", "capacity", "sequence"] f) (c_empty_cache : CallOk P w K mg base CX0 3 "empty_cache" ["capacity", "policy"] (spEmpty C)) (m_accessed : MethOk P w K mg base CX0 6 C "accessed" ["self", "key"] (spAccessed C)) :
    FOk P w K mg base CX0 7 ["policy", "capacity", "sequence"] spAnom f := by
  have cl := T.cl
  refine D.ok sc_anomaly_of (fun vs H Q E ⟨_, _, _, _, _, e, _⟩ => by rw [e]; rfl) (fun f cdv A outer s1 H vs Q E hr h => ⟨_, (pss_cons (ps_par (i := 3) (j := 4) rfl sc_anomaly_of.nd rfl rfl (by decide) rfl rfl (pa_cons (pe_callC c_empty_cache hr (by decide) pass0 (pa_cons (pv 1) (pa_cons (pv 0) pa_nil))) (pa_cons (pe_callC c_empty_cache hr (by decide) pass0 (pa_cons (pe_op op_add (pv 1) pe_int) (pa_cons (pv 0) pa_nil))) pa_nil)) (by rfl)) (pss_cons (ps_for PassesOwn.never rfl (pi_enum (by rfl) bl.enumerate (pa_cons (pv 2) pa_nil)) (pg_tup rfl (pgs_cons (pg_name (i := 5) sc_anomaly_of.nd rfl (Or.inl rfl)) (pgs_cons (pg_name (i := 6) sc_anomaly_of.nd rfl (Or.inl rfl)) pgs_nil))) (pss_cons (ps_par (i := 3) (j := 4) rfl sc_anomaly_of.nd rfl rfl (by decide) rfl rfl (pa_cons (pe_mC (pv 3) cl m_accessed hr (by decide) pass0 (pa_cons (pv 6) pa_nil)) (pa_cons (pe_mC (pv 4) cl m_accessed hr (by decide) pass0 (pa_cons (pv 6) pa_nil)) pa_nil)) (by rfl)) (pss_one (ps_if (pt_cmpR op_gt (pe_fld (pv 4) rfl) (pe_fld (pv 3) rfl) (nomark _)) (pss_one (ps_ret (pe_lst (pa_cons (pe_op op_add (pv 5) pe_int) (pa_cons (pe_fld (pv 3) rfl) (pa_cons (pe_fld (pv 4) rfl) pa_nil)))))) pss_nil)))) (pss_one (ps_ret pe_non)))), ?_⟩)
  obtain ⟨G, p, cap, sq, ns, rfl, s, hc, hs, post⟩ := h
  refine ⟨_, rfl, _, rfl, G, cap, p, rfl, s, by omega, fun G1 H1 v1 X1 r1 => ?_⟩
  refine ⟨_, rfl, _, _, rfl, rfl, _, rfl, G1, cap + 1, p, rfl, X1.sub, by omega, fun G2 H2 v2 X2 r2 => ⟨_, _, rfl, ?_⟩⟩
  refine ⟨_, rfl, sq, _, rfl, NatsAt.seq ((X1.trans X2).same _ _ (s _ _ hs)), for_enum (K := K) (a := sq) (xs := ns.map vN) (fun i σ H' => ∃ G' v u y z ca cb, σ = [some (vN p), some (vN cap), some (.ref sq), some v, some u, y, z] ∧ Ext G H G' H' ∧ CacheV C G' v ca ∧ CacheV C G' u cb ∧
      anomF i ca cb (ns.drop i) = anomF 0 (emptyCache cap p) (emptyCache (cap + 1) p) ns)
    ⟨G2, v1, v2, none, none, _, _, rfl, X1.trans X2, r1.mono X2.ext, r2, rfl⟩ (fun i σ H' _ ⟨G', v, u, y, z, ca, cb, _, X, _⟩ => NatsAt.seq (X.same _ _ (s _ _ hs))) ?_ ?_⟩
  · rintro i x σ H' Tp hx ⟨G', v, u, y, z, ca, cb, rfl, X, ⟨a, rfl, ha⟩, ⟨b, rfl, hb⟩, eq⟩ hT
    obtain ⟨k, hk, rfl⟩ : ∃ k, ns[i]? = some k ∧ vN k = x := by
      rw [List.getElem?_map] at hx
      cases e : ns[i]? with
      | none => rw [e] at hx; cases hx
      | some k => rw [e] at hx; exact ⟨k, rfl, Option.some.inj hx⟩
    have hdrop : ns.drop i = k :: ns.drop (i + 1) := by
      rw [List.drop_eq_getElem_cons (lt_of_get hk)]
      congr 1
      exact (List.getElem?_eq_some_iff.mp hk).2
    rw [hdrop, anomF] at eq
    refine ⟨Tp, _, rfl, .inl (.inl upd_same), rfl, _, _, rfl, _, _, rfl, rfl, ?_⟩
    have X0 := X.hid hT (.tup [.int (i : Nat), vN k])
    have ha0 := ha
    obtain ⟨wfa, dxa, la, haa, _⟩ := ha0
    have hb0 := hb
    obtain ⟨wfb, dxb, lb, hbb, _⟩ := hb0
    refine ⟨_, rfl, a, dxa, _, rfl, X0.sub _ _ haa, cF_not _ la (by decide +kernel) (by decide +kernel) (by decide +kernel) (by decide +kernel) (by decide +kernel), _, rfl, G', a, _, k, rfl, X0.sub, ha, fun G3 H3 v3 X3 r3 => ?_⟩
    refine ⟨_, rfl, b, dxb, _, rfl, X3.same _ _ (X0.sub _ _ hbb), cF_not _ lb (by decide +kernel) (by decide +kernel) (by decide +kernel) (by decide +kernel) (by decide +kernel), _, rfl, G3, b, _, k, rfl, X3.sub, hb.mono X3.ext, fun G4 H4 v4 X4 r4 => ⟨_, _, rfl, ?_⟩⟩
    have r3 := r3.mono X4.ext
    have X5 := (X0.trans X3).trans X4
    have r3' := r3
    have r4' := r4
    obtain ⟨a3, rfl, wf3, dx3, l3, h3, _⟩ := r3'
    obtain ⟨a4, rfl, wf4, dx4, l4, h4, _⟩ := r4'
    refine ⟨_, rfl, a4, C, dx4, _, _, rfl, X5.sub _ _ h4, T.cl, T.nM, cF_misses _ l4, _, rfl, a3, C, dx3, _, _, rfl, X5.sub _ _ h3, T.cl, T.nM, cF_misses _ l3, _, _, rfl, rfl, _, rfl, ?_⟩
    refine ifd (fun c => ?_) (fun c => ?_)
    · rw [if_pos (by omega)] at eq
      refine ⟨_, rfl, _, _, rfl, rfl, _, rfl, a3, C, dx3, _, _, rfl, X5.sub _ _ h3, T.cl, T.nM, cF_misses _ l3, _, rfl, a4, C, dx4, _, _, rfl, X5.sub _ _ h4, T.cl, T.nM, cF_misses _ l4, by show 3 ≤ sizeLine; decide, fun q hq => post _ _ _ (X5.made hq _) ?_⟩
      rw [← eq]
      exact ⟨q, rfl, upd_same⟩
    · rw [if_neg (by omega)] at eq
      exact ⟨G4, _, _, _, _, _, _, rfl, X5, r3, r4, eq⟩
  · rintro σ H' ⟨G', v, u, y, z, ca, cb, rfl, X, _, _, eq⟩
    rw [List.length_map, List.drop_length, anomF] at eq
    refine post _ _ _ X ?_
    rw [← eq]
end
end Ks
/-! The offline defs. -/
namespace Ks
open PySem PySem.Spec PyProof.Rows L2
open Vakptc (nextUse insertSorted)
theorem nat_item {ns : List Nat} {i : Nat} {x : V} (hx : (ns.map vN)[i]? = some x) : ∃ k, ns[i]? = some k ∧ vN k = x := by
  rw [List.getElem?_map] at hx
  cases e : ns[i]? with
  | none => rw [e] at hx; cases hx
  | some k => rw [e] at hx; exact ⟨k, rfl, Option.some.inj hx⟩
theorem item_nat {ns : List Nat} {i k : Nat} (h : ns[i]? = some k) : (ns.map vN)[i]? = some (vN k) := by
  rw [List.getElem?_map, h]
  rfl
theorem getD_of {ns : List Nat} {i k : Nat} (h : ns[i]? = some k) : ns.getD i 0 = k := by
  rw [List.getD_eq_getElem?_getD, h]
  rfl
theorem drop_of {ns : List Nat} {i k : Nat} (h : ns[i]? = some k) : ns.drop i = k :: ns.drop (i + 1) := by
  rw [List.drop_eq_getElem_cons (lt_of_get h)]
  congr 1
  exact (List.getElem?_eq_some_iff.mp h).2
theorem next_at : ∀ {r : List Nat} {k t : Nat}, r[t]? = some k → (∀ j, j < t → r[j]? ≠ some k) → nextUse r k = t
  | [], k, t, h, _ => by simp at h
  | x :: r, k, 0, h, _ => by
    have e : x = k := Option.some.inj h
    rw [next_cons, if_pos e]
  | x :: r, k, t + 1, h, hb => by
    have e : x ≠ k := fun e => hb 0 (by omega) (by rw [e]; rfl)
    rw [next_cons, if_neg e, next_at (r := r) (k := k) (t := t) (by simpa using h) fun j hj => by simpa using hb (j + 1) (by omega)]
theorem next_not : ∀ {r : List Nat} {k : Nat}, (∀ j, j < r.length → r[j]? ≠ some k) → nextUse r k = r.length
  | [], k, _ => rfl
  | x :: r, k, hb => by
    have e : x ≠ k := fun e => hb 0 (by simp) (by rw [e]; rfl)
    rw [next_cons, if_neg e, next_not (r := r) (k := k) fun j hj => by simpa using hb (j + 1) (by simpa using hj)]
    rfl
theorem nxt_hit {ns : List Nat} {i k t : Nat} (h : ns[i + 1 + t]? = some k) (hb : ∀ j, j < t → ns[i + 1 + j]? ≠ some k) : nxt ns i k = i + 1 + t := by
  have e : nextUse (ns.drop (i + 1)) k = t := next_at (by rw [List.getElem?_drop]; exact h) fun j hj => by rw [List.getElem?_drop]; exact hb j hj
  unfold nxt
  rw [e, if_pos (by rw [List.length_drop]; have := lt_of_get h; omega)]
theorem nxt_not {ns : List Nat} {i k : Nat} (hb : ∀ j, j < ns.length - (i + 1) → ns[i + 1 + j]? ≠ some k) : nxt ns i k = 1000 := by
  have e : nextUse (ns.drop (i + 1)) k = (ns.drop (i + 1)).length := next_not fun j hj => by rw [List.getElem?_drop]; exact hb j (by rw [List.length_drop] at hj; exact hj)
  unfold nxt
  rw [e, if_neg (Nat.lt_irrefl _)]
theorem withKey_len (cap : Nat) (c : List Nat) (k : Nat) : (withKey cap c k).length ≤ c.length + 1 := by
  unfold withKey
  split
  · omega
  · rw [List.length_append]
    exact Nat.le_refl _
theorem other_le (c : List Nat) (k : Nat) : (other c k).length ≤ c.length := List.length_filter_le _ _
theorem belIt_len (cap : Nat) (s : List Nat) (a : Nat) (c : List Nat) : ∀ n, (belIt cap s a c n).2.1.length ≤ n ∧ (belIt cap s a c n).2.2.length ≤ c.length + n
  | 0 => ⟨Nat.le_refl _, Nat.le_refl _⟩
  | n + 1 => by
    obtain ⟨h1, h2⟩ := belIt_len cap s a c n
    show (belStep _ _ _ _ _).2.1.length ≤ _ ∧ (belStep _ _ _ _ _).2.2.length ≤ _
    unfold belStep
    split
    · have a1 := withKey_len cap (other (belIt cap s a c n).2.2 (farK s (a + n) (belIt cap s a c n).2.2)) (s.getD (a + n) 0)
      have a2 := other_le (belIt cap s a c n).2.2 (farK s (a + n) (belIt cap s a c n).2.2)
      refine ⟨?_, by show (withKey _ _ _).length ≤ _; omega⟩
      show (_ ++ [_]).length ≤ _
      rw [List.length_append, List.length_singleton]
      omega
    · have a1 := withKey_len cap (belIt cap s a c n).2.2 (s.getD (a + n) 0)
      exact ⟨by show (belIt cap s a c n).2.1.length ≤ _; omega, by show (withKey _ _ _).length ≤ _; omega⟩
theorem optIt_len (cap : Nat) (s : List Nat) : ∀ n, (optIt cap s n).1.length ≤ n ∧ (optIt cap s n).2.length ≤ n
  | 0 => ⟨Nat.le_refl _, Nat.le_refl _⟩
  | n + 1 => by
    obtain ⟨h1, h2⟩ := optIt_len cap s n
    show (optStep _ _ _ _ _).1.length ≤ _ ∧ (optStep _ _ _ _ _).2.length ≤ _
    unfold optStep
    split
    · have a1 := withKey_len cap (other (optIt cap s n).2 (leastV cap s n (s.getD n 0) (optIt cap s n).2)) (s.getD n 0)
      have a2 := other_le (optIt cap s n).2 (leastV cap s n (s.getD n 0) (optIt cap s n).2)
      refine ⟨?_, by show (withKey _ _ _).length ≤ _; omega⟩
      show (_ ++ [_]).length ≤ _
      rw [List.length_append, List.length_singleton]
      omega
    · have a1 := withKey_len cap (optIt cap s n).2 (s.getD n 0)
      exact ⟨by show (optIt cap s n).1.length ≤ _; omega, by show (withKey _ _ _).length ≤ _; omega⟩
section
variable (K : PySem.W.Frag)
def spNextAcc : Sp := fun vs H Q _ => ∃ (s : Addr) (ns : List Nat) (i k : Nat), vs = [.ref s, vN i, vN k] ∧ NatsAt H s ns ∧ i ≤ 1000 ∧ ns.length ≤ 900 ∧ Q (vN (nxt ns i k)) H
def spFarK : Sp := fun vs H Q _ => ∃ (G : Hp) (s c : Addr) (ns cs : List Nat) (i : Nat), vs = [.ref s, vN i, .ref c] ∧ Same G H ∧ NatsAt G s ns ∧ i ≤ 1000 ∧ ns.length ≤ 900 ∧ NatsAt G c cs ∧ cs ≠ [] ∧ Post G H (fun _ v => v = vN (farK ns i cs)) Q
def spOther : Sp := fun vs H Q _ => ∃ (G : Hp) (c : Addr) (cs : List Nat) (k : Nat), vs = [.ref c, vN k] ∧ Same G H ∧ NatsAt G c cs ∧ cs.length ≤ 5000 ∧ Post G H (fun G' v => ∃ p, v = .ref p ∧ NatsAt G' p (other cs k)) Q
def spNeeds : Sp := fun vs H Q _ => ∃ (c : Addr) (cs : List Nat) (cap k : Nat), vs = [vN cap, .ref c, vN k] ∧ NatsAt H c cs ∧ Q (.bl (needs cap cs k)) H
def spWithKey : Sp := fun vs H Q _ => ∃ (G : Hp) (c : Addr) (cs : List Nat) (cap k : Nat), vs = [vN cap, .ref c, vN k] ∧ Same G H ∧ NatsAt G c cs ∧ cs.length ≤ 5000 ∧ Post G H (fun G' v => ∃ p, v = .ref p ∧ NatsAt G' p (withKey cap cs k)) Q
def spBelFrom : Sp := fun vs H Q _ => ∃ (G : Hp) (s c : Addr) (ns cs : List Nat) (cap a : Nat), vs = [vN cap, .ref s, vN a, .ref c] ∧ Same G H ∧ NatsAt G s ns ∧ a ≤ 1000 ∧ ns.length ≤ 900 ∧ NatsAt G c cs ∧ cs.length ≤ 2000 ∧
  Post G H (fun G' v => ∃ t q, v = .ref t ∧ G' t = some (.tup [vN (bel cap ns a cs).1, .ref q]) ∧ NatsAt G' q (bel cap ns a cs).2) Q
def spBel : Sp := fun vs H Q _ => ∃ (G : Hp) (s : Addr) (ns : List Nat) (cap : Nat), vs = [vN cap, .ref s] ∧ Same G H ∧ NatsAt G s ns ∧ ns.length ≤ 900 ∧
  Post G H (fun G' v => ∃ t q, v = .ref t ∧ G' t = some (.tup [vN (bel cap ns 0 []).1, .ref q]) ∧ NatsAt G' q (bel cap ns 0 []).2) Q
end
section
variable {P : Program} {w : World} {K : PySem.W.Frag} {mg : Str → Option Value} {base : Heap} {f : Addr}
theorem sc_next_access : FnScope ["sequence", "at", "key", "place"] ["sequence", "at", "key"] (defScope (top 29)) := ⟨rfl, rfl, rfl, by decide +kernel, rfl, by decide +kernel, by decide +kernel⟩
theorem ok_next_access (cn : Cn mg) (bl : Blt mg) (D : DF K mg "next_access" (top 29) ["sequence", "at", "key"] f) : FOk P w K mg base CX0 1 ["sequence", "at", "key"] spNextAcc f := by
  refine D.ok sc_next_access (fun vs H Q E ⟨_, _, _, _, e, _⟩ => by rw [e]; rfl) (fun f cdv A outer s1 H vs Q E hr h => ⟨_, (pss_cons (ps_for PassesOwn.never rfl (pi_range2 (by rfl) bl.range (pa_cons (pe_op op_add (pv 1) pe_int) (pa_cons (pe_callB call_len_seq (by rfl) bl.len (by decide +kernel) (pa_cons (pv 0) pa_nil)) pa_nil))) (pg_name (i := 3) sc_next_access.nd rfl (Or.inl rfl)) (pss_one (ps_if (pt_cmpR op_eq (pe_ix ix_list (pv 0) (pv 3) (fun _ _ => rfl)) (pv 2) (nomark _)) (pss_one (ps_ret (pv 3))) pss_nil))) (pss_one (ps_ret (pe_const cn.NEVER)))), ?_⟩)
  obtain ⟨s, ns, i, k, rfl, hs, hi, hz, q⟩ := h
  have en : (((ns.map vN).length : Int) - ((i : Int) + 1)).toNat = ns.length - (i + 1) := by
    rw [List.length_map]
    omega
  refine ⟨_, rfl, _, _, rfl, rfl, _, rfl, s, _, rfl, .inl hs.seq, _, _, rfl, ⟨by omega, by omega, by omega, by rw [List.length_map]; omega⟩, ?_⟩
  rw [en]
  refine for_range (lo := (i : Int) + 1) (n := ns.length - (i + 1)) (fun t σ H' => ∃ y, σ = [some (.ref s), some (vN i), some (vN k), y] ∧ H' = H ∧ ∀ j, j < t → ns[i + 1 + j]? ≠ some k) ⟨none, rfl, rfl, fun j hj => absurd hj (Nat.not_lt_zero _)⟩ ?_ ?_
  · rintro t σ H' ht ⟨y, rfl, rfl, hb⟩
    obtain ⟨x, hx⟩ : ∃ x, ns[i + 1 + t]? = some x := ⟨ns[i + 1 + t]'(by omega), List.getElem?_eq_getElem (by omega)⟩
    refine ⟨_, rfl, _, rfl, s, _, _, vN x, rfl, rfl, hs.seq, atI_nat (j := i + 1 + t) (item_nat hx), _, rfl, rfl, _, rfl, ?_⟩
    refine ifd (fun c => ?_) (fun c => ?_)
    · have e : x = k := vn_inj c
      rw [e] at hx
      rw [nxt_hit hx hb] at q
      exact ⟨_, rfl, q⟩
    · refine ⟨_, rfl, rfl, fun j hj => ?_⟩
      by_cases e : j = t
      · rw [e, hx]
        exact fun z => vn_ne c (Option.some.inj z)
      · exact hb j (by omega)
  · rintro σ H' ⟨y, rfl, rfl, hb⟩
    rw [nxt_not hb] at q
    exact q
theorem sc_farthest_key : FnScope ["sequence", "at", "cached", "best", "far", "key", "place"] ["sequence", "at", "cached"] (defScope (top 30)) := ⟨rfl, rfl, rfl, by decide +kernel, rfl, by decide +kernel, by decide +kernel⟩
theorem ok_farthest_key (D : DF K mg "farthest_key" (top 30) ["sequence", "at", "cached"] f) (c_next_access : CallOk P w K mg base CX0 1 "next_access" ["sequence", "at", "key"] spNextAcc) : FOk P w K mg base CX0 2 ["sequence", "at", "cached"] spFarK f := by
  refine D.ok sc_farthest_key (fun vs H Q E ⟨_, _, _, _, _, _, e, _⟩ => by rw [e]; rfl) (fun f cdv A outer s1 H vs Q E hr h => ⟨_, (pss_cons (ps_par (i := 3) (j := 4) rfl sc_farthest_key.nd rfl rfl (by decide) rfl rfl (pa_cons (pe_ix ix_list (pv 2) pe_int (fun _ _ => rfl)) (pa_cons (pe_callC c_next_access hr (by decide) pass0 (pa_cons (pv 0) (pa_cons (pv 1) (pa_cons (pe_ix ix_list (pv 2) pe_int (fun _ _ => rfl)) pa_nil)))) pa_nil)) (by rfl)) (pss_cons (ps_for PassesOwn.never rfl (pi_list (pe_slice sl_list (pv 2) (po_some pe_int) po_none)) (pg_name (i := 5) sc_farthest_key.nd rfl (Or.inl rfl)) (pss_cons (ps_set (i := 6) sc_farthest_key.nd rfl (Or.inl rfl) (pe_callC c_next_access hr (by decide) pass0 (pa_cons (pv 0) (pa_cons (pv 1) (pa_cons (pv 5) pa_nil))))) (pss_one (ps_if (PW.pt (pw_or (pt_cmpR op_gt (pv 6) (pv 4) (nomark _)) (pw_or1 (PW.pt (pw_and (pt_cmpR op_eq (pv 6) (pv 4) (nomark _)) (pw_and1 (pt_cmpR op_lt (pv 5) (pv 3) (nomark _)))))))) (pss_one (ps_par (i := 3) (j := 4) rfl sc_farthest_key.nd rfl rfl (by decide) rfl rfl (pa_cons (pv 5) (pa_cons (pv 6) pa_nil)) (by rfl))) pss_nil)))) (pss_one (ps_ret (pv 3))))), ?_⟩)
  obtain ⟨G, s, c, ns, cs, i, rfl, sm, hs, hi, hz, hc, ne, post⟩ := h
  cases cs with
  | nil => exact absurd rfl ne
  | cons b r =>
    have hs' := sm _ _ hs
    have hc' := sm _ _ hc
    refine ⟨_, rfl, c, _, 0, vN b, rfl, rfl, NatsAt.seq hc', at_zero, _, rfl, _, rfl, _, rfl, c, _, 0, vN b, rfl, rfl, NatsAt.seq hc', at_zero, s, ns, i, b, rfl, hs', hi, hz, _, _, rfl, ?_⟩
    refine ⟨_, rfl, _, rfl, c, _, rfl, NatsAt.seq hc', fun p hp => ?_⟩
    have hp2 : upd H p (.lst (cutV ((b :: r).map vN) (some 1) none)) p = some (.lst (r.map vN)) := by
      rw [upd_same]
      exact congrArg (fun l => some (HO.lst l)) (cut_from ((b :: r).map vN) (n := 1) (by simp))
    have sm2 : Same H (upd H p (.lst (cutV ((b :: r).map vN) (some 1) none))) := same_upd hp
    have X := (Ext.refl sm).hid hp (.lst (cutV ((b :: r).map vN) (some 1) none))
    generalize upd H p (.lst (cutV ((b :: r).map vN) (some 1) none)) = H2 at *
    refine ⟨p, rfl, ⟨_, NatsAt.seq hp2⟩, for_list (K := K) (a := p) (xs := r.map vN) (fun t σ H' => ∃ y z, σ = [some (.ref s), some (vN i), some (.ref c), some (vN ((r.take t).foldl (farStep ns i) (b, nxt ns i b)).1), some (vN ((r.take t).foldl (farStep ns i) (b, nxt ns i b)).2), y, z] ∧ H' = H2)
      ⟨none, none, rfl, rfl⟩ (fun t σ H' _ ⟨y, z, _, e⟩ => by rw [e]; exact NatsAt.seq hp2) ?_ ?_⟩
    · rintro t x σ H' hx ⟨y, z, rfl, rfl⟩
      obtain ⟨k, hk, rfl⟩ := nat_item hx
      rw [take_snoc hk, List.foldl_append]
      generalize (r.take t).foldl (farStep ns i) (b, nxt ns i b) = st
      refine ⟨_, rfl, _, rfl, _, rfl, s, ns, i, k, rfl, sm2 _ _ hs', hi, hz, ?_⟩
      refine ⟨_, rfl, _, rfl, _, _, rfl, rfl, _, rfl, ?_⟩
      have yes : (st.2 < nxt ns i k ∨ (nxt ns i k = st.2 ∧ k < st.1)) → [st].foldl (fun a _ => farStep ns i a k) st = (k, nxt ns i k) := fun q => if_pos q
      have no : ¬ (st.2 < nxt ns i k ∨ (nxt ns i k = st.2 ∧ k < st.1)) → [st].foldl (fun a _ => farStep ns i a k) st = st := fun q => if_neg q
      refine ifd (fun c1 => ?_) (fun c1 => ?_)
      · refine iteT ⟨_, rfl, _, rfl, _, _, rfl, some (vN k), some (vN (nxt ns i k)), ?_, rfl⟩
        rw [show [k].foldl (farStep ns i) st = (k, nxt ns i k) from yes (.inl (by omega))]
        rfl
      · refine ⟨_, rfl, _, rfl, rfl, _, rfl, ?_⟩
        refine ifd (fun c2 => ?_) (fun c2 => ?_)
        · refine ⟨_, rfl, _, rfl, _, _, rfl, rfl, _, rfl, ?_⟩
          refine ifd (fun c3 => ?_) (fun c3 => ?_)
          · refine ⟨_, rfl, _, rfl, _, _, rfl, some (vN k), some (vN (nxt ns i k)), ?_, rfl⟩
            rw [show [k].foldl (farStep ns i) st = (k, nxt ns i k) from yes (.inr ⟨vn_inj c2, by omega⟩)]
            rfl
          · refine ⟨some (vN k), some (vN (nxt ns i k)), ?_, rfl⟩
            rw [show [k].foldl (farStep ns i) st = st from no (by have := vn_inj c2; omega)]
            rfl
        · refine iteF ⟨some (vN k), some (vN (nxt ns i k)), ?_, rfl⟩
          rw [show [k].foldl (farStep ns i) st = st from no (by have := vn_ne c2; omega)]
          rfl
    · rintro σ H' ⟨y, z, rfl, rfl⟩
      rw [List.length_map, List.take_length]
      exact ⟨_, rfl, post _ _ _ X rfl⟩
theorem sc_other_keys : FnScope ["cached", "key", "one"] ["cached", "key"] (defScope (top 31)) := ⟨rfl, rfl, rfl, by decide +kernel, rfl, by decide +kernel, by decide +kernel⟩
theorem ok_other_keys (D : DF K mg "other_keys" (top 31) ["cached", "key"] f) : FOk P w K mg base CX0 1 ["cached", "key"] spOther f := by
  refine D.ok sc_other_keys (fun vs H Q E ⟨_, _, _, _, e, _⟩ => by rw [e]; rfl) (fun f cdv A outer s1 H vs Q E hr h => ⟨_, (pss_one (ps_ret (pe_lc (own := [("one", 2)]) (g := (gName 2)) rfl sc_other_keys.nd (pi_list (pv 0)) (blkOk_by (own := [("one", 2)]) (N := ["cached", "key", "one"]) (sc := defScope (top 31)) (by decide +kernel)) (fun _ _ _ _ _ => pg_name (i := 2) sc_other_keys.nd rfl (Or.inl rfl)) (fun _ _ _ _ _ => (pts_one (pt_cmpR op_ne (pv 2) (pv 1) (nomark _)))) (fun _ _ _ _ _ => (pv 2))))), ?_⟩)
  obtain ⟨G, c, cs, k, rfl, s, hc, hz, post⟩ := h
  refine ⟨_, rfl, c, rfl, ⟨_, NatsAt.seq (s _ _ hc)⟩, fun D hD => ?_⟩
  refine lc_pure (fun v n => v = vN n) cs (fun n => n != k) vN hD (NatsAt.seq (s _ _ hc)) (size_small (by rw [List.length_map]; omega)) (all2_map vN cs) (fun x b H' Rt Rf r sm kt kf => ?_) ?_
  · subst r
    refine ⟨rfl, _, rfl, _, rfl, rfl, _, rfl, ?_⟩
    refine ifnd (fun h => ?_) (fun h => ?_)
    · exact ⟨_, rfl, kt (by simpa using vn_ne h)⟩
    · exact kf (by simpa using vn_inj h)
  · exact post _ _ _ ((Ext.refl s).made hD _) ⟨D, rfl, upd_same⟩
theorem sc_needs_room : FnScope ["capacity", "cached", "key"] ["capacity", "cached", "key"] (defScope (top 32)) := ⟨rfl, rfl, rfl, by decide +kernel, rfl, by decide +kernel, by decide +kernel⟩
theorem ok_needs_room (bl : Blt mg) (D : DF K mg "needs_room" (top 32) ["capacity", "cached", "key"] f) : FOk P w K mg base CX0 1 ["capacity", "cached", "key"] spNeeds f := by
  refine D.ok sc_needs_room (fun vs H Q E ⟨_, _, _, _, e, _⟩ => by rw [e]; rfl) (fun f cdv A outer s1 H vs Q E hr h => ⟨_, (pss_one (ps_ret (pe_and (pe_cmpR op_gt (pv 0) pe_int (nomark _)) (pe_and (pe_cmpR op_notIn_seq (pv 2) (pv 1) (by rfl)) (pe_one (pe_cmpR op_eq (pe_callB call_len_seq (by rfl) bl.len (by decide +kernel) (pa_cons (pv 1) pa_nil)) (pv 0) (nomark _))))))), ?_⟩)
  obtain ⟨c, cs, cap, k, rfl, hc, q⟩ := h
  refine ⟨_, rfl, _, _, rfl, rfl, _, rfl, ?_⟩
  unfold needs at q
  refine ifd (fun h => ?_) (fun h => ?_)
  · rw [decide_eq_true (show 0 < cap by omega), Bool.true_and] at q
    refine ⟨_, rfl, _, rfl, c, _, rfl, .inl (NatsAt.seq hc), rfl, flat_nats _, _, rfl, ?_⟩
    show if (!inV (vN k) (cs.map vN)) = true then _ else _
    rw [inV_nats]
    cases e : cs.contains k with
    | true =>
      rw [e] at q
      exact iteF q
    | false =>
      rw [e] at q
      refine iteT ⟨_, rfl, c, _, rfl, .inl (NatsAt.seq hc), _, rfl, rfl, ?_⟩
      have e2 : (!false && decide (cs.length = cap)) = decide (V.int ((cs.map vN).length : Int) = vN cap) := by
        rw [List.length_map, Bool.not_false, Bool.true_and, Bool.eq_iff_iff, decide_eq_true_iff, decide_eq_true_iff]
        exact ⟨fun e => by rw [e], fun e => vn_inj e⟩
      rw [e2] at q
      exact q
  · rw [decide_eq_false (show ¬ 0 < cap by omega), Bool.false_and] at q
    exact q
theorem sc_with_key : FnScope ["capacity", "cached", "key"] ["capacity", "cached", "key"] (defScope (top 33)) := ⟨rfl, rfl, rfl, by decide +kernel, rfl, by decide +kernel, by decide +kernel⟩
theorem ok_with_key (D : DF K mg "with_key" (top 33) ["capacity", "cached", "key"] f) : FOk P w K mg base CX0 1 ["capacity", "cached", "key"] spWithKey f := by
  refine D.ok sc_with_key (fun vs H Q E ⟨_, _, _, _, _, e, _⟩ => by rw [e]; rfl) (fun f cdv A outer s1 H vs Q E hr h => ⟨_, (pss_cons (ps_if (PW.pt (pw_or (pt_cmpR op_in_seq (pv 2) (pv 1) (by rfl)) (pw_or1 (pt_cmpR op_eq (pv 0) pe_int (nomark _))))) (pss_one (ps_ret (pv 1))) pss_nil) (pss_one (ps_ret (pe_op op_cat (pv 1) (pe_lst (pa_cons (pv 2) pa_nil)))))), ?_⟩)
  obtain ⟨G, c, cs, cap, k, rfl, s, hc, hz, post⟩ := h
  have hc' := s _ _ hc
  refine ⟨_, rfl, _, rfl, c, _, rfl, .inl (NatsAt.seq hc'), rfl, flat_nats _, _, rfl, ?_⟩
  show if (inV (vN k) (cs.map vN)) = true then _ else _
  rw [inV_nats]
  have stay : cs.contains k = true ∨ cap = 0 → Q (.ref c) H := fun q => post _ _ _ (Ext.refl s) ⟨c, rfl, by
    unfold withKey
    rw [if_pos q]
    exact hc⟩
  cases e : cs.contains k with
  | true => exact iteT ⟨_, rfl, stay (.inl e)⟩
  | false =>
    refine iteF ?_
    refine ⟨_, rfl, rfl, _, rfl, ?_⟩
    refine ifd (fun h => ?_) (fun h => ?_)
    · exact ⟨_, rfl, stay (.inr (vn_inj (j := 0) h))⟩
    · have h0 : cap ≠ 0 := vn_ne (j := 0) h
      refine ⟨_, rfl, _, rfl, by show 1 ≤ sizeLine; decide, fun p hp => ?_⟩
      have ncp : c ≠ p := ne_of_none hc' hp
      refine ⟨c, p, _, _, rfl, rfl, by rw [upd_ne ncp]; exact hc', upd_same, size_le (by rw [List.length_map]; show cs.length + 1 ≤ _; omega), fun r hr => post _ _ _ (((Ext.refl s).hid hp _).made hr _) ⟨r, rfl, ?_⟩⟩
      have ew : withKey cap cs k = cs ++ [k] := if_neg fun q => by
        rcases q with q | q
        · rw [e] at q; cases q
        · exact h0 q
      show upd G r _ r = _
      rw [upd_same, ew, List.map_append]
      rfl
theorem sc_belady_from : FnScope ["capacity", "sequence", "start", "cached", "misses", "gone", "at", "key", "victim"] ["capacity", "sequence", "start", "cached"] (defScope (top 34)) := ⟨rfl, rfl, rfl, by decide +kernel, rfl, by decide +kernel, by decide +kernel⟩
theorem ok_belady_from (bl : Blt mg) (D : DF K mg "belady_from" (top 34) ["capacity", "sequence", "start", "cached"] f) (c_needs_room : CallOk P w K mg base CX0 1 "needs_room" ["capacity", "cached", "key"] spNeeds) (c_farthest_key : CallOk P w K mg base CX0 2 "farthest_key" ["sequence", "at", "cached"] spFarK)
    (c_other_keys : CallOk P w K mg base CX0 1 "other_keys" ["cached", "key"] spOther) (c_with_key : CallOk P w K mg base CX0 1 "with_key" ["capacity", "cached", "key"] spWithKey) : FOk P w K mg base CX0 3 ["capacity", "sequence", "start", "cached"] spBelFrom f := by
  refine D.ok sc_belady_from (fun vs H Q E ⟨_, _, _, _, _, _, _, e, _⟩ => by rw [e]; rfl) (fun f cdv A outer s1 H vs Q E hr h => ⟨_, (pss_cons (ps_par (i := 4) (j := 5) rfl sc_belady_from.nd rfl rfl (by decide) rfl rfl (pa_cons pe_int (pa_cons (pe_lst pa_nil) pa_nil)) (by rfl)) (pss_cons (ps_for PassesOwn.never rfl (pi_range2 (by rfl) bl.range (pa_cons (pv 2) (pa_cons (pe_callB call_len_seq (by rfl) bl.len (by decide +kernel) (pa_cons (pv 1) pa_nil)) pa_nil))) (pg_name (i := 6) sc_belady_from.nd rfl (Or.inl rfl)) (pss_cons (ps_set (i := 7) sc_belady_from.nd rfl (Or.inl rfl) (pe_ix ix_list (pv 1) (pv 6) (fun _ _ => rfl))) (pss_cons (ps_if (pt_cmpR op_notIn_seq (pv 7) (pv 3) (by rfl)) (pss_one (ps_aug (i := 4) sc_belady_from.nd rfl (Or.inl rfl) pe_int ip_add)) pss_nil) (pss_cons (ps_if (pt_val (pe_callC c_needs_room hr (by decide) pass0 (pa_cons (pv 0) (pa_cons (pv 3) (pa_cons (pv 7) pa_nil))))) (pss_cons (ps_set (i := 8) sc_belady_from.nd rfl (Or.inl rfl) (pe_callC c_farthest_key hr (by decide) pass0 (pa_cons (pv 1) (pa_cons (pv 6) (pa_cons (pv 3) pa_nil))))) (pss_cons (ps_expr (pe_bm PySem.F.plainAttrs_list PySem.F.slot_list_append PySem.F.type_list_append mt_append (pv 5) (pa_cons (pv 8) pa_nil))) (pss_one (ps_set (i := 3) sc_belady_from.nd rfl (Or.inl rfl) (pe_callC c_other_keys hr (by decide) pass0 (pa_cons (pv 3) (pa_cons (pv 8) pa_nil))))))) pss_nil) (pss_one (ps_set (i := 3) sc_belady_from.nd rfl (Or.inl rfl) (pe_callC c_with_key hr (by decide) pass0 (pa_cons (pv 0) (pa_cons (pv 3) (pa_cons (pv 7) pa_nil)))))))))) (pss_one (ps_ret (pe_tup (pa_cons (pv 4) (pa_cons (pv 5) pa_nil))))))), ?_⟩)
  obtain ⟨G, s, c, ns, cs, cap, a, rfl, sm, hs, hi, hz, hc, hcz, post⟩ := h
  refine ⟨by show 0 ≤ sizeLine; decide, fun D hD => ⟨_, _, rfl, ?_⟩⟩
  have gD : G D = none := sm.free hD
  have en : (((ns.map vN).length : Int) - (a : Int)).toNat = ns.length - a := by
    rw [List.length_map]
    omega
  refine ⟨_, rfl, _, rfl, s, _, rfl, .inl (NatsAt.seq (same_upd hD _ _ (sm _ _ hs))), _, _, rfl, ⟨by omega, by omega, by omega, by rw [List.length_map]; omega⟩, ?_⟩
  rw [en]
  refine for_range (lo := (a : Int)) (n := ns.length - a) (fun i σ H' => ∃ G' p y1 y2 y3, σ = [some (vN cap), some (.ref s), some (vN a), some (.ref p), some (vN (belIt cap ns a cs i).1), some (.ref D), y1, y2, y3] ∧ Ext G H G' H' ∧ G' D = none ∧
      H' D = some (.lst ((belIt cap ns a cs i).2.1.map vN)) ∧ NatsAt G' p (belIt cap ns a cs i).2.2)
    ⟨G, c, none, none, none, rfl, (Ext.refl sm).put hD gD _, gD, upd_same, hc⟩ ?_ ?_
  · rintro i σ H' hlt ⟨G', p, y1, y2, y3, rfl, X, gn, hg, hp⟩
    obtain ⟨l1, l2⟩ := belIt_len cap ns a cs i
    have est : belIt cap ns a cs (i + 1) = belStep cap ns (a + i) (ns.getD (a + i) 0) (belIt cap ns a cs i) := rfl
    rw [est]
    generalize belIt cap ns a cs i = st at l1 l2 hg hp ⊢
    obtain ⟨m, g, cc⟩ := st
    obtain ⟨k, hk⟩ : ∃ k, ns[a + i]? = some k := ⟨ns[a + i]'(by omega), List.getElem?_eq_getElem (by omega)⟩
    rw [getD_of hk]
    have hs' := X.same _ _ (sm _ _ hs)
    -- the turn's end
    have tail : ∀ (G3 H3 : Hp) (p3 : Addr) (c3 g3 : List Nat) (m3 : Nat) (y : Option V), Ext G H G3 H3 → G3 D = none → H3 D = some (.lst (g3.map vN)) → NatsAt G3 p3 c3 → c3.length ≤ 5000 → belStep cap ns (a + i) k (m, g, cc) = (m3, g3, withKey cap c3 k) →
        spWithKey [vN cap, .ref p3, vN k] H3 (fun x H1 => ∃ G' p y1 y2 y3, ([some (vN cap), some (.ref s), some (vN a), some (.ref p3), some (vN m3), some (.ref D), some (vN (a + i)), some (vN k), y] : List (Option V)).set 3 (some x) = [some (vN cap), some (.ref s), some (vN a), some (.ref p), some (vN (belStep cap ns (a + i) k (m, g, cc)).1), some (.ref D), y1, y2, y3] ∧ Ext G H G' H1 ∧ G' D = none ∧
          H1 D = some (.lst ((belStep cap ns (a + i) k (m, g, cc)).2.1.map vN)) ∧ NatsAt G' p (belStep cap ns (a + i) k (m, g, cc)).2.2) E0 := by
      intro G3 H3 p3 c3 g3 m3 y X3 gn3 hg3 hp3 hl3 e
      refine ⟨G3, p3, c3, cap, k, rfl, X3.sub, hp3, hl3, fun G4 H4 v X4 r => ?_⟩
      obtain ⟨q, rfl, hq⟩ := r
      rw [e]
      exact ⟨G4, q, _, _, _, rfl, X3.trans X4, X4.keep (by rw [hg3]; exact fun z => by cases z) gn3, X4.same _ _ hg3, hq⟩
    refine ⟨_, rfl, _, rfl, s, _, _, vN k, rfl, rfl, NatsAt.seq hs', atI_nat (j := a + i) (item_nat hk), ?_⟩
    refine ⟨_, rfl, _, rfl, p, _, rfl, .inl (NatsAt.seq (X.sub _ _ hp)), rfl, flat_nats _, _, rfl, ?_⟩
    show if (!inV (vN k) (cc.map vN)) = true then _ else _
    rw [inV_nats]
    cases hk2 : cc.contains k with
    | true =>
      have nn : ¬ needs cap cc k = true := fun q => (needs_t.mp q).2.1 (List.contains_iff_mem.mp hk2)
      refine iteF ?_
      refine ⟨_, rfl, _, rfl, _, rfl, p, cc, cap, k, rfl, X.sub _ _ hp, _, rfl, ?_⟩
      rw [show needs cap cc k = false by simpa using nn]
      refine iteF ?_
      refine ⟨_, rfl, _, rfl, _, rfl, tail G' H' p cc g m _ X gn hg hp (by show cc.length ≤ 5000; have : cc.length ≤ cs.length + i := l2; omega) ?_⟩
      unfold belStep
      rw [if_neg nn]
      show (if cc.contains k = true then m else m + 1, _, _) = _
      rw [if_pos hk2]
    | false =>
      have hk3 : ¬ cc.contains k = true := by rw [hk2]; exact Bool.false_ne_true
      refine iteT ?_
      refine ⟨_, rfl, _, _, rfl, rfl, ?_⟩
      refine ⟨_, rfl, _, rfl, _, rfl, p, cc, cap, k, rfl, X.sub _ _ hp, _, rfl, ?_⟩
      cases nn : needs cap cc k with
      | false =>
        refine iteF ?_
        refine ⟨_, rfl, _, rfl, _, rfl, tail G' H' p cc g (m + 1) _ X gn hg hp (by show cc.length ≤ 5000; have : cc.length ≤ cs.length + i := l2; omega) ?_⟩
        unfold belStep
        rw [if_neg (show ¬ needs cap cc k = true by rw [nn]; exact Bool.false_ne_true)]
        show (if cc.contains k = true then m else m + 1, _, _) = _
        rw [if_neg hk3]
      | true =>
        refine iteT ?_
        obtain ⟨z, _, fl⟩ := needs_t.mp nn
        refine ⟨_, rfl, _, rfl, _, rfl, G', s, p, ns, cc, a + i, rfl, X.sub, X.ext _ _ hs, by omega, hz, hp, ne_nil z fl, fun G2 H2 v X2 r => ?_⟩
        subst r
        have gn2 := X2.keep (by rw [hg]; exact fun z => by cases z) gn
        have hg2 := X2.same _ _ hg
        refine ⟨_, rfl, .inl ⟨rfl, _, .inl (.inl hg2)⟩, _, rfl, D, _, _, rfl, rfl, hg2, size_small (by rw [List.length_map]; have : g.length ≤ i := l1; omega), ?_⟩
        have X3 := (X.trans X2).put hD gn2 (.lst (g.map vN ++ [vN (farK ns (a + i) cc)]))
        refine ⟨_, rfl, _, rfl, G2, p, cc, _, rfl, X3.sub, X2.ext _ _ hp, by have : cc.length ≤ cs.length + i := l2; omega, fun G4 H4 v X4 r => ?_⟩
        obtain ⟨q, rfl, hq⟩ := r
        have hg3 : upd H2 D (.lst (g.map vN ++ [vN (farK ns (a + i) cc)])) D = some (.lst ((g ++ [farK ns (a + i) cc]).map vN)) := by
          rw [upd_same, List.map_append]
          rfl
        refine ⟨_, rfl, _, rfl, _, rfl, tail G4 H4 q _ (g ++ [farK ns (a + i) cc]) (m + 1) _ (X3.trans X4) (X4.keep (by rw [hg3]; exact fun z => by cases z) gn2) (X4.same _ _ hg3) hq (by have : cc.length ≤ cs.length + i := l2; have := other_le cc (farK ns (a + i) cc); omega) ?_⟩
        unfold belStep
        rw [if_pos nn]
        show (if cc.contains k = true then m else m + 1, _, _) = _
        rw [if_neg hk3]
  · rintro σ H' ⟨G', p, y1, y2, y3, rfl, X, gn, hg, hp⟩
    refine ⟨_, rfl, _, rfl, by show 2 ≤ sizeLine; decide, fun t ht => ?_⟩
    have X2 := X.tell hD gn hg
    have g2 := X2.sub.free ht
    exact post _ _ _ (X2.made ht _) ⟨t, D, rfl, upd_same, (same_upd g2) _ _ upd_same⟩
theorem sc_belady : FnScope ["capacity", "sequence"] ["capacity", "sequence"] (defScope (top 35)) := ⟨rfl, rfl, rfl, by decide +kernel, rfl, by decide +kernel, by decide +kernel⟩
theorem ok_belady (D : DF K mg "belady" (top 35) ["capacity", "sequence"] f) (c_belady_from : CallOk P w K mg base CX0 3 "belady_from" ["capacity", "sequence", "start", "cached"] spBelFrom) : FOk P w K mg base CX0 4 ["capacity", "sequence"] spBel f := by
  refine D.ok sc_belady (fun vs H Q E ⟨_, _, _, _, e, _⟩ => by rw [e]; rfl) (fun f cdv A outer s1 H vs Q E hr h => ⟨_, (pss_one (ps_ret (pe_callC c_belady_from hr (by decide) pass0 (pa_cons (pv 0) (pa_cons (pv 1) (pa_cons pe_int (pa_cons (pe_lst pa_nil) pa_nil))))))), ?_⟩)
  obtain ⟨G, s, ns, cap, rfl, sm, hs, hz, post⟩ := h
  refine ⟨_, rfl, _, rfl, by show 0 ≤ sizeLine; decide, fun p hp => ?_⟩
  have X := (Ext.refl sm).made hp (.lst [])
  exact ⟨_, s, p, ns, [], cap, 0, rfl, X.sub, X.ext _ _ hs, by omega, hz, upd_same, by show 0 ≤ 2000; omega, fun G2 H2 v X2 r => post _ _ _ (X.trans X2) r⟩
end
end Ks
/-! The offline defs, the rest. -/
namespace Ks
open PySem PySem.Spec PyProof.Rows L2
open Vakptc (nextUse insertSorted)
theorem int_le_of_nat {l : List Nat} (h : l.Pairwise (· ≤ ·)) : (l.map fun n : Nat => (n : Int)).Pairwise (· ≤ ·) := by
  rw [List.pairwise_map]
  exact h.imp fun h => by omega
/-- what sorted hands over is the sorted list -/
theorem sorted_is {cs : List Nat} {ms : List Int} (p : ms.Perm (cs.map fun n : Nat => (n : Int))) (h : ms.Pairwise (· ≤ ·)) : ms = (srt cs).map fun n : Nat => (n : Int) :=
  List.Perm.eq_of_pairwise (fun a b _ _ h1 h2 => Int.le_antisymm h1 h2) h (int_le_of_nat (srt_sorted cs)) (p.trans ((srt_perm cs).map _).symm)
theorem dp_nats {K : PySem.W.Frag} {H : Hp} : ∀ ns : List Nat, DpAll K H (ns.map vN) (ns.map fun n : Nat => PyData.int n)
  | [] => .nil
  | n :: r => .cons (.int n) (dp_nats r)
theorem can_nats : ∀ ns : List Nat, PyData.canLayAll0 (ns.map fun n : Nat => PyData.int n) = true
  | [] => by simp only [List.map_nil, PyData.canLayAll0]
  | n :: r => by simp only [List.map_cons, PyData.canLayAll0, PyData.canLay0, can_nats r, Bool.and_self]
theorem depth_nats : ∀ ns : List Nat, PyData.depthAll (ns.map fun n : Nat => PyData.int n) = 0
  | [] => by simp only [List.map_nil, PyData.depthAll]
  | n :: r => by simp only [List.map_cons, PyData.depthAll, PyData.depth, depth_nats r, Nat.max_self]
theorem shaped_nats (ns : List Nat) : SeqAt.shaped (.list (ns.map fun n : Nat => PyData.int n)) = true := by
  unfold SeqAt.shaped
  simp only [PyData.canLay0, PyData.depth, can_nats, depth_nats]
  decide
theorem eqv_nil (ns : List Nat) : PyData.eqv (.list (ns.map fun n : Nat => PyData.int n)) (.list []) = decide (ns = []) := by
  cases ns with
  | nil => simp only [List.map_nil, PyData.eqv, PyData.eqvAll]; rfl
  | cons n r => simp only [List.map_cons, PyData.eqv, PyData.eqvAll]; rfl
section
variable (K : PySem.W.Frag)
def spLeast : Sp := fun vs H Q _ => ∃ (G : Hp) (s c : Addr) (ns cs : List Nat) (cap i k : Nat), vs = [vN cap, .ref s, vN i, .ref c] ∧ Same G H ∧ NatsAt G s ns ∧ ns[i]? = some k ∧ ns.length ≤ 900 ∧ NatsAt G c cs ∧ cs ≠ [] ∧ cs.length ≤ 1000 ∧ Post G H (fun _ v => v = vN (leastV cap ns i k cs)) Q
def spOptE : Sp := fun vs H Q _ => ∃ (G : Hp) (s : Addr) (ns : List Nat) (cap : Nat), vs = [vN cap, .ref s] ∧ Same G H ∧ NatsAt G s ns ∧ ns.length ≤ 900 ∧ Post G H (fun G' v => ∃ p, v = .ref p ∧ NatsAt G' p (optE cap ns)) Q
def spReplayed : Sp := fun vs H Q _ => ∃ (G : Hp) (s e : Addr) (ns es : List Nat) (cap : Nat), vs = [vN cap, .ref s, .ref e] ∧ Same G H ∧ NatsAt G s ns ∧ ns.length ≤ 900 ∧ NatsAt G e es ∧ es.length ≤ 900 ∧
  Post G H (fun G' v => ∃ t, v = .ref t ∧ G' t = some (.tup [.bl (repF cap 0 [] 0 es ns).1, vN (repF cap 0 [] 0 es ns).2])) Q
def spPhases : Sp := fun vs H Q _ => ∃ (G : Hp) (s : Addr) (ns : List Nat) (cap : Nat), vs = [vN cap, .ref s] ∧ Same G H ∧ NatsAt G s ns ∧ ns.length ≤ 900 ∧ Post G H (fun G' v => ∃ p, v = .ref p ∧ NatsAt G' p (phIt cap ns ns.length).1) Q
end
section
variable {P : Program} {w : World} {K : PySem.W.Frag} {mg : Str → Option Value} {base : Heap} {f : Addr}
def optV : Option Nat → V
  | none => .non
  | some v => vN v
theorem optV_non {o : Option Nat} (h : optV o = .non) : o = none := by
  cases o with
  | none => rfl
  | some v => cases h
theorem least_some (g : Nat → Nat) : ∀ (l : List Nat) (b : Option Nat × Nat), (b.1 ≠ none ∨ l ≠ []) → (l.foldl (leastStep g) b).1 ≠ none
  | [], b, h => by
    rcases h with h | h
    · exact h
    · exact absurd rfl h
  | k :: l, b, _ => by
    rw [List.foldl_cons]
    refine least_some g l _ (.inl ?_)
    unfold leastStep
    split
    · exact fun z => by cases z
    · rename_i c
      exact fun z => c (.inl z)
theorem sc_least_victim : FnScope ["capacity", "sequence", "at", "cached", "best", "few", "victim", "later", "misses"] ["capacity", "sequence", "at", "cached"] (defScope (top 36)) := ⟨rfl, rfl, rfl, by decide +kernel, rfl, by decide +kernel, by decide +kernel⟩
theorem ok_least_victim (bl : Blt mg) (D : DF K mg "least_victim" (top 36) ["capacity", "sequence", "at", "cached"] f) (c_other_keys : CallOk P w K mg base CX0 1 "other_keys" ["cached", "key"] spOther) (c_belady_from : CallOk P w K mg base CX0 3 "belady_from" ["capacity", "sequence", "start", "cached"] spBelFrom) : FOk P w K mg base CX0 4 ["capacity", "sequence", "at", "cached"] spLeast f := by
  refine D.ok sc_least_victim (fun vs H Q E ⟨_, _, _, _, _, _, _, _, e, _⟩ => by rw [e]; rfl) (fun f cdv A outer s1 H vs Q E hr h => ⟨_, (pss_cons (ps_asg (pe_tup (pa_cons pe_non (pa_cons pe_int pa_nil))) (pg_tup rfl (pgs_cons (pg_name (i := 4) sc_least_victim.nd rfl (Or.inl rfl)) (pgs_cons (pg_name (i := 5) sc_least_victim.nd rfl (Or.inl rfl)) pgs_nil)))) (pss_cons (ps_for PassesOwn.never rfl (pi_list (pe_callB cr_sortedI (by rfl) bl.sorted (by decide +kernel) (pa_cons (pv 3) pa_nil))) (pg_name (i := 6) sc_least_victim.nd rfl (Or.inl rfl)) (pss_cons (ps_set (i := 7) sc_least_victim.nd rfl (Or.inl rfl) (pe_op op_cat (pe_callC c_other_keys hr (by decide) pass0 (pa_cons (pv 3) (pa_cons (pv 6) pa_nil))) (pe_lst (pa_cons (pe_ix ix_list (pv 1) (pv 2) (fun _ _ => rfl)) pa_nil)))) (pss_cons (ps_set (i := 8) sc_least_victim.nd rfl (Or.inl rfl) (pe_ix (show IxR _ (rIxT K) from ix_tup) (pe_callC c_belady_from hr (by decide) pass0 (pa_cons (pv 0) (pa_cons (pv 1) (pa_cons (pe_op op_add (pv 2) pe_int) (pa_cons (pv 7) pa_nil))))) pe_int (fun _ _ => rfl))) (pss_one (ps_if (PW.pt (pw_or (pt_cmpR op_isN (pv 4) pe_non (nomark _)) (pw_or1 (pt_cmpR op_lt (pv 8) (pv 5) (nomark _))))) (pss_one (ps_par (i := 4) (j := 5) rfl sc_least_victim.nd rfl rfl (by decide) rfl rfl (pa_cons (pv 6) (pa_cons (pv 8) pa_nil)) (by rfl))) pss_nil))))) (pss_one (ps_ret (pv 4))))), ?_⟩)
  obtain ⟨G, s, c, ns, cs, cap, i, k, rfl, sm, hs, hk, hz, hc, ne, hcz, post⟩ := h
  have hi := lt_of_get hk
  refine ⟨by show 2 ≤ sizeLine; decide, fun t0 ht0 => ⟨t0, _, rfl, .inl (.inl upd_same), rfl, _, _, rfl, _, _, rfl, rfl, ?_⟩⟩
  have X0 := (Ext.refl sm).hid ht0 (.tup [.non, .int 0])
  generalize upd H t0 (.tup [.non, .int 0]) = H0 at X0 ⊢
  refine ⟨_, rfl, c, _, rfl, ints_seq (X0.sub _ _ hc), fun ms p pm so hp => ?_⟩
  rw [sorted_is pm so]
  have hsq : upd H0 p (.lst (((srt cs).map fun n : Nat => (n : Int)).map V.int)) p = some (.lst ((srt cs).map vN)) := by
    rw [upd_same, List.map_map]
    rfl
  have X1 := X0.hid hp (.lst (((srt cs).map fun n : Nat => (n : Int)).map V.int))
  generalize upd H0 p (.lst (((srt cs).map fun n : Nat => (n : Int)).map V.int)) = H1 at hsq X1 ⊢
  refine ⟨p, rfl, ⟨_, NatsAt.seq hsq⟩, for_list (K := K) (a := p) (xs := (srt cs).map vN) (fun t σ H' => ∃ G' y1 y2 y3, σ = [some (vN cap), some (.ref s), some (vN i), some (.ref c), some (optV (((srt cs).take t).foldl (leastStep (leastCost cap ns i k cs)) (none, 0)).1),
      some (vN (((srt cs).take t).foldl (leastStep (leastCost cap ns i k cs)) (none, 0)).2), y1, y2, y3] ∧ Ext G H G' H' ∧ Same H1 H') ⟨G, none, none, none, rfl, X1, .refl _⟩ (fun t σ H' _ ⟨G', y1, y2, y3, _, X, S⟩ => NatsAt.seq (S _ _ hsq)) ?_ ?_⟩
  · rintro t x σ H' hx ⟨G', y1, y2, y3, rfl, X, S⟩
    obtain ⟨v, hv, rfl⟩ := nat_item hx
    rw [take_snoc hv, List.foldl_append]
    generalize ((srt cs).take t).foldl (leastStep (leastCost cap ns i k cs)) (none, 0) = st
    obtain ⟨b, few⟩ := st
    refine ⟨_, rfl, _, rfl, G', c, cs, v, rfl, X.sub, X.ext _ _ hc, by omega, fun G2 H2 u X2 r => ?_⟩
    obtain ⟨q, rfl, hq⟩ := r
    have hs2 := (X.trans X2).sub _ _ ((X.trans X2).ext _ _ hs)
    refine ⟨_, rfl, _, rfl, s, _, _, vN k, rfl, rfl, NatsAt.seq hs2, atI_nat (item_nat hk), by show 1 ≤ sizeLine; decide, fun p2 hp2 => ?_⟩
    have hq2 := X2.sub _ _ hq
    have nqp : q ≠ p2 := ne_of_none hq2 hp2
    refine ⟨q, p2, _, _, rfl, rfl, by rw [upd_ne nqp]; exact hq2, upd_same, size_le (by rw [List.length_map]; have := other_le cs v; show (other cs v).length + 1 ≤ _; omega), fun l hl => ?_⟩
    have X3 := (X.trans X2).hid hp2 (.lst [vN k])
    have X4 := X3.made hl (.lst ((other cs v).map vN ++ [vN k]))
    have g3 := X3.sub.free hl
    have hl4 : NatsAt (upd G2 l (.lst ((other cs v).map vN ++ [vN k]))) l (other cs v ++ [k]) := by
      show upd G2 l _ l = _
      rw [upd_same, List.map_append]
      rfl
    refine ⟨_, rfl, _, rfl, _, rfl, _, _, rfl, rfl, _, rfl, _, s, l, ns, _, cap, i + 1, rfl, X4.sub, X4.ext _ _ hs, by omega, hz, hl4, by rw [List.length_append]; have := other_le cs v; show (other cs v).length + 1 ≤ _; omega, fun G5 H5 u X5 r => ?_⟩
    obtain ⟨tp, gp, rfl, htp, _⟩ := r
    have SS : Same H1 H5 := S.trans (X2.same.trans ((same_upd hp2).trans ((same_upd hl).trans X5.same)))
    refine ⟨tp, _, 0, _, rfl, rfl, .inl (.inl (X5.sub _ _ htp)), rfl, ?_⟩
    have ecost : (bel cap ns (i + 1) (other cs v ++ [k])).1 = leastCost cap ns i k cs v := rfl
    rw [ecost]
    refine ⟨_, rfl, rfl, _, rfl, ?_⟩
    have yes : (b = none ∨ leastCost cap ns i k cs v < few) → [v].foldl (leastStep (leastCost cap ns i k cs)) (b, few) = (some v, leastCost cap ns i k cs v) := fun q => if_pos q
    have no : ¬ (b = none ∨ leastCost cap ns i k cs v < few) → [v].foldl (leastStep (leastCost cap ns i k cs)) (b, few) = (b, few) := fun q => if_neg q
    refine ifd (fun c1 => ?_) (fun c1 => ?_)
    · refine iteT ⟨_, rfl, _, rfl, _, _, rfl, G5, some (vN v), some (.ref l), some (vN (leastCost cap ns i k cs v)), ?_, X4.trans X5, SS⟩
      rw [yes (.inl (optV_non c1))]
      rfl
    · refine ⟨_, rfl, _, rfl, _, _, rfl, rfl, _, rfl, ?_⟩
      have nb : b ≠ none := fun e => c1 (by rw [e]; rfl)
      refine ifd (fun c2 => ?_) (fun c2 => ?_)
      · refine ⟨_, rfl, _, rfl, _, _, rfl, G5, some (vN v), some (.ref l), some (vN (leastCost cap ns i k cs v)), ?_, X4.trans X5, SS⟩
        rw [yes (.inr (by omega))]
        rfl
      · refine ⟨G5, some (vN v), some (.ref l), some (vN (leastCost cap ns i k cs v)), ?_, X4.trans X5, SS⟩
        rw [no (fun q => by rcases q with q | q; exact nb q; omega)]
        rfl
  · rintro σ H' ⟨G', y1, y2, y3, rfl, X, _⟩
    rw [List.length_map, List.take_length]
    refine ⟨_, rfl, post _ _ _ X ?_⟩
    unfold leastV
    have nn := least_some (leastCost cap ns i k cs) (srt cs) (none, 0) (.inr fun e => ne ((srt_perm cs).symm.trans (by rw [e])).eq_nil)
    generalize (srt cs).foldl (leastStep (leastCost cap ns i k cs)) (none, 0) = st at nn ⊢
    obtain ⟨b, few⟩ := st
    cases b with
    | none => exact absurd rfl nn
    | some v => rfl
theorem sc_optimal_evictions : FnScope ["capacity", "sequence", "cached", "gone", "at", "key", "victim"] ["capacity", "sequence"] (defScope (top 37)) := ⟨rfl, rfl, rfl, by decide +kernel, rfl, by decide +kernel, by decide +kernel⟩
theorem ok_optimal_evictions (bl : Blt mg) (D : DF K mg "optimal_evictions" (top 37) ["capacity", "sequence"] f) (c_needs_room : CallOk P w K mg base CX0 1 "needs_room" ["capacity", "cached", "key"] spNeeds) (c_least_victim : CallOk P w K mg base CX0 4 "least_victim" ["capacity", "sequence", "at", "cached"] spLeast)
    (c_other_keys : CallOk P w K mg base CX0 1 "other_keys" ["cached", "key"] spOther) (c_with_key : CallOk P w K mg base CX0 1 "with_key" ["capacity", "cached", "key"] spWithKey) : FOk P w K mg base CX0 5 ["capacity", "sequence"] spOptE f := by
  refine D.ok sc_optimal_evictions (fun vs H Q E ⟨_, _, _, _, e, _⟩ => by rw [e]; rfl) (fun f cdv A outer s1 H vs Q E hr h => ⟨_, (pss_cons (ps_par (i := 2) (j := 3) rfl sc_optimal_evictions.nd rfl rfl (by decide) rfl rfl (pa_cons (pe_lst pa_nil) (pa_cons (pe_lst pa_nil) pa_nil)) (by rfl)) (pss_cons (ps_for PassesOwn.never rfl (pi_enum (by rfl) bl.enumerate (pa_cons (pv 1) pa_nil)) (pg_tup rfl (pgs_cons (pg_name (i := 4) sc_optimal_evictions.nd rfl (Or.inl rfl)) (pgs_cons (pg_name (i := 5) sc_optimal_evictions.nd rfl (Or.inl rfl)) pgs_nil))) (pss_cons (ps_if (pt_val (pe_callC c_needs_room hr (by decide) pass0 (pa_cons (pv 0) (pa_cons (pv 2) (pa_cons (pv 5) pa_nil))))) (pss_cons (ps_set (i := 6) sc_optimal_evictions.nd rfl (Or.inl rfl) (pe_callC c_least_victim hr (by decide) pass0 (pa_cons (pv 0) (pa_cons (pv 1) (pa_cons (pv 4) (pa_cons (pv 2) pa_nil)))))) (pss_cons (ps_expr (pe_bm PySem.F.plainAttrs_list PySem.F.slot_list_append PySem.F.type_list_append mt_append (pv 3) (pa_cons (pv 6) pa_nil))) (pss_one (ps_set (i := 2) sc_optimal_evictions.nd rfl (Or.inl rfl) (pe_callC c_other_keys hr (by decide) pass0 (pa_cons (pv 2) (pa_cons (pv 6) pa_nil))))))) pss_nil) (pss_one (ps_set (i := 2) sc_optimal_evictions.nd rfl (Or.inl rfl) (pe_callC c_with_key hr (by decide) pass0 (pa_cons (pv 0) (pa_cons (pv 2) (pa_cons (pv 5) pa_nil)))))))) (pss_one (ps_ret (pv 3))))), ?_⟩)
  obtain ⟨G, s, ns, cap, rfl, sm, hs, hz, post⟩ := h
  refine ⟨by show 0 ≤ sizeLine; decide, fun p0 hp0 => ⟨by show 0 ≤ sizeLine; decide, fun D hD => ⟨_, _, rfl, ?_⟩⟩⟩
  have X0 := (Ext.refl sm).made hp0 (.lst [])
  have h0D : H D = none := X0.same.free hD
  have g0D := X0.sub.free hD
  refine ⟨_, rfl, s, _, rfl, NatsAt.seq (same_upd hD _ _ (same_upd hp0 _ _ (sm _ _ hs))), for_enum (K := K) (a := s) (xs := ns.map vN) (fun i σ H' => ∃ G' p y1 y2 y3, σ = [some (vN cap), some (.ref s), some (.ref p), some (.ref D), y1, y2, y3] ∧ Ext G H G' H' ∧ G' D = none ∧
      H' D = some (.lst ((optIt cap ns i).1.map vN)) ∧ NatsAt G' p (optIt cap ns i).2)
    ⟨_, p0, none, none, none, rfl, X0.put h0D g0D _, g0D, upd_same, upd_same⟩ (fun i σ H' _ ⟨G', p, y1, y2, y3, _, X, _⟩ => NatsAt.seq (X.same _ _ (sm _ _ hs))) ?_ ?_⟩
  · rintro i x σ H' Tp hx ⟨G', p, y1, y2, y3, rfl, X, gn, hg, hp⟩ hT
    obtain ⟨k, hk, rfl⟩ := nat_item hx
    have hi := lt_of_get hk
    obtain ⟨l1, l2⟩ := optIt_len cap ns i
    have est : optIt cap ns (i + 1) = optStep cap ns i (ns.getD i 0) (optIt cap ns i) := rfl
    rw [est, getD_of hk]
    generalize optIt cap ns i = st at l1 l2 hg hp ⊢
    obtain ⟨g, cc⟩ := st
    have Xt := X.hid hT (.tup [.int (i : Nat), vN k])
    have hgt : upd H' Tp (.tup [.int (i : Nat), vN k]) D = some (.lst (g.map vN)) := same_upd hT _ _ hg
    refine ⟨Tp, _, rfl, .inl (.inl upd_same), rfl, _, _, rfl, _, _, rfl, rfl, ?_⟩
    generalize upd H' Tp (.tup [.int (i : Nat), vN k]) = Ht at Xt hgt ⊢
    have tail : ∀ (G3 H3 : Hp) (p3 : Addr) (c3 g3 : List Nat) (y : Option V), Ext G H G3 H3 → G3 D = none → H3 D = some (.lst (g3.map vN)) → NatsAt G3 p3 c3 → c3.length ≤ 5000 → optStep cap ns i k (g, cc) = (g3, withKey cap c3 k) →
        spWithKey [vN cap, .ref p3, vN k] H3 (fun x H1 => ∃ G' p y1 y2 y3, ([some (vN cap), some (.ref s), some (.ref p3), some (.ref D), some (vN i), some (vN k), y] : List (Option V)).set 2 (some x) = [some (vN cap), some (.ref s), some (.ref p), some (.ref D), y1, y2, y3] ∧ Ext G H G' H1 ∧ G' D = none ∧
          H1 D = some (.lst ((optStep cap ns i k (g, cc)).1.map vN)) ∧ NatsAt G' p (optStep cap ns i k (g, cc)).2) E0 := by
      intro G3 H3 p3 c3 g3 y X3 gn3 hg3 hp3 hl3 e
      refine ⟨G3, p3, c3, cap, k, rfl, X3.sub, hp3, hl3, fun G4 H4 v X4 r => ?_⟩
      obtain ⟨q, rfl, hq⟩ := r
      rw [e]
      exact ⟨G4, q, _, _, _, rfl, X3.trans X4, X4.keep (by rw [hg3]; exact fun z => by cases z) gn3, X4.same _ _ hg3, hq⟩
    have lc : cc.length ≤ i := l2
    have lg : g.length ≤ i := l1
    refine ⟨_, rfl, _, rfl, _, rfl, p, cc, cap, k, rfl, Xt.sub _ _ hp, _, rfl, ?_⟩
    cases nn : needs cap cc k with
    | false =>
      refine iteF ?_
      refine ⟨_, rfl, _, rfl, _, rfl, tail G' Ht p cc g _ Xt gn hgt hp (by omega) ?_⟩
      unfold optStep
      rw [if_neg (show ¬ needs cap cc k = true by rw [nn]; exact Bool.false_ne_true)]
    | true =>
      refine iteT ?_
      obtain ⟨z, _, fl⟩ := needs_t.mp nn
      refine ⟨_, rfl, _, rfl, _, rfl, _, rfl, G', s, p, ns, cc, cap, i, k, rfl, Xt.sub, X.ext _ _ hs, hk, hz, hp, ne_nil z fl, by omega, fun G2 H2 v X2 r => ?_⟩
      subst r
      have gn2 := X2.keep (by rw [hgt]; exact fun z => by cases z) gn
      have hg2 := X2.same _ _ hgt
      refine ⟨_, rfl, .inl ⟨rfl, _, .inl (.inl hg2)⟩, _, rfl, D, _, _, rfl, rfl, hg2, size_small (by rw [List.length_map]; omega), ?_⟩
      have X3 := (Xt.trans X2).put h0D gn2 (.lst (g.map vN ++ [vN (leastV cap ns i k cc)]))
      refine ⟨_, rfl, _, rfl, G2, p, cc, _, rfl, X3.sub, X2.ext _ _ hp, by omega, fun G4 H4 v X4 r => ?_⟩
      obtain ⟨q, rfl, hq⟩ := r
      have hg3 : upd H2 D (.lst (g.map vN ++ [vN (leastV cap ns i k cc)])) D = some (.lst ((g ++ [leastV cap ns i k cc]).map vN)) := by
        rw [upd_same, List.map_append]
        rfl
      refine ⟨_, rfl, _, rfl, _, rfl, tail G4 H4 q _ (g ++ [leastV cap ns i k cc]) _ (X3.trans X4) (X4.keep (by rw [hg3]; exact fun z => by cases z) gn2) (X4.same _ _ hg3) hq (by have := other_le cc (leastV cap ns i k cc); omega) ?_⟩
      unfold optStep
      rw [if_pos nn]
  · rintro σ H' ⟨G', p, y1, y2, y3, rfl, X, gn, hg, hp⟩
    rw [List.length_map] at hg
    exact ⟨_, rfl, post _ _ _ (X.tell h0D gn hg) ⟨D, rfl, upd_same⟩⟩
theorem repF_stop {cap i : Nat} {c : List Nat} {m k : Nat} {es r : List Nat} (n : needs cap c k = true) (h : es = [] ∨ ∃ e l, es = e :: l ∧ c.contains e = false) : repF cap i c m es (k :: r) = (false, i) := by
  rw [rp_cons, if_pos n]
  rcases h with h | ⟨e, l, h, h2⟩
  · subst h
    rfl
  · subst h
    show (if c.contains e = true then _ else _) = _
    rw [if_neg (by rw [h2]; exact Bool.false_ne_true)]
theorem sc_replayed : FnScope ["capacity", "sequence", "evictions", "cached", "misses", "done", "at", "key"] ["capacity", "sequence", "evictions"] (defScope (top 38)) := ⟨rfl, rfl, rfl, by decide +kernel, rfl, by decide +kernel, by decide +kernel⟩
theorem ok_replayed (bl : Blt mg) (D : DF K mg "replayed" (top 38) ["capacity", "sequence", "evictions"] f) (c_needs_room : CallOk P w K mg base CX0 1 "needs_room" ["capacity", "cached", "key"] spNeeds) (c_other_keys : CallOk P w K mg base CX0 1 "other_keys" ["cached", "key"] spOther)
    (c_with_key : CallOk P w K mg base CX0 1 "with_key" ["capacity", "cached", "key"] spWithKey) : FOk P w K mg base CX0 2 ["capacity", "sequence", "evictions"] spReplayed f := by
  refine D.ok sc_replayed (fun vs H Q E ⟨_, _, _, _, _, _, e, _⟩ => by rw [e]; rfl) (fun f cdv A outer s1 H vs Q E hr h => ⟨_, (pss_cons (ps_par3 (i := 3) (j := 4) (l := 5) rfl sc_replayed.nd rfl rfl rfl (by decide) (by decide) (by decide) rfl rfl rfl (pa_cons (pe_lst pa_nil) (pa_cons pe_int (pa_cons pe_int pa_nil))) (by rfl)) (pss_cons (ps_for PassesOwn.never rfl (pi_enum (by rfl) bl.enumerate (pa_cons (pv 1) pa_nil)) (pg_tup rfl (pgs_cons (pg_name (i := 6) sc_replayed.nd rfl (Or.inl rfl)) (pgs_cons (pg_name (i := 7) sc_replayed.nd rfl (Or.inl rfl)) pgs_nil))) (pss_cons (ps_if (pt_cmpR op_notIn_seq (pv 7) (pv 3) (by rfl)) (pss_one (ps_aug (i := 4) sc_replayed.nd rfl (Or.inl rfl) pe_int ip_add)) pss_nil) (pss_cons (ps_if (pt_val (pe_callC c_needs_room hr (by decide) pass0 (pa_cons (pv 0) (pa_cons (pv 3) (pa_cons (pv 7) pa_nil))))) (pss_cons (ps_if (PW.pt (pw_or (pt_cmpR op_eq (pv 5) (pe_callB call_len_seq (by rfl) bl.len (by decide +kernel) (pa_cons (pv 2) pa_nil)) (nomark _)) (pw_or1 (pt_cmpR op_notIn_seq (pe_ix ix_list (pv 2) (pv 5) (fun _ _ => rfl)) (pv 3) (by rfl))))) (pss_one (ps_ret (pe_tup (pa_cons pe_bl (pa_cons (pv 6) pa_nil))))) pss_nil) (pss_cons (ps_set (i := 3) sc_replayed.nd rfl (Or.inl rfl) (pe_callC c_other_keys hr (by decide) pass0 (pa_cons (pv 3) (pa_cons (pe_ix ix_list (pv 2) (pv 5) (fun _ _ => rfl)) pa_nil)))) (pss_one (ps_aug (i := 5) sc_replayed.nd rfl (Or.inl rfl) pe_int ip_add)))) pss_nil) (pss_one (ps_set (i := 3) sc_replayed.nd rfl (Or.inl rfl) (pe_callC c_with_key hr (by decide) pass0 (pa_cons (pv 0) (pa_cons (pv 3) (pa_cons (pv 7) pa_nil))))))))) (pss_cons (ps_if (pt_cmpR op_lt (pv 5) (pe_callB call_len_seq (by rfl) bl.len (by decide +kernel) (pa_cons (pv 2) pa_nil)) (nomark _)) (pss_one (ps_ret (pe_tup (pa_cons pe_bl (pa_cons (pe_callB call_len_seq (by rfl) bl.len (by decide +kernel) (pa_cons (pv 1) pa_nil)) pa_nil))))) pss_nil) (pss_one (ps_ret (pe_tup (pa_cons pe_bl (pa_cons (pv 4) pa_nil)))))))), ?_⟩)
  obtain ⟨G, s, e, ns, es, cap, rfl, sm, hs, hz, he, hez, post⟩ := h
  refine ⟨by show 0 ≤ sizeLine; decide, fun p0 hp0 => ⟨_, _, _, rfl, ?_⟩⟩
  have X0 := (Ext.refl sm).made hp0 (.lst [])
  refine ⟨_, rfl, s, _, rfl, NatsAt.seq (X0.same _ _ (sm _ _ hs)), for_enum (K := K) (a := s) (xs := ns.map vN) (fun i σ H' => ∃ G' p cc m d y1 y2, σ = [some (vN cap), some (.ref s), some (.ref e), some (.ref p), some (vN m), some (vN d), y1, y2] ∧ Ext G H G' H' ∧ NatsAt G' p cc ∧ cc.length ≤ i ∧ d ≤ es.length ∧
      repF cap i cc m (es.drop d) (ns.drop i) = repF cap 0 [] 0 es ns)
    ⟨_, p0, [], 0, 0, none, none, rfl, X0, upd_same, Nat.le_refl _, Nat.zero_le _, rfl⟩ (fun i σ H' _ ⟨G', p, cc, m, d, y1, y2, _, X, _⟩ => NatsAt.seq (X.same _ _ (sm _ _ hs))) ?_ ?_⟩
  · rintro i x σ H' Tp hx ⟨G', p, cc, m, d, y1, y2, rfl, X, hp, lc, ld, eq⟩ hT
    obtain ⟨k, hk, rfl⟩ := nat_item hx
    have hi := lt_of_get hk
    rw [drop_of hk] at eq
    have Xt := X.hid hT (.tup [.int (i : Nat), vN k])
    refine ⟨Tp, _, rfl, .inl (.inl upd_same), rfl, _, _, rfl, _, _, rfl, rfl, ?_⟩
    generalize upd H' Tp (.tup [.int (i : Nat), vN k]) = Ht at Xt ⊢
    have hpt := Xt.sub _ _ hp
    have het := Xt.same _ _ (sm _ _ he)
    have tail : ∀ (G3 H3 : Hp) (p3 : Addr) (c3 : List Nat) (m3 d3 : Nat), Ext G H G3 H3 → NatsAt G3 p3 c3 → c3.length ≤ i → d3 ≤ es.length → repF cap (i + 1) (withKey cap c3 k) m3 (es.drop d3) (ns.drop (i + 1)) = repF cap 0 [] 0 es ns →
        spWithKey [vN cap, .ref p3, vN k] H3 (fun x H1 => ∃ G' p cc m d y1 y2, ([some (vN cap), some (.ref s), some (.ref e), some (.ref p3), some (vN m3), some (vN d3), some (vN i), some (vN k)] : List (Option V)).set 3 (some x) = [some (vN cap), some (.ref s), some (.ref e), some (.ref p), some (vN m), some (vN d), y1, y2] ∧ Ext G H G' H1 ∧ NatsAt G' p cc ∧ cc.length ≤ i + 1 ∧ d ≤ es.length ∧
          repF cap (i + 1) cc m (es.drop d) (ns.drop (i + 1)) = repF cap 0 [] 0 es ns) E0 := by
      intro G3 H3 p3 c3 m3 d3 X3 hp3 hl3 hd3 e3
      refine ⟨G3, p3, c3, cap, k, rfl, X3.sub, hp3, by omega, fun G4 H4 v X4 r => ?_⟩
      obtain ⟨q, rfl, hq⟩ := r
      exact ⟨G4, q, _, m3, d3, _, _, rfl, X3.trans X4, hq, by have := withKey_len cap c3 k; omega, hd3, e3⟩
    -- behind the first if
    have rest : ∀ (bk ct : List (Option V) → Hp → Prop) (m3 : Nat), m3 = (if cc.contains k = true then m else m + 1) →
        (tIfS (tB (tCl spNeeds E0 (tCons (tVar 0) (tCons (tVar 3) (tCons (tVar 7) tNil)))))
          (tSeq (tIfS (tOr (tTest (tOp rEq (tVar 5) (tCB (fun xs H Q => ∃ p ys, xs = [V.ref p] ∧ (SqL K H p ys ∨ SqT K H p ys) ∧ Q (.int ys.length) H) (tCons (tVar 2) tNil)))) (tTest (tOp (rIn K true) (tOp (rIxL K) (tVar 2) (tVar 5)) (tVar 3))))
            (tRet (tTup (tCons (tC (.bl false)) (tCons (tVar 6) tNil)))) tNext)
          (tSeq (tAsg (tCl spOther E0 (tCons (tVar 3) (tCons (tOp (rIxL K) (tVar 2) (tVar 5)) tNil))) (gName 3)) (tAug 5 (tC (.int 1)) (ipI fun i j => i + j)))) tNext)
        (Ends.mk ((tAsg (tCl spWithKey E0 (tCons (tVar 0) (tCons (tVar 3) (tCons (tVar 7) tNil)))) (gName 3)) (Ends.mk (fun σ H1 => ∃ G' p cc m d y1 y2, σ = [some (vN cap), some (.ref s), some (.ref e), some (.ref p), some (vN m), some (vN d), y1, y2] ∧ Ext G H G' H1 ∧ NatsAt G' p cc ∧ cc.length ≤ i + 1 ∧ d ≤ es.length ∧
            repF cap (i + 1) cc m (es.drop d) (ns.drop (i + 1)) = repF cap 0 [] 0 es ns) Q bk ct)) Q bk ct) [some (vN cap), some (.ref s), some (.ref e), some (.ref p), some (vN m3), some (vN d), some (vN i), some (vN k)] Ht := by
      intro bk ct m3 em
      refine ⟨_, rfl, _, rfl, _, rfl, p, cc, cap, k, rfl, hpt, _, rfl, ?_⟩
      cases nn : needs cap cc k with
      | false =>
        refine iteF ?_
        refine ⟨_, rfl, _, rfl, _, rfl, tail G' Ht p cc m3 d Xt hp lc ld ?_⟩
        rw [rp_cons, if_neg (show ¬ needs cap cc k = true by rw [nn]; exact Bool.false_ne_true)] at eq
        rw [em]
        exact eq
      | true =>
        refine iteT ?_
        have stop : (es.drop d = [] ∨ ∃ e l, es.drop d = e :: l ∧ cc.contains e = false) → tTup (tCons (tC (.bl false)) (tCons (tVar 6) tNil)) [some (vN cap), some (.ref s), some (.ref e), some (.ref p), some (vN m3), some (vN d), some (vN i), some (vN k)] Ht Q := by
          intro q
          rw [repF_stop nn q] at eq
          refine ⟨_, rfl, by show 2 ≤ sizeLine; decide, fun t ht => post _ _ _ (Xt.made ht _) ⟨t, rfl, ?_⟩⟩
          rw [← eq]
          exact upd_same
        refine ⟨_, rfl, _, rfl, e, _, rfl, .inl (NatsAt.seq het), rfl, _, rfl, ?_⟩
        refine ifd (fun c1 => ?_) (fun c1 => ?_)
        · refine iteT (stop (.inl ?_))
          have : (d : Int) = ((es.map vN).length : Int) := v_inj c1
          rw [List.length_map] at this
          exact List.drop_eq_nil_of_le (by omega)
        · have hd : d < es.length := by
            have : ¬ d = es.length := fun z => c1 (by rw [List.length_map, z])
            omega
          obtain ⟨x, hx⟩ : ∃ x, es[d]? = some x := ⟨es[d], List.getElem?_eq_getElem hd⟩
          have hdr := drop_of hx
          refine ⟨_, rfl, _, rfl, e, _, _, vN x, rfl, rfl, NatsAt.seq het, atI_nat (item_nat hx), _, rfl, p, _, rfl, .inl (NatsAt.seq hpt), rfl, flat_nats _, _, rfl, ?_⟩
          show if (!inV (vN x) (cc.map vN)) = true then _ else _
          rw [inV_nats]
          cases hin : cc.contains x with
          | false => exact iteT (stop (.inr ⟨x, _, hdr, hin⟩))
          | true =>
            refine iteF ?_
            refine ⟨_, rfl, _, rfl, _, rfl, e, _, _, vN x, rfl, rfl, NatsAt.seq het, atI_nat (item_nat hx), G', p, cc, x, rfl, Xt.sub, hp, by omega, fun G2 H2 v X2 r => ?_⟩
            obtain ⟨q, rfl, hq⟩ := r
            refine ⟨_, rfl, _, _, rfl, rfl, ?_⟩
            have hm : x ∈ cc := List.contains_iff_mem.mp hin
            refine ⟨_, rfl, _, rfl, _, rfl, tail G2 H2 q (other cc x) m3 (d + 1) (Xt.trans X2) hq (by have := other_le cc x; omega) (by omega) ?_⟩
            rw [rp_cons, if_pos nn, hdr] at eq
            have eq' : (if cc.contains x = true then repF cap (i + 1) (withKey cap (other cc x) k) (if cc.contains k = true then m else m + 1) (es.drop (d + 1)) (ns.drop (i + 1)) else (false, i)) = repF cap 0 [] 0 es ns := eq
            rw [if_pos hin] at eq'
            rw [em]
            exact eq'
    refine ⟨_, rfl, _, rfl, p, _, rfl, .inl (NatsAt.seq hpt), rfl, flat_nats _, _, rfl, ?_⟩
    show if (!inV (vN k) (cc.map vN)) = true then _ else _
    rw [inV_nats]
    cases hk2 : cc.contains k with
    | true =>
      refine iteF ?_
      exact rest _ _ m (by rw [if_pos hk2])
    | false =>
      refine iteT ?_
      refine ⟨_, rfl, _, _, rfl, rfl, ?_⟩
      exact rest _ _ (m + 1) (by rw [if_neg (by rw [hk2]; exact Bool.false_ne_true)])
  · rintro σ H' ⟨G', p, cc, m, d, y1, y2, rfl, X, hp, lc, ld, eq⟩
    rw [List.length_map, List.drop_length, repF] at eq
    have het := X.same _ _ (sm _ _ he)
    refine ⟨_, rfl, _, rfl, e, _, rfl, .inl (NatsAt.seq het), _, _, rfl, rfl, _, rfl, ?_⟩
    refine ifd (fun c => ?_) (fun c => ?_)
    · rw [List.length_map] at c
      rw [if_neg (fun z => by have := List.drop_eq_nil_iff.mp z; omega)] at eq
      have hst := X.same _ _ (sm _ _ hs)
      refine ⟨_, rfl, s, _, rfl, .inl (NatsAt.seq hst), by show 2 ≤ sizeLine; decide, fun t ht => post _ _ _ (X.made ht _) ⟨t, rfl, ?_⟩⟩
      rw [← eq, upd_same, List.length_map]
    · rw [List.length_map] at c
      rw [if_pos (List.drop_eq_nil_of_le (by omega))] at eq
      refine ⟨_, rfl, by show 2 ≤ sizeLine; decide, fun t ht => post _ _ _ (X.made ht _) ⟨t, rfl, ?_⟩⟩
      rw [← eq]
      exact upd_same
theorem phIt_len (cap : Nat) (s : List Nat) : ∀ n, (phIt cap s n).1.length ≤ n ∧ (phIt cap s n).2.length ≤ n
  | 0 => ⟨Nat.le_refl _, Nat.le_refl _⟩
  | n + 1 => by
    obtain ⟨h1, h2⟩ := phIt_len cap s n
    show (phStep _ _ _ _).1.length ≤ _ ∧ (phStep _ _ _ _).2.length ≤ _
    unfold phStep
    split
    · refine ⟨?_, by show 1 ≤ n + 1; omega⟩
      show (_ ++ [_]).length ≤ _
      rw [List.length_append, List.length_singleton]
      omega
    · split
      · refine ⟨by show (phIt cap s n).1.length ≤ _; omega, ?_⟩
        show (_ ++ [_]).length ≤ _
        rw [List.length_append, List.length_singleton]
        omega
      · exact ⟨by omega, by omega⟩
theorem sc_phase_starts : FnScope ["capacity", "sequence", "starts", "met", "at", "key"] ["capacity", "sequence"] (defScope (top 39)) := ⟨rfl, rfl, rfl, by decide +kernel, rfl, by decide +kernel, by decide +kernel⟩
theorem ok_phase_starts (bl : Blt mg) (D : DF K mg "phase_starts" (top 39) ["capacity", "sequence"] f) : FOk P w K mg base CX0 1 ["capacity", "sequence"] spPhases f := by
  refine D.ok sc_phase_starts (fun vs H Q E ⟨_, _, _, _, e, _⟩ => by rw [e]; rfl) (fun f cdv A outer s1 H vs Q E hr h => ⟨_, (pss_cons (ps_par (i := 2) (j := 3) rfl sc_phase_starts.nd rfl rfl (by decide) rfl rfl (pa_cons (pe_lst pa_nil) (pa_cons (pe_lst pa_nil) pa_nil)) (by rfl)) (pss_cons (ps_for PassesOwn.never rfl (pi_enum (by rfl) bl.enumerate (pa_cons (pv 1) pa_nil)) (pg_tup rfl (pgs_cons (pg_name (i := 4) sc_phase_starts.nd rfl (Or.inl rfl)) (pgs_cons (pg_name (i := 5) sc_phase_starts.nd rfl (Or.inl rfl)) pgs_nil))) (pss_one (ps_if (PW.pt (pw_or (pt_cmpR (op_eqD hr.units) (pv 2) (pe_lst pa_nil) (nomark _)) (pw_or1 (PW.pt (pw_and (pt_cmpR op_notIn_seq (pv 5) (pv 3) (by rfl)) (pw_and1 (pt_cmpR op_eq (pe_callB call_len_seq (by rfl) bl.len (by decide +kernel) (pa_cons (pv 3) pa_nil)) (pv 0) (nomark _)))))))) (pss_cons (ps_expr (pe_bm PySem.F.plainAttrs_list PySem.F.slot_list_append PySem.F.type_list_append mt_append (pv 2) (pa_cons (pv 4) pa_nil))) (pss_one (ps_set (i := 3) sc_phase_starts.nd rfl (Or.inl rfl) (pe_lst (pa_cons (pv 5) pa_nil))))) (pss_one (ps_if (pt_cmpR op_notIn_seq (pv 5) (pv 3) (by rfl)) (pss_one (ps_expr (pe_bm PySem.F.plainAttrs_list PySem.F.slot_list_append PySem.F.type_list_append mt_append (pv 3) (pa_cons (pv 5) pa_nil)))) pss_nil))))) (pss_one (ps_ret (pv 2))))), ?_⟩)
  obtain ⟨G, s, ns, cap, rfl, sm, hs, hz, post⟩ := h
  refine ⟨by show 0 ≤ sizeLine; decide, fun D hD => ⟨by show 0 ≤ sizeLine; decide, fun p0 hp0 => ⟨_, _, rfl, ?_⟩⟩⟩
  have gD : G D = none := sm.free hD
  have X0 := (Ext.refl sm).put hD gD (.lst [])
  have hDp : D ≠ p0 := ne_of_none (upd_same (H := H)) hp0
  refine ⟨_, rfl, s, _, rfl, NatsAt.seq (same_upd hp0 _ _ (same_upd hD _ _ (sm _ _ hs))), for_enum (K := K) (a := s) (xs := ns.map vN) (fun i σ H' => ∃ p y1 y2, σ = [some (vN cap), some (.ref s), some (.ref D), some (.ref p), y1, y2] ∧ Ext G H G H' ∧ H p = none ∧ G p = none ∧ D ≠ p ∧
      H' D = some (.lst ((phIt cap ns i).1.map vN)) ∧ H' p = some (.lst ((phIt cap ns i).2.map vN)))
    ⟨p0, none, none, rfl, X0.hid hp0 _, X0.same.free hp0, X0.sub.free hp0, hDp, by rw [upd_ne hDp, upd_same]; rfl, upd_same⟩ (fun i σ H' _ ⟨p, y1, y2, _, X, _⟩ => NatsAt.seq (X.same _ _ (sm _ _ hs))) ?_ ?_⟩
  · rintro i x σ H' Tp hx ⟨p, y1, y2, rfl, X, hp, gp, hDp, hg, hm⟩ hT
    obtain ⟨k, hk, rfl⟩ := nat_item hx
    have hi := lt_of_get hk
    obtain ⟨l1, l2⟩ := phIt_len cap ns i
    have est : phIt cap ns (i + 1) = phStep cap i (ns.getD i 0) (phIt cap ns i) := rfl
    rw [est, getD_of hk]
    generalize phIt cap ns i = st at l1 l2 hg hm ⊢
    obtain ⟨g, mt⟩ := st
    have lg : g.length ≤ i := l1
    have lm : mt.length ≤ i := l2
    have Xt := X.hid hT (.tup [.int (i : Nat), vN k])
    have hgt : upd H' Tp (.tup [.int (i : Nat), vN k]) D = some (.lst (g.map vN)) := same_upd hT _ _ hg
    have hmt : upd H' Tp (.tup [.int (i : Nat), vN k]) p = some (.lst (mt.map vN)) := same_upd hT _ _ hm
    refine ⟨Tp, _, rfl, .inl (.inl upd_same), rfl, _, _, rfl, _, _, rfl, rfl, ?_⟩
    generalize upd H' Tp (.tup [.int (i : Nat), vN k]) = Ht at Xt hgt hmt ⊢
    -- a new phase
    have new : ∀ (bk ct : List (Option V) → Hp → Prop) (H3 : Hp), Ext G H G H3 → H3 D = some (.lst (g.map vN)) → phStep cap i k (g, mt) = (g ++ [i], [k]) →
        (tSeq (tDrop (tBM K "list" rAppend (tVar 2) (tCons (tVar 4) tNil))) (tAsg (tLst (tCons (tVar 5) tNil)) (gName 3))) (Ends.mk (fun σ H' => ∃ p y1 y2, σ = [some (vN cap), some (.ref s), some (.ref D), some (.ref p), y1, y2] ∧ Ext G H G H' ∧ H p = none ∧ G p = none ∧ D ≠ p ∧
          H' D = some (.lst ((phStep cap i k (g, mt)).1.map vN)) ∧ H' p = some (.lst ((phStep cap i k (g, mt)).2.map vN))) Q bk ct) [some (vN cap), some (.ref s), some (.ref D), some (.ref p), some (vN i), some (vN k)] H3 := by
      intro bk ct H3 X3 hg3 e
      refine ⟨_, rfl, .inl ⟨rfl, _, .inl (.inl hg3)⟩, _, rfl, D, _, _, rfl, rfl, hg3, size_small (by rw [List.length_map]; omega), ?_⟩
      have X4 := X3.put hD gD (.lst (g.map vN ++ [vN i]))
      refine ⟨_, rfl, by show 1 ≤ sizeLine; decide, fun q hq => ?_⟩
      have nq : D ≠ q := ne_of_none (upd_same (H := H3)) hq
      refine ⟨q, _, _, rfl, X4.hid hq _, X4.same.free hq, X4.sub.free hq, nq, ?_, ?_⟩
      · rw [upd_ne nq, upd_same, e, List.map_append]
        rfl
      · rw [upd_same, e]
        rfl
    refine ⟨_, rfl, by show 0 ≤ sizeLine; decide, fun q hq => ?_⟩
    have Xq := Xt.hid hq (.lst [])
    have hgq : upd Ht q (.lst []) D = some (.lst (g.map vN)) := same_upd hq _ _ hgt
    have hmq : upd Ht q (.lst []) p = some (.lst (mt.map vN)) := same_upd hq _ _ hmt
    refine ⟨.list (g.map fun n : Nat => PyData.int n), .list [], .lst (.inl (.inl hgq)) (dp_nats g), .lst (.inl (.inl upd_same)) .nil, shaped_nats g, shaped_nats [], _, rfl, ?_⟩
    rw [eqv_nil]
    generalize upd Ht q (.lst []) = H3 at Xq hgq hmq ⊢
    refine ifd (fun c1 => ?_) (fun c1 => ?_)
    · refine iteT ?_
      exact new _ _ H3 Xq hgq (if_pos (.inl c1))
    · refine ⟨_, rfl, _, rfl, p, _, rfl, .inl (.inl (.inl hmq)), rfl, flat_nats _, _, rfl, ?_⟩
      show if (!inV (vN k) (mt.map vN)) = true then _ else _
      rw [inV_nats]
      cases hin : mt.contains k with
      | true =>
        have stay : phStep cap i k (g, mt) = (g, mt) := by
          unfold phStep
          rw [if_neg (fun q => by
            rcases q with q | ⟨q, _⟩
            · exact c1 q
            · have q' : mt.contains k = false := q
              rw [hin] at q'
              cases q'), if_neg (show ¬ mt.contains k = false by rw [hin]; exact fun z => by cases z)]
        refine iteF (iteF ?_)
        refine ⟨_, rfl, _, rfl, p, _, rfl, .inl (.inl (.inl hmq)), rfl, flat_nats _, _, rfl, ?_⟩
        show if (!inV (vN k) (mt.map vN)) = true then _ else _
        rw [inV_nats, hin]
        refine iteF ⟨p, _, _, rfl, Xq, hp, gp, hDp, ?_, ?_⟩
        · rw [stay]
          exact hgq
        · rw [stay]
          exact hmq
      | false =>
        refine iteT ?_
        refine ⟨_, rfl, p, _, rfl, .inl (.inl (.inl hmq)), _, rfl, rfl, _, rfl, ?_⟩
        refine ifd (fun c2 => ?_) (fun c2 => ?_)
        · have c2' : mt.length = cap := by
            have := vn_inj c2
            rw [List.length_map] at this
            exact this
          exact new _ _ H3 Xq hgq (if_pos (.inr ⟨hin, c2'⟩))
        · have c2' : ¬ mt.length = cap := fun z => c2 (by rw [List.length_map, z])
          have more : phStep cap i k (g, mt) = (g, mt ++ [k]) := by
            unfold phStep
            rw [if_neg (fun q => by
              rcases q with q | ⟨_, q⟩
              · exact c1 q
              · exact c2' q), if_pos (show mt.contains k = false from hin)]
          refine ⟨_, rfl, _, rfl, p, _, rfl, .inl (.inl (.inl hmq)), rfl, flat_nats _, _, rfl, ?_⟩
          show if (!inV (vN k) (mt.map vN)) = true then _ else _
          rw [inV_nats, hin]
          refine iteT ⟨_, rfl, .inl ⟨rfl, _, .inl (.inl hmq)⟩, _, rfl, p, _, _, rfl, rfl, hmq, size_small (by rw [List.length_map]; omega), ?_⟩
          refine ⟨p, _, _, rfl, Xq.put hp gp _, hp, gp, hDp, ?_, ?_⟩
          · rw [more, upd_ne hDp]
            exact hgq
          · rw [more, upd_same, List.map_append]
            rfl
  · rintro σ H' ⟨p, y1, y2, rfl, X, hp, gp, hDp, hg, hm⟩
    rw [List.length_map] at hg
    exact ⟨_, rfl, post _ _ _ (X.tell hD gD hg) ⟨D, rfl, upd_same⟩⟩
end
end Ks
/-! The defs that search. -/
namespace Ks
open PySem PySem.Spec PyProof.Rows L2
open Vakptc (Cache access accessAll emptyCache allSequences)
def CachesAt (C : Addr) (G : Hp) (a : Addr) (cs : List Cache) : Prop := ∃ ws, G a = some (.lst ws) ∧ All2 (CacheV C G) ws cs
theorem CachesAt.mono {C : Addr} {G G' : Hp} {a : Addr} {cs : List Cache} (s : Same G G') (h : CachesAt C G a cs) : CachesAt C G' a cs := by
  obtain ⟨ws, r, q⟩ := h
  exact ⟨ws, s _ _ r, q.imp fun _ _ => CacheV.mono s⟩
def RowV (C : Addr) (G : Hp) (v : V) (r : Row) : Prop := ∃ t ls lc, v = .ref t ∧ G t = some (.tup [.ref ls, .ref lc]) ∧ NatsAt G ls r.1 ∧ CachesAt C G lc r.2
theorem RowV.mono {C : Addr} {G G' : Hp} {v : V} {r : Row} (s : Same G G') (h : RowV C G v r) : RowV C G' v r := by
  obtain ⟨t, ls, lc, e, a, b, c⟩ := h
  exact ⟨t, ls, lc, e, s _ _ a, b.mono s, c.mono s⟩
def RowsAt (C : Addr) (G : Hp) (a : Addr) (rs : List Row) : Prop := ∃ ws, G a = some (.lst ws) ∧ All2 (RowV C G) ws rs
def Row3V (G : Hp) (v : V) (r : Row3) : Prop := ∃ t ls, v = .ref t ∧ G t = some (.tup [.ref ls, vN r.2.1, vN r.2.2]) ∧ NatsAt G ls r.1
theorem Row3V.mono {G G' : Hp} {v : V} {r : Row3} (s : Same G G') (h : Row3V G v r) : Row3V G' v r := by
  obtain ⟨t, ls, e, a, b⟩ := h
  exact ⟨t, ls, e, s _ _ a, b.mono s⟩
theorem longer_snoc (kb : Nat) (rs : List Row) (r : Row) : longer kb (rs ++ [r]) = longer kb rs ++ (List.range kb).map (rowKey r) := by
  unfold longer
  rw [List.flatMap_append, List.flatMap_cons, List.flatMap_nil, List.append_nil]
theorem longer_len (kb : Nat) (rs : List Row) : (longer kb rs).length = rs.length * kb := by
  unfold longer
  induction rs with
  | nil => simp
  | cons r rs ih => rw [List.flatMap_cons, List.length_append, ih, List.length_map, List.length_range, List.length_cons, Nat.succ_mul, Nat.add_comm]
theorem longer_take (kb : Nat) (rs : List Row) (i : Nat) : (longer kb (rs.take i)).length ≤ rs.length * kb := by
  rw [longer_len]
  exact Nat.mul_le_mul_right _ (by rw [List.length_take]; exact Nat.min_le_right _ _)
section
variable (K : PySem.W.Frag) (C : Addr)
def spLonger : Sp := fun vs H Q _ => ∃ (G : Hp) (a : Addr) (rs : List Row) (kb : Nat), vs = [.ref a, vN kb] ∧ Same G H ∧ RowsAt C G a rs ∧ kb ≤ 100 ∧ rs.length ≤ 10000 ∧ rs.length * kb ≤ 10000 ∧ (∀ r ∈ rs, r.1.length ≤ 100 ∧ r.2.length ≤ 100) ∧
  Post G H (fun G' v => ∃ p, v = .ref p ∧ RowsAt C G' p (longer kb rs)) Q
def spAllRows : Sp := fun vs H Q _ => ∃ (G : Hp) (a : Addr) (cs : List Cache) (kb n : Nat), vs = [.ref a, vN kb, vN n] ∧ Same G H ∧ CachesAt C G a cs ∧ cs.length ≤ 100 ∧ 1 ≤ kb ∧ kb ≤ 4 ∧ n ≤ 6 ∧ Post G H (fun G' v => ∃ p, v = .ref p ∧ RowsAt C G' p (allRows cs kb n)) Q
def spGreatest : Sp := fun vs H Q _ => ∃ (G : Hp) (a : Addr) (ws : List V) (rs : List Row3), vs = [.ref a] ∧ Same G H ∧ G a = some (.lst ws) ∧ All2 (Row3V G) ws rs ∧ rs ≠ [] ∧ Post G H (fun G' v => Row3V G' v (greatest rs)) Q
def spSeparating : Sp := fun vs H Q _ => ∃ (G : Hp) (p q cap kb n : Nat), vs = [vN p, vN q, vN cap, vN kb, vN n] ∧ Same G H ∧ cap ≤ 7 ∧ 1 ≤ kb ∧ kb ≤ 4 ∧ n ≤ 6 ∧ Post G H (fun G' v => Row3V G' v (separating p q cap kb n)) Q
def spWorsting : Sp := fun vs H Q _ => ∃ (G : Hp) (p cap kb n : Nat), vs = [vN p, vN cap, vN kb, vN n] ∧ Same G H ∧ cap ≤ 7 ∧ 1 ≤ kb ∧ kb ≤ 4 ∧ n ≤ 6 ∧ Post G H (fun G' v => Row3V G' v (worsting p cap kb n)) Q
end
section
variable {P : Program} {w : World} {K : PySem.W.Frag} {mg : Str → Option Value} {base : Heap} {C f : Addr}
theorem sc_longer_rows : FnScope ["rows", "key_bound", "found", "sequence", "caches", "key", "cache"] ["rows", "key_bound"] (defScope (top 41)) := ⟨rfl, rfl, rfl, by decide +kernel, rfl, by decide +kernel, by decide +kernel⟩
theorem ok_longer_rows (bl : Blt mg) (T : ClsC K C) (D : DF K mg "longer_rows" (top 41) ["rows", "key_bound"] f) (m_accessed : MethOk P w K mg base CX0 6 C "accessed" ["self", "key"] (spAccessed C)) : FOk P w K mg base CX0 7 ["rows", "key_bound"] (spLonger C) f := by
  have cl := T.cl
  refine D.ok sc_longer_rows (fun vs H Q E ⟨_, _, _, _, e, _⟩ => by rw [e]; rfl) (fun f cdv A outer s1 H vs Q E hr h => ⟨_, (pss_cons (ps_set (i := 2) sc_longer_rows.nd rfl (Or.inl rfl) (pe_lst pa_nil)) (pss_cons (ps_for PassesOwn.never rfl (pi_list (pv 0)) (pg_tup rfl (pgs_cons (pg_name (i := 3) sc_longer_rows.nd rfl (Or.inl rfl)) (pgs_cons (pg_name (i := 4) sc_longer_rows.nd rfl (Or.inl rfl)) pgs_nil))) (pss_one (ps_for PassesOwn.never rfl (pi_range1 (by rfl) bl.range (pa_cons (pv 1) pa_nil)) (pg_name (i := 5) sc_longer_rows.nd rfl (Or.inr rfl)) (pss_one (ps_expr (pe_bm PySem.F.plainAttrs_list PySem.F.slot_list_append PySem.F.type_list_append mt_append (pv 2) (pa_cons (pe_tup (pa_cons (pe_op op_cat (pv 3) (pe_lst (pa_cons (pv 5) pa_nil))) (pa_cons (pe_lc (own := [("cache", 6)]) (g := (gName 6)) (tt := tYes) rfl sc_longer_rows.nd (pi_list (pv 4)) (blkOk_by (own := [("cache", 6)]) (N := ["rows", "key_bound", "found", "sequence", "caches", "key", "cache"]) (sc := defScope (top 41)) (by decide +kernel)) (fun _ _ _ _ _ => pg_name (i := 6) sc_longer_rows.nd rfl (Or.inl rfl)) (fun _ _ _ _ _ => pts_nil) (fun _ _ _ _ _ => (pe_mC (pv 6) cl m_accessed hr (by decide) pass0 (pa_cons (pv 5) pa_nil)))) pa_nil))) pa_nil))))))) (pss_one (ps_ret (pv 2))))), ?_⟩)
  obtain ⟨G, a, rs, kb, rfl, sm, ⟨us, ha, al⟩, hkb, hrz, hz, hrs, post⟩ := h
  refine ⟨by show 0 ≤ sizeLine; decide, fun D hD => ?_⟩
  have gD : G D = none := sm.free hD
  refine ⟨_, rfl, a, rfl, ⟨_, .inl (.inl (same_upd hD _ _ (sm _ _ ha)))⟩, for_list (K := K) (a := a) (xs := us) (fun i σ H' => ∃ G' ws y1 y2 y3, σ = [some (.ref a), some (vN kb), some (.ref D), y1, y2, y3, none] ∧ Ext G H G' H' ∧ G' D = none ∧ H' D = some (.lst ws) ∧ All2 (RowV C G') ws (longer kb (rs.take i)))
    ⟨G, [], none, none, none, rfl, (Ext.refl sm).put hD gD _, gD, upd_same, .nil⟩ (fun i σ H' _ ⟨G', ws, y1, y2, y3, _, X, _⟩ => .inl (.inl (X.same _ _ (sm _ _ ha)))) ?_ ?_⟩
  · rintro i x σ H' hx ⟨G', ws, y1, y2, y3, rfl, X, gn, hw, aw⟩
    obtain ⟨r, hri, t, ls, lc, rfl, ht, hls, hlc⟩ := al.get hx
    obtain ⟨hr1, hr2⟩ := hrs r (List.mem_of_getElem? hri)
    have lbase := longer_take kb rs (i + 1)
    rw [take_snoc hri, longer_snoc, List.length_append, List.length_map, List.length_range] at lbase
    refine ⟨t, _, rfl, .inl (.inl (X.sub _ _ (X.ext _ _ ht))), rfl, _, _, rfl, _, _, rfl, rfl, ?_⟩
    refine ⟨_, rfl, _, rfl, by omega, by omega, for_range (lo := 0) (n := ((kb : Nat) : Int).toNat) (fun j σ H' => ∃ G' ws y3, σ = [some (.ref a), some (vN kb), some (.ref D), some (.ref ls), some (.ref lc), y3, none] ∧ Ext G H G' H' ∧ G' D = none ∧ H' D = some (.lst ws) ∧ All2 (RowV C G') ws (longer kb (rs.take i) ++ (List.range j).map (rowKey r)))
      ⟨G', ws, y3, rfl, X, gn, hw, by rw [List.range_zero, List.map_nil, List.append_nil]; exact aw⟩ ?_ ?_⟩
    · rintro j σ H' hj ⟨G', ws, y3, rfl, X, gn, hw, aw⟩
      have hj' : j < kb := by omega
      have ej : (0 : Int) + (j : Int) = (j : Int) := Int.zero_add _
      rw [ej]
      have hls' := X.sub _ _ (X.ext _ _ hls)
      refine ⟨_, rfl, .inl ⟨rfl, _, .inl (.inl hw)⟩, _, rfl, _, rfl, by show 1 ≤ sizeLine; decide, fun p1 hp1 => ?_⟩
      have n1 : ls ≠ p1 := ne_of_none hls' hp1
      refine ⟨ls, p1, _, _, rfl, rfl, by rw [upd_ne n1]; exact hls', upd_same, size_le (by rw [List.length_map]; show r.1.length + 1 ≤ _; omega), fun p2 hp2 => ?_⟩
      have X2 := (X.hid hp1 (.lst [vN j])).made hp2 (.lst (r.1.map vN ++ [vN j]))
      have g2 := (X.hid hp1 (.lst [vN j])).sub.free hp2
      have hp2' : NatsAt (upd G' p2 (.lst (r.1.map vN ++ [vN j]))) p2 (r.1 ++ [j]) := by
        show upd G' p2 _ p2 = _
        rw [upd_same, List.map_append]
        rfl
      have hD2 : upd (upd H' p1 (.lst [vN j])) p2 (.lst (r.1.map vN ++ [vN j])) D = some (.lst ws) := same_upd hp2 _ _ (same_upd hp1 _ _ hw)
      have gn2 : upd G' p2 (.lst (r.1.map vN ++ [vN j])) D = none := by
        rw [upd_ne fun z => by rw [z, upd_same] at hD2; cases hD2; exact absurd (same_upd hp1 _ _ hw) (by rw [z, hp2]; exact fun q => by cases q)]
        exact gn
      have aw2 : All2 (RowV C (upd G' p2 (.lst (r.1.map vN ++ [vN j])))) ws (longer kb (rs.take i) ++ (List.range j).map (rowKey r)) := aw.imp fun _ _ z => z.mono (same_upd g2)
      generalize upd G' p2 (.lst (r.1.map vN ++ [vN j])) = G2 at X2 hp2' gn2 aw2 ⊢
      generalize upd (upd H' p1 (.lst [vN j])) p2 (.lst (r.1.map vN ++ [vN j])) = H2 at X2 hD2 ⊢
      obtain ⟨cs, hcs, alc⟩ := hlc.mono X2.ext
      refine ⟨_, rfl, lc, rfl, ⟨_, .inl (.inl (X2.sub _ _ hcs))⟩, fun D2 hD2n => ?_⟩
      refine lc_made (G := G2) (CacheV C) (fun _ _ _ _ s r => r.mono s) (r.2.map fun c => (access c j).1) X2.sub hD2n (.inl (.inl hcs)) (size_small (by rw [alc.len]; omega)) (by rw [alc.len, List.length_map]) (fun q x b G3 H3 N hx hb X3 hN => ?_) (fun G3 H3 vs3 X3 hw3 al3 => ?_)
      · obtain ⟨c, hc, ca, rfl, hca⟩ := alc.get hx
        rw [List.getElem?_map, hc] at hb
        have hb' : (access c j).1 = b := Option.some.inj hb
        have hca3 := hca.mono X3.ext
        have hca4 := hca3
        obtain ⟨wf, dx, l, hi, _⟩ := hca4
        exact ⟨rfl, _, rfl, ca, dx, _, rfl, X3.sub _ _ hi, cF_not _ l (by decide +kernel) (by decide +kernel) (by decide +kernel) (by decide +kernel) (by decide +kernel), _, rfl, G3, ca, c, j, rfl, X3.sub, hca3, fun G4 H4 v X4 r4 => hN _ _ _ X4 (by rw [← hb']; exact r4)⟩
      · refine ⟨by show 2 ≤ sizeLine; decide, fun t3 ht3 => ?_⟩
        have X4 := X3.made ht3 (.tup [.ref p2, .ref D2])
        have g3 := X3.sub.free ht3
        have hD4 : upd H3 t3 (.tup [.ref p2, .ref D2]) D = some (.lst ws) := same_upd ht3 _ _ (X3.same _ _ hD2)
        have gn4 := X4.keep (by rw [hD2]; exact fun z => by cases z) gn2
        have lw := aw.len
        rw [List.length_append, List.length_map, List.length_range] at lw
        refine ⟨D, ws, _, rfl, rfl, hD4, size_small (by omega), ?_⟩
        refine ⟨_, ws ++ [.ref t3], _, rfl, (X2.trans X4).put hD gn4 _, gn4, upd_same, ?_⟩
        rw [List.range_succ, List.map_append, ← List.append_assoc]
        refine (aw2.imp fun _ _ z => z.mono X4.ext).app (.one ⟨t3, p2, D2, rfl, upd_same, (same_upd g3) _ _ (X3.ext _ _ hp2'), vs3, (same_upd g3) _ _ hw3, al3.imp fun _ _ z => z.mono (same_upd g3)⟩)
    · rintro σ H' ⟨G', ws, y3, rfl, X, gn, hw, aw⟩
      refine ⟨G', ws, _, _, _, rfl, X, gn, hw, ?_⟩
      rw [take_snoc hri, longer_snoc]
      exact aw
  · rintro σ H' ⟨G', ws, y1, y2, y3, rfl, X, gn, hw, aw⟩
    rw [al.len, List.take_length] at aw
    exact ⟨_, rfl, post _ _ _ (X.tell hD gn hw) ⟨D, rfl, ws, upd_same, aw.imp fun _ _ z => z.mono (same_upd gn)⟩⟩
theorem rows_bounds {cs : List Cache} {kb i : Nat} (h1 : kb ≤ 4) (hi : i ≤ 6) : (∀ r ∈ allRows cs kb i, r.1.length ≤ 100 ∧ r.2.length = cs.length) ∧ (allRows cs kb i).length ≤ 4 ^ i := by
  rw [allRows_eq]
  refine ⟨fun r hr => ?_, ?_⟩
  · obtain ⟨s, hs, e⟩ := List.mem_map.mp hr
    rw [← e]
    refine ⟨?_, List.length_map _⟩
    show s.length ≤ 100
    rw [seqs_len hs]
    omega
  · rw [List.length_map, seqs_size]
    exact Nat.pow_le_pow_left h1 i
theorem sc_all_rows : FnScope ["caches", "key_bound", "length", "rows", "turn"] ["caches", "key_bound", "length"] (defScope (top 42)) := ⟨rfl, rfl, rfl, by decide +kernel, rfl, by decide +kernel, by decide +kernel⟩
theorem ok_all_rows (bl : Blt mg) (D : DF K mg "all_rows" (top 42) ["caches", "key_bound", "length"] f) (c_longer_rows : CallOk P w K mg base CX0 7 "longer_rows" ["rows", "key_bound"] (spLonger C)) : FOk P w K mg base CX0 8 ["caches", "key_bound", "length"] (spAllRows C) f := by
  refine D.ok sc_all_rows (fun vs H Q E ⟨_, _, _, _, _, e, _⟩ => by rw [e]; rfl) (fun f cdv A outer s1 H vs Q E hr h => ⟨_, (pss_cons (ps_set (i := 3) sc_all_rows.nd rfl (Or.inl rfl) (pe_lst (pa_cons (pe_tup (pa_cons (pe_lst pa_nil) (pa_cons (pv 0) pa_nil))) pa_nil))) (pss_cons (ps_for PassesOwn.never rfl (pi_range1 (by rfl) bl.range (pa_cons (pv 2) pa_nil)) (pg_name (i := 4) sc_all_rows.nd rfl (Or.inl rfl)) (pss_one (ps_set (i := 3) sc_all_rows.nd rfl (Or.inl rfl) (pe_callC c_longer_rows hr (by decide) pass0 (pa_cons (pv 3) (pa_cons (pv 1) pa_nil)))))) (pss_one (ps_ret (pv 3))))), ?_⟩)
  obtain ⟨G, a, cs, kb, n, rfl, sm, hcs, hcz, hkb0, hkb, hn, post⟩ := h
  refine ⟨by show 0 ≤ sizeLine; decide, fun p1 hp1 => ⟨_, rfl, by show 2 ≤ sizeLine; decide, fun p2 hp2 => ⟨by show 1 ≤ sizeLine; decide, fun p3 hp3 => ?_⟩⟩⟩
  have X1 := (Ext.refl sm).made hp1 (.lst [])
  have X2 := X1.made hp2 (.tup [.ref p1, .ref a])
  have X3 := X2.made hp3 (.lst [.ref p2])
  have g1 := sm.free hp1
  have g2 := X1.sub.free hp2
  have g3 := X2.sub.free hp3
  have hp1' : NatsAt (upd G p1 (.lst [])) p1 [] := upd_same
  refine ⟨_, rfl, _, rfl, by omega, by omega, for_range (lo := 0) (n := ((n : Nat) : Int).toNat) (fun i σ H' => ∃ G' p y, σ = [some (.ref a), some (vN kb), some (vN n), some (.ref p), y] ∧ Ext G H G' H' ∧ RowsAt C G' p (allRows cs kb i))
    ⟨_, p3, none, rfl, X3, [.ref p2], upd_same, .one ⟨p2, p1, a, rfl, (same_upd g3) _ _ upd_same, ((hp1'.mono (same_upd g2)).mono (same_upd g3)), hcs.mono X3.ext⟩⟩ ?_ ?_⟩
  · rintro i σ H' hi ⟨G', p, y, rfl, X, hp⟩
    have hi' : i < n := by omega
    obtain ⟨b1, b2⟩ := rows_bounds (cs := cs) (kb := kb) (i := i) hkb (by omega)
    have hpow : 4 ^ i ≤ 4 ^ 5 := Nat.pow_le_pow_right (by omega) (by omega)
    have hpow5 : (4 : Nat) ^ 5 = 1024 := by decide
    have hmul : (allRows cs kb i).length * kb ≤ 1024 * 4 := Nat.mul_le_mul (by omega) hkb
    exact ⟨_, rfl, _, rfl, G', p, _, kb, rfl, X.sub, hp, by omega, by omega, by omega, fun r hr => ⟨(b1 r hr).1, by rw [(b1 r hr).2]; exact hcz⟩, fun G2 H2 v X2 r => by
      obtain ⟨q, rfl, hq⟩ := r
      exact ⟨G2, q, _, rfl, X.trans X2, hq⟩⟩
  · rintro σ H' ⟨G', p, y, rfl, X, hp⟩
    exact ⟨_, rfl, post _ _ _ X ⟨p, rfl, hp⟩⟩
theorem sc_first_greatest : FnScope ["rows", "best", "row"] ["rows"] (defScope (top 43)) := ⟨rfl, rfl, rfl, by decide +kernel, rfl, by decide +kernel, by decide +kernel⟩
theorem ok_first_greatest (D : DF K mg "first_greatest" (top 43) ["rows"] f) : FOk P w K mg base CX0 1 ["rows"] spGreatest f := by
  refine D.ok sc_first_greatest (fun vs H Q E ⟨_, _, _, _, e, _⟩ => by rw [e]; rfl) (fun f cdv A outer s1 H vs Q E hr h => ⟨_, (pss_cons (ps_set (i := 1) sc_first_greatest.nd rfl (Or.inl rfl) (pe_ix ix_list (pv 0) pe_int (fun _ _ => rfl))) (pss_cons (ps_for PassesOwn.never rfl (pi_list (pe_slice sl_list (pv 0) (po_some pe_int) po_none)) (pg_name (i := 2) sc_first_greatest.nd rfl (Or.inl rfl)) (pss_one (ps_if (pt_cmpR op_gt (pe_op op_sub (pe_ix (show IxR _ (rIxT K) from ix_tup) (pv 2) pe_int (fun _ _ => rfl)) (pe_ix (show IxR _ (rIxT K) from ix_tup) (pv 2) pe_int (fun _ _ => rfl))) (pe_op op_sub (pe_ix (show IxR _ (rIxT K) from ix_tup) (pv 1) pe_int (fun _ _ => rfl)) (pe_ix (show IxR _ (rIxT K) from ix_tup) (pv 1) pe_int (fun _ _ => rfl))) (nomark _)) (pss_one (ps_set (i := 1) sc_first_greatest.nd rfl (Or.inl rfl) (pv 2))) pss_nil))) (pss_one (ps_ret (pv 1))))), ?_⟩)
  obtain ⟨G, a, ws, rs, rfl, sm, ha, al, ne, post⟩ := h
  cases al with
  | nil => exact absurd rfl ne
  | @cons v b ws rs r0 al =>
    have ha' := sm _ _ ha
    refine ⟨_, rfl, a, _, 0, v, rfl, rfl, .inl (.inl ha'), at_zero, ?_⟩
    refine ⟨_, rfl, _, rfl, a, _, rfl, .inl (.inl ha'), fun p hp => ?_⟩
    have X := (Ext.refl sm).hid hp (.lst (cutV (v :: ws) (some 1) none))
    have hp2 : upd H p (.lst (cutV (v :: ws) (some 1) none)) p = some (.lst ws) := by
      rw [upd_same]
      exact congrArg (fun l => some (HO.lst l)) (cut_from (v :: ws) (n := 1) (by simp))
    generalize upd H p (.lst (cutV (v :: ws) (some 1) none)) = H2 at X hp2 ⊢
    refine ⟨p, rfl, ⟨_, .inl (.inl hp2)⟩, for_list (K := K) (a := p) (xs := ws) (fun i σ H' => ∃ u y, σ = [some (.ref a), some u, y] ∧ H' = H2 ∧ Row3V G u ((rs.take i).foldl grStep b)) ⟨v, none, rfl, rfl, r0⟩ (fun i σ H' _ ⟨u, y, _, e, _⟩ => by rw [e]; exact .inl (.inl hp2)) ?_ ?_⟩
    · rintro i x σ H' hx ⟨u, y, rfl, rfl, ru⟩
      obtain ⟨r, hri, rx⟩ := al.get hx
      rw [take_snoc hri, List.foldl_append]
      generalize (rs.take i).foldl grStep b = st at ru ⊢
      have rx0 := rx
      have ru0 := ru
      obtain ⟨tx, lx, rfl, htx, _⟩ := rx
      obtain ⟨tu, lu, rfl, htu, _⟩ := ru
      have qx : SqT K H' tx [.ref lx, vN r.2.1, vN r.2.2] := .inl (.inl (X.sub _ _ htx))
      have qu : SqT K H' tu [.ref lu, vN st.2.1, vN st.2.2] := .inl (.inl (X.sub _ _ htu))
      refine ⟨_, rfl, tx, _, 1, _, rfl, rfl, qx, rfl, _, rfl, tx, _, 2, _, rfl, rfl, qx, rfl, _, _, rfl, rfl, _, rfl, tu, _, 1, _, rfl, rfl, qu, rfl, _, rfl, tu, _, 2, _, rfl, rfl, qu, rfl, _, _, rfl, rfl, _, _, rfl, rfl, _, rfl, ?_⟩
      refine ifd (fun c => ?_) (fun c => ?_)
      · refine ⟨_, rfl, _, _, rfl, rfl, ?_⟩
        rw [show [r].foldl grStep st = r from if_pos c]
        exact rx0
      · refine ⟨_, _, rfl, rfl, ?_⟩
        rw [show [r].foldl grStep st = st from if_neg c]
        exact ru0
    · rintro σ H' ⟨u, y, rfl, rfl, ru⟩
      rw [al.len, List.take_length] at ru
      exact ⟨_, rfl, post _ _ _ X ru⟩
theorem map_ne {α β : Type} {f : α → β} {l : List α} (h : l ≠ []) : l.map f ≠ [] := fun e => h (List.map_eq_nil_iff.mp e)
theorem rows_ne {cs : List Cache} {kb : Nat} (h : 1 ≤ kb) (n : Nat) : allRows cs kb n ≠ [] := by
  rw [allRows_eq]
  exact map_ne (seqs_ne h n)
theorem row_caches {cs : List Cache} {kb n : Nat} {r : Row} (h : r ∈ allRows cs kb n) : r.2.length = cs.length ∧ r.1.length = n := by
  rw [allRows_eq] at h
  obtain ⟨s, hs, e⟩ := List.mem_map.mp h
  rw [← e]
  exact ⟨List.length_map _, seqs_len hs⟩
theorem sc_separating : FnScope ["first", "second", "capacity", "key_bound", "length", "rows", "sequence", "caches"] ["first", "second", "capacity", "key_bound", "length"] (defScope (top 44)) := ⟨rfl, rfl, rfl, by decide +kernel, rfl, by decide +kernel, by decide +kernel⟩
theorem ok_separating (T : ClsC K C) (D : DF K mg "separating" (top 44) ["first", "second", "capacity", "key_bound", "length"] f) (c_empty_cache : CallOk P w K mg base CX0 3 "empty_cache" ["capacity", "policy"] (spEmpty C)) (c_all_rows : CallOk P w K mg base CX0 8 "all_rows" ["caches", "key_bound", "length"] (spAllRows C))
    (c_first_greatest : CallOk P w K mg base CX0 1 "first_greatest" ["rows"] spGreatest) : FOk P w K mg base CX0 9 ["first", "second", "capacity", "key_bound", "length"] spSeparating f := by
  refine D.ok sc_separating (fun vs H Q E ⟨_, _, _, _, _, _, e, _⟩ => by rw [e]; rfl) (fun f cdv A outer s1 H vs Q E hr h => ⟨_, (pss_cons (ps_set (i := 5) sc_separating.nd rfl (Or.inl rfl) (pe_lst pa_nil)) (pss_cons (ps_for PassesOwn.never rfl (pi_list (pe_callC c_all_rows hr (by decide) pass0 (pa_cons (pe_lst (pa_cons (pe_callC c_empty_cache hr (by decide) pass0 (pa_cons (pv 2) (pa_cons (pv 0) pa_nil))) (pa_cons (pe_callC c_empty_cache hr (by decide) pass0 (pa_cons (pv 2) (pa_cons (pv 1) pa_nil))) pa_nil))) (pa_cons (pv 3) (pa_cons (pv 4) pa_nil))))) (pg_tup rfl (pgs_cons (pg_name (i := 6) sc_separating.nd rfl (Or.inl rfl)) (pgs_cons (pg_name (i := 7) sc_separating.nd rfl (Or.inl rfl)) pgs_nil))) (pss_one (ps_expr (pe_bm PySem.F.plainAttrs_list PySem.F.slot_list_append PySem.F.type_list_append mt_append (pv 5) (pa_cons (pe_tup (pa_cons (pv 6) (pa_cons (pe_fld (pe_ix ix_list (pv 7) pe_int (fun _ _ => rfl)) rfl) (pa_cons (pe_fld (pe_ix ix_list (pv 7) pe_int (fun _ _ => rfl)) rfl) pa_nil)))) pa_nil))))) (pss_one (ps_ret (pe_callC c_first_greatest hr (by decide) pass0 (pa_cons (pv 5) pa_nil)))))), ?_⟩)
  obtain ⟨G, p, q, cap, kb, n, rfl, sm, hcap, hkb0, hkb, hn, post⟩ := h
  refine ⟨by show 0 ≤ sizeLine; decide, fun D hD => ?_⟩
  have gD : G D = none := sm.free hD
  have X0 := (Ext.refl sm).put hD gD (.lst [])
  have hD0 : upd H D (.lst []) D = some (.lst []) := upd_same
  generalize upd H D (.lst []) = H0 at X0 hD0 ⊢
  have nn : ∀ {H' : Hp}, H' D = some (.lst []) → H' D ≠ none := fun e z => by rw [e] at z; cases z
  refine ⟨_, rfl, _, rfl, G, cap, p, rfl, X0.sub, hcap, fun G1 H1 v1 X1 r1 => ?_⟩
  refine ⟨_, rfl, _, rfl, G1, cap, q, rfl, X1.sub, hcap, fun G2 H2 v2 X2 r2 => ⟨by show 2 ≤ sizeLine; decide, fun l hl => ?_⟩⟩
  have X3 := ((X0.trans X1).trans X2).made hl (.lst [v1, v2])
  have g2 := ((X0.trans X1).trans X2).sub.free hl
  have hD2 : H2 D = some (.lst []) := X2.same _ _ (X1.same _ _ hD0)
  have gD1 := X1.keep (nn hD0) gD
  have gD2 := X2.keep (nn (X1.same _ _ hD0)) gD1
  have hDl : D ≠ l := ne_of_none hD2 hl
  have hD3 : upd H2 l (.lst [v1, v2]) D = some (.lst []) := by rw [upd_ne hDl]; exact hD2
  have gD3 : upd G2 l (.lst [v1, v2]) D = none := by rw [upd_ne hDl]; exact gD2
  have hcs : CachesAt C (upd G2 l (.lst [v1, v2])) l [emptyCache cap p, emptyCache cap q] := ⟨_, upd_same, .cons ((r1.mono X2.ext).mono (same_upd g2)) (.one (r2.mono (same_upd g2)))⟩
  refine ⟨_, rfl, _, rfl, _, l, _, kb, n, rfl, X3.sub, hcs, by show 2 ≤ 100; omega, hkb0, hkb, hn, fun G4 H4 v4 X4 r4 => ?_⟩
  obtain ⟨pr, rfl, us, hus, al⟩ := r4
  have X5 := X3.trans X4
  have hD4 := X4.same _ _ hD3
  have gD4 := X4.keep (nn hD3) gD3
  refine ⟨pr, rfl, ⟨_, .inl (.inl (X4.sub _ _ hus))⟩, for_list (K := K) (a := pr) (xs := us) (fun i σ H' => ∃ G' ws y1 y2, σ = [some (vN p), some (vN q), some (vN cap), some (vN kb), some (vN n), some (.ref D), y1, y2] ∧ Ext G H G' H' ∧ Same G4 G' ∧ G' D = none ∧ H' D = some (.lst ws) ∧ All2 (Row3V G') ws (((allRows [emptyCache cap p, emptyCache cap q] kb n).take i).map sepRow))
    ⟨G4, [], none, none, rfl, X5, .refl _, gD4, hD4, .nil⟩ (fun i σ H' _ ⟨G', ws, y1, y2, _, X, S, _⟩ => .inl (.inl (X.sub _ _ (S _ _ hus)))) ?_ ?_⟩
  · rintro i x σ H' hx ⟨G', ws, y1, y2, rfl, X, S, gn, hw, aw⟩
    obtain ⟨r, hri, t, ls, lc, rfl, ht, hls, hlc⟩ := al.get hx
    obtain ⟨rl, _⟩ := row_caches (List.mem_of_getElem? hri)
    have ht' := S _ _ ht
    refine ⟨t, _, rfl, .inl (.inl (X.sub _ _ ht')), rfl, _, _, rfl, _, _, rfl, rfl, ?_⟩
    obtain ⟨cs, hcs, alc⟩ := hlc.mono S
    have lcs := alc.len
    obtain ⟨ra, rb⟩ := r
    have rl' : rb.length = 2 := rl
    match rb, rl' with
    | [ca, cb], _ =>
      cases alc with
      | cons h1 alc =>
        cases alc with
        | cons h2 alc =>
          cases alc
          obtain ⟨a1, rfl, wf1, dx1, l1, hi1, _⟩ := h1
          obtain ⟨a2, rfl, wf2, dx2, l2, hi2, _⟩ := h2
          have hcs' := X.sub _ _ hcs
          refine ⟨_, rfl, .inl ⟨rfl, _, .inl (.inl hw)⟩, _, rfl, _, rfl, lc, _, 0, _, rfl, rfl, .inl (.inl hcs'), rfl, a1, C, dx1, _, _, rfl, X.sub _ _ hi1, T.cl, T.nM, cF_misses _ l1, _, rfl, lc, _, 1, _, rfl, rfl, .inl (.inl hcs'), rfl, a2, C, dx2, _, _, rfl, X.sub _ _ hi2, T.cl, T.nM, cF_misses _ l2, by show 3 ≤ sizeLine; decide, fun t3 ht3 => ?_⟩
          have X6 := X.made ht3 (.tup [.ref ls, vN ca.misses, vN cb.misses])
          have g3 := X.sub.free ht3
          have hw3 : upd H' t3 (.tup [.ref ls, vN ca.misses, vN cb.misses]) D = some (.lst ws) := same_upd ht3 _ _ hw
          have gn3 : upd G' t3 (.tup [.ref ls, vN ca.misses, vN cb.misses]) D = none := by
            rw [upd_ne (ne_of_none hw ht3)]
            exact gn
          have lw := aw.len
          rw [List.length_map, List.length_take] at lw
          have b2 := (rows_bounds (cs := [emptyCache cap p, emptyCache cap q]) (kb := kb) (i := n) hkb hn).2
          have hpow : 4 ^ n ≤ 4 ^ 6 := Nat.pow_le_pow_right (by omega) hn
          have hpow6 : (4 : Nat) ^ 6 = 4096 := by decide
          refine ⟨D, ws, _, rfl, rfl, hw3, size_small (by omega), ?_⟩
          refine ⟨_, ws ++ [.ref t3], _, _, rfl, X6.put hD gn3 _, S.trans (same_upd g3), gn3, upd_same, ?_⟩
          rw [take_snoc hri, List.map_append]
          exact (aw.imp fun _ _ z => z.mono (same_upd g3)).app (.one ⟨t3, ls, rfl, upd_same, (same_upd g3) _ _ (S _ _ hls)⟩)
  · rintro σ H' ⟨G', ws, y1, y2, rfl, X, S, gn, hw, aw⟩
    rw [al.len, List.take_length] at aw
    have X6 := X.tell hD gn hw
    exact ⟨_, rfl, _, D, ws, _, rfl, X6.sub, upd_same, aw.imp fun _ _ z => z.mono (same_upd gn), map_ne (rows_ne hkb0 n), fun G7 H7 v7 X7 r7 => post _ _ _ (X6.trans X7) r7⟩
theorem sc_farthest_from_best : FnScope ["policy", "capacity", "key_bound", "length", "rows", "sequence", "caches"] ["policy", "capacity", "key_bound", "length"] (defScope (top 45)) := ⟨rfl, rfl, rfl, by decide +kernel, rfl, by decide +kernel, by decide +kernel⟩
theorem ok_farthest_from_best (T : ClsC K C) (D : DF K mg "farthest_from_best" (top 45) ["policy", "capacity", "key_bound", "length"] f) (c_empty_cache : CallOk P w K mg base CX0 3 "empty_cache" ["capacity", "policy"] (spEmpty C)) (c_all_rows : CallOk P w K mg base CX0 8 "all_rows" ["caches", "key_bound", "length"] (spAllRows C))
    (c_belady : CallOk P w K mg base CX0 4 "belady" ["capacity", "sequence"] spBel) (c_first_greatest : CallOk P w K mg base CX0 1 "first_greatest" ["rows"] spGreatest) : FOk P w K mg base CX0 9 ["policy", "capacity", "key_bound", "length"] spWorsting f := by
  refine D.ok sc_farthest_from_best (fun vs H Q E ⟨_, _, _, _, _, e, _⟩ => by rw [e]; rfl) (fun f cdv A outer s1 H vs Q E hr h => ⟨_, (pss_cons (ps_set (i := 4) sc_farthest_from_best.nd rfl (Or.inl rfl) (pe_lst pa_nil)) (pss_cons (ps_for PassesOwn.never rfl (pi_list (pe_callC c_all_rows hr (by decide) pass0 (pa_cons (pe_lst (pa_cons (pe_callC c_empty_cache hr (by decide) pass0 (pa_cons (pv 1) (pa_cons (pv 0) pa_nil))) pa_nil)) (pa_cons (pv 2) (pa_cons (pv 3) pa_nil))))) (pg_tup rfl (pgs_cons (pg_name (i := 5) sc_farthest_from_best.nd rfl (Or.inl rfl)) (pgs_cons (pg_name (i := 6) sc_farthest_from_best.nd rfl (Or.inl rfl)) pgs_nil))) (pss_one (ps_expr (pe_bm PySem.F.plainAttrs_list PySem.F.slot_list_append PySem.F.type_list_append mt_append (pv 4) (pa_cons (pe_tup (pa_cons (pv 5) (pa_cons (pe_fld (pe_ix ix_list (pv 6) pe_int (fun _ _ => rfl)) rfl) (pa_cons (pe_ix (show IxR _ (rIxT K) from ix_tup) (pe_callC c_belady hr (by decide) pass0 (pa_cons (pv 1) (pa_cons (pv 5) pa_nil))) pe_int (fun _ _ => rfl)) pa_nil)))) pa_nil))))) (pss_one (ps_ret (pe_callC c_first_greatest hr (by decide) pass0 (pa_cons (pv 4) pa_nil)))))), ?_⟩)
  obtain ⟨G, p, cap, kb, n, rfl, sm, hcap, hkb0, hkb, hn, post⟩ := h
  refine ⟨by show 0 ≤ sizeLine; decide, fun D hD => ?_⟩
  have gD : G D = none := sm.free hD
  have X0 := (Ext.refl sm).put hD gD (.lst [])
  have hD0 : upd H D (.lst []) D = some (.lst []) := upd_same
  generalize upd H D (.lst []) = H0 at X0 hD0 ⊢
  have nn : ∀ {H' : Hp}, H' D = some (.lst []) → H' D ≠ none := fun e z => by rw [e] at z; cases z
  refine ⟨_, rfl, _, rfl, G, cap, p, rfl, X0.sub, hcap, fun G2 H2 v1 X2 r1 => ⟨by show 1 ≤ sizeLine; decide, fun l hl => ?_⟩⟩
  have X3 := (X0.trans X2).made hl (.lst [v1])
  have g2 := (X0.trans X2).sub.free hl
  have hD2 : H2 D = some (.lst []) := X2.same _ _ hD0
  have gD2 := X2.keep (nn hD0) gD
  have hDl : D ≠ l := ne_of_none hD2 hl
  have hD3 : upd H2 l (.lst [v1]) D = some (.lst []) := by rw [upd_ne hDl]; exact hD2
  have gD3 : upd G2 l (.lst [v1]) D = none := by rw [upd_ne hDl]; exact gD2
  have hcs : CachesAt C (upd G2 l (.lst [v1])) l [emptyCache cap p] := ⟨_, upd_same, .one (r1.mono (same_upd g2))⟩
  refine ⟨_, rfl, _, rfl, _, l, _, kb, n, rfl, X3.sub, hcs, by show 1 ≤ 100; omega, hkb0, hkb, hn, fun G4 H4 v4 X4 r4 => ?_⟩
  obtain ⟨pr, rfl, us, hus, al⟩ := r4
  have X5 := X3.trans X4
  have hD4 := X4.same _ _ hD3
  have gD4 := X4.keep (nn hD3) gD3
  refine ⟨pr, rfl, ⟨_, .inl (.inl (X4.sub _ _ hus))⟩, for_list (K := K) (a := pr) (xs := us) (fun i σ H' => ∃ G' ws y1 y2, σ = [some (vN p), some (vN cap), some (vN kb), some (vN n), some (.ref D), y1, y2] ∧ Ext G H G' H' ∧ Same G4 G' ∧ G' D = none ∧ H' D = some (.lst ws) ∧ All2 (Row3V G') ws (((allRows [emptyCache cap p] kb n).take i).map (worRow cap)))
    ⟨G4, [], none, none, rfl, X5, .refl _, gD4, hD4, .nil⟩ (fun i σ H' _ ⟨G', ws, y1, y2, _, X, S, _⟩ => .inl (.inl (X.sub _ _ (S _ _ hus)))) ?_ ?_⟩
  · rintro i x σ H' hx ⟨G', ws, y1, y2, rfl, X, S, gn, hw, aw⟩
    obtain ⟨r, hri, t, ls, lc, rfl, ht, hls, hlc⟩ := al.get hx
    obtain ⟨rl, rn⟩ := row_caches (List.mem_of_getElem? hri)
    have ht' := S _ _ ht
    refine ⟨t, _, rfl, .inl (.inl (X.sub _ _ ht')), rfl, _, _, rfl, _, _, rfl, rfl, ?_⟩
    obtain ⟨cs, hcs, alc⟩ := hlc.mono S
    have lcs := alc.len
    obtain ⟨ra, rb⟩ := r
    have rl' : rb.length = 1 := rl
    match rb, rl' with
    | [ca], _ =>
      cases alc with
      | cons h1 alc =>
        cases alc
        obtain ⟨a1, rfl, wf1, dx1, l1, hi1, _⟩ := h1
        have hcs' := X.sub _ _ hcs
        have hls' : NatsAt G' ls ra := S _ _ hls
        have rn' : ra.length = n := rn
        refine ⟨_, rfl, .inl ⟨rfl, _, .inl (.inl hw)⟩, _, rfl, _, rfl, lc, _, 0, _, rfl, rfl, .inl (.inl hcs'), rfl, a1, C, dx1, _, _, rfl, X.sub _ _ hi1, T.cl, T.nM, cF_misses _ l1, _, rfl, _, rfl, G', ls, ra, cap, rfl, X.sub, hls', by omega, fun G6 H6 v6 X6 r6 => ?_⟩
        obtain ⟨tb, lb, rfl, htb, _⟩ := r6
        refine ⟨tb, _, 0, _, rfl, rfl, .inl (.inl (X6.sub _ _ htb)), rfl, by show 3 ≤ sizeLine; decide, fun t3 ht3 => ?_⟩
        have X7 := (X.trans X6).made ht3 (.tup [.ref ls, vN ca.misses, vN (bel cap ra 0 []).1])
        have g3 := (X.trans X6).sub.free ht3
        have hw6 := X6.same _ _ hw
        have hw3 : upd H6 t3 (.tup [.ref ls, vN ca.misses, vN (bel cap ra 0 []).1]) D = some (.lst ws) := same_upd ht3 _ _ hw6
        have gn6 := X6.keep (by rw [hw]; exact fun z => by cases z) gn
        have gn3 : upd G6 t3 (.tup [.ref ls, vN ca.misses, vN (bel cap ra 0 []).1]) D = none := by
          rw [upd_ne (ne_of_none hw6 ht3)]
          exact gn6
        have lw := aw.len
        rw [List.length_map, List.length_take] at lw
        have b2 := (rows_bounds (cs := [emptyCache cap p]) (kb := kb) (i := n) hkb hn).2
        have hpow : 4 ^ n ≤ 4 ^ 6 := Nat.pow_le_pow_right (by omega) hn
        have hpow6 : (4 : Nat) ^ 6 = 4096 := by decide
        refine ⟨D, ws, _, rfl, rfl, hw3, size_small (by omega), ?_⟩
        refine ⟨_, ws ++ [.ref t3], _, _, rfl, X7.put hD gn3 _, S.trans (X6.ext.trans (same_upd g3)), gn3, upd_same, ?_⟩
        rw [take_snoc hri, List.map_append]
        exact (aw.imp fun _ _ z => (z.mono X6.ext).mono (same_upd g3)).app (.one ⟨t3, ls, rfl, upd_same, (same_upd g3) _ _ (X6.ext _ _ hls')⟩)
  · rintro σ H' ⟨G', ws, y1, y2, rfl, X, S, gn, hw, aw⟩
    rw [al.len, List.take_length] at aw
    have X6 := X.tell hD gn hw
    exact ⟨_, rfl, _, D, ws, _, rfl, X6.sub, upd_same, aw.imp fun _ _ z => z.mono (same_upd gn), map_ne (rows_ne hkb0 n), fun G7 H7 v7 X7 r7 => post _ _ _ (X6.trans X7) r7⟩
end
end Ks
/-! Refusals, the holder, small defs of the module of operations. -/
namespace Ks
open PySem PySem.Spec PyProof.Rows L2
open Vakptc (Cache access accessAll emptyCache)
/-- what the top has written of the class Refused -/
structure ClsR (K : PySem.W.Frag) (mg : Str → Option Value) (CR : Addr) : Prop where
  oex : OexC K CR
  nC : PySem.W.findIn K (.ref CR) "code" = some none
  g : mg "Refused" = some (.ref CR)
  vV : PySem.W.findCls K (.type "ValueError") (.type "type") "__init__" = some (.val (.builtin "ValueError.__init__"))
  xf : XfC K CR
  te : PySem.W.exmOne K (.ref CR) (.ref CR) = some true
  fn : ∃ (fI : Addr) (fd : FuncData), PySem.W.findIn K (.ref CR) "__init__" = some (some (.ref fI)) ∧ PySem.W.typeIn K (.ref fI) = some (.type "function") ∧ Fun K "__init__" "Refused.__init__" (inClass (top 60) 0) fI fd ∧ Binds K fd ["self", "code"] []
/-- what the top has written of the class Holder -/
structure ClsH (K : PySem.W.Frag) (CH : Addr) : Prop where
  cl : Cls K CH
  nC : NoAttr K CH "cache"
abbrev hF (c : Addr) : List (Str × V) := [("cache", .ref c)]
theorem hF_cache (c : Addr) : (hF c).lookup ("cache" : Str) = some (.ref c) := lk_here
theorem hF_put (c : Addr) : (hF c).lookup ("put" : Str) = none := (lk_past (by decide +kernel)).trans rfl
/-- the wish of a refusal with a code -/
def Refuse (CR : Addr) (E : XK) (H : Hp) (code : Int) : Prop := ∀ (d : Addr) (H' : Hp), Same H H' → H d = none → H' d = some (.xd [("code", .int code)]) → E (.ref CR) (some d) H'
theorem Refuse.mono {CR : Addr} {E : XK} {H H1 : Hp} {code : Int} (h : Refuse CR E H code) (s : Same H H1) : Refuse CR E H1 code := fun d H' s' n e => h d H' (s.trans s') (s.free n) e
def IntsAt (G : Hp) (a : Addr) (zs : List Int) : Prop := G a = some (.lst (zs.map V.int))
theorem IntsAt.mono {G G' : Hp} {a : Addr} {zs : List Int} (h : IntsAt G a zs) (s : Same G G') : IntsAt G' a zs := s _ _ h
theorem IntsAt.seq {K : PySem.W.Frag} {G : Hp} {a : Addr} {zs : List Int} (h : IntsAt G a zs) : SqL K G a (zs.map V.int) := .inl (.inl h)
theorem IntsAt.nats {G : Hp} {a : Addr} {zs : List Int} (h : IntsAt G a zs) (p : ∀ z ∈ zs, 0 ≤ z) : NatsAt G a (VakptcNeutral.nats zs) := by
  have e : (VakptcNeutral.nats zs).map vN = zs.map V.int := by
    unfold VakptcNeutral.nats
    rw [List.map_map]
    refine List.map_congr_left fun z hz => ?_
    show V.int ((z.toNat : Nat) : Int) = V.int z
    rw [Int.toNat_of_nonneg (p z hz)]
  show G a = _
  rw [e]
  exact h
def keysB (zs : List Int) : Bool := decide (zs.length ≤ 30) && zs.all Vakptc.validKey
theorem keysB_is {zs : List Int} (p : ∀ z ∈ zs, 0 ≤ z) : keysB zs = Vakptc.validSequence (VakptcNeutral.nats zs) := by
  unfold keysB Vakptc.validSequence VakptcNeutral.nats
  rw [List.length_map, List.all_map]
  congr 1
  rw [Bool.eq_iff_iff, List.all_eq_true, List.all_eq_true]
  have key : ∀ z ∈ zs, (Vakptc.validKey z = true ↔ ((fun key => decide (key < Vakptc.keyCount)) ∘ Int.toNat) z = true) := fun z hz => by
    have := p z hz
    show (decide (0 ≤ z) && decide (z ≤ 9)) = true ↔ decide (z.toNat < 10) = true
    rw [Bool.and_eq_true, decide_eq_true_iff, decide_eq_true_iff, decide_eq_true_iff]
    omega
  exact ⟨fun h z hz => (key z hz).mp (h z hz), fun h z hz => (key z hz).mpr (h z hz)⟩
section
variable (K : PySem.W.Frag) (C CH CR : Addr)
def spRInit : Sp := fun vs H Q _ => ∃ (a : Addr) (v : V), vs = [.ref a, v] ∧ OexC K CR ∧ PySem.W.findIn K (.ref CR) "code" = some none ∧ H a = some (exo a CR none) ∧ ∀ dx, H dx = none → dx ≠ a → Q .non (upd (upd H dx (exd dx [("code", v)])) a (exo a CR (some dx)))
def spNeed : Sp := fun vs H Q E => ∃ (b : Bool) (code : Int), vs = [.bl b, .int code] ∧ (b = true → Q .non H) ∧ (b = false → Refuse CR E H code)
/-- a def that refuses one whole number with a code -/
def spOne (t : Int → Bool) (code : Int) : Sp := fun vs H Q E => ∃ z : Int, vs = [.int z] ∧ (t z = true → Q .non H) ∧ (t z = false → Refuse CR E H code)
def spIsKey : Sp := fun vs H Q _ => ∃ z : Int, vs = [.int z] ∧ Q (.bl (Vakptc.validKey z)) H
def spNeedKeys : Sp := fun vs H Q E => ∃ (G : Hp) (a : Addr) (zs : List Int), vs = [.ref a] ∧ Same G H ∧ IntsAt G a zs ∧ zs.length ≤ 1000 ∧ (keysB zs = true → Post G H (fun _ v => v = .non) Q) ∧ (keysB zs = false → Refuse CR E H (-4))
def sizeB (kb most n : Int) : Bool := Vakptc.inRange 1 most kb && Vakptc.inRange 0 6 n
def spNeedSize : Sp := fun vs H Q E => ∃ kb most n : Int, vs = [.int kb, .int most, .int n] ∧ (sizeB kb most n = true → Q .non H) ∧ (sizeB kb most n = false → Refuse CR E H (-6))
def spListed : Sp := fun vs H Q _ => ∃ (G : Hp) (a : Addr) (xs : List V), vs = [.ref a] ∧ Same G H ∧ G a = some (.lst xs) ∧ xs.length ≤ 10000 ∧ Post G H (fun G' v => ∃ p, v = .ref p ∧ G' p = some (.lst (vN xs.length :: xs))) Q
def spHInit : Sp := fun vs H Q _ => ∃ (G : Hp) (x dx : Addr), vs = [.ref x] ∧ Same G H ∧ G x = none ∧ H x = some (.ins CH dx []) ∧
  ∀ (G' H' : Hp) (c : Addr), (∀ b o, H b = some o → b ≠ x → H' b = some o) → Same G G' → Same G' H' → (∀ b, H b ≠ none → G b = none → G' b = none) → H' x = some (.ins CH dx (hF c)) → CacheAt C G' c (emptyCache 0 0) → Q .non H'
def spPut : Sp := fun vs H Q _ => ∃ (x dx c c' : Addr), vs = [.ref x, .ref c'] ∧ H x = some (.ins CH dx (hF c)) ∧ Q .non (upd H x (.ins CH dx (hF c')))
end
section
variable {P : Program} {w : World} {K : PySem.W.Frag} {mg : Str → Option Value} {base : Heap} {C CH CR f : Addr}
theorem sc_Refused___init__ : FnScope ["self", "code"] ["self", "code"] (defScope (inClass (top 60) 0)) := ⟨rfl, rfl, rfl, by decide +kernel, rfl, by decide +kernel, by decide +kernel⟩
theorem ok_Refused_init (bl : Blt mg) (T : ClsR K mg CR) {fI : Addr} {fd : FuncData} (F : Fun K "__init__" "Refused.__init__" (inClass (top 60) 0) fI fd) : FnOk P w K mg base CX0 1 fI fd ["self", "code"] (spRInit K CR) := by
  refine F.ok sc_Refused___init__ (fun vs H Q E ⟨_, _, e, _⟩ => by rw [e]; rfl) (fun cdv A outer s1 H vs Q E hr h => ⟨_, pss_cons (ps_expr (pe_veinit (by rfl) bl.ve T.vV (pa_cons (pv 0) (pa_cons pe_str pa_nil)))) (pss_one (ps_ost (pv 0) (pv 1))), ?_⟩)
  obtain ⟨a, v, rfl, oex, nC, ha, q⟩ := h
  refine ⟨_, rfl, a, CR, _, rfl, by show 1 ≤ 1000; omega, oex, ha, ?_⟩
  exact ⟨_, rfl, _, rfl, a, CR, rfl, oex, nC, .inl ⟨ha, q⟩⟩
theorem sc_need : FnScope ["is_so", "code"] ["is_so", "code"] (defScope (top 62)) := ⟨rfl, rfl, rfl, by decide +kernel, rfl, by decide +kernel, by decide +kernel⟩
theorem ok_need (bl : Blt mg) (T : ClsR K mg CR) (D : DF K mg "need" (top 62) ["is_so", "code"] f) : FOk P w K mg base (L2.CX P w) 3 ["is_so", "code"] (spNeed CR) f := by
  obtain ⟨fI, fd, iC, tI, F, b⟩ := T.fn
  have FI : FnOk P w K mg base CX0 1 fI fd ["self", "code"] (spRInit K CR) := ok_Refused_init bl T F
  refine D.okX sc_need (fun vs H Q E ⟨_, _, e, _⟩ => by rw [e]; rfl) (fun f cdv A outer s1 H vs Q E hr h => ⟨_, pss_one (ps_if (pt_not (pt_val (pv 0))) (pss_one (ps_raise rfl (takes_of rfl rfl rfl rfl) (pmk_oex T.oex iC tI FI hr b .nil pass0 (by rfl) T.g (pa_cons (pv 1) pa_nil)))) pss_nil), ?_⟩)
  obtain ⟨c, code, rfl, h1, h2⟩ := h
  refine ⟨_, rfl, _, rfl, ?_⟩
  cases c with
  | true => exact iteF (h1 rfl)
  | false =>
    refine iteT ?_
    refine ⟨_, rfl, by show 1 ≤ 1000; omega, fun a ha => ?_⟩
    refine ⟨a, .int code, rfl, T.oex, T.nC, upd_same, fun dx hd hne => ⟨rfl, dx, _, upd_same, by rw [upd_ne hne, upd_same], by rw [upd_ne hne] at hd; exact hd, ?_⟩⟩
    rw [upd_ne hne] at hd
    refine h2 rfl dx _ (fun z o e => ?_) hd upd_same
    have n1 := ne_of_none e ha
    have n2 := ne_of_none e hd
    rw [upd_ne n2, del_ne n1, upd_ne n1, upd_ne n2, upd_ne n1]
    exact e
theorem chain_le {lo hi z : Int} {H : Hp} {Q : VK} (h : Q (.bl (Vakptc.inRange lo hi z)) H) : ∃ i j, V.int lo = .int i ∧ V.int z = .int j ∧ ∃ k, V.bl (decide (i ≤ j)) = .bl k ∧ (if k = true then ∃ i j, V.int z = .int i ∧ V.int hi = .int j ∧ Q (.bl (decide (i ≤ j))) H else Q (.bl false) H) := by
  unfold Vakptc.inRange at h
  refine ⟨_, _, rfl, rfl, _, rfl, ?_⟩
  refine ifd (fun c => ?_) (fun c => ?_)
  · rw [decide_eq_true c, Bool.true_and] at h
    exact ⟨_, _, rfl, rfl, h⟩
  · rw [decide_eq_false c, Bool.false_and] at h
    exact h
theorem sc_need_capacity : FnScope ["capacity"] ["capacity"] (defScope (top 63)) := ⟨rfl, rfl, rfl, by decide +kernel, rfl, by decide +kernel, by decide +kernel⟩
theorem ok_need_capacity (cn : Cn mg) (D : DF K mg "need_capacity" (top 63) ["capacity"] f) (c_need : CallOk P w K mg base (L2.CX P w) 3 "need" ["is_so", "code"] (spNeed CR)) : FOk P w K mg base (L2.CX P w) 4 ["capacity"] (spOne CR Vakptc.validCapacity (-1)) f := by
  refine D.okX sc_need_capacity (fun vs H Q E ⟨_, e, _⟩ => by rw [e]; rfl) (fun f cdv A outer s1 H vs Q E hr h => ⟨_, (pss_one (ps_expr (pe_callC c_need hr (by decide) (passes_call (takes_of rfl rfl rfl rfl) (fun _ _ _ _ h => h)) (pa_cons (pe_chain op_le op_le pe_int (pv 0) (pe_const cn.MOST_CAPACITY)) (pa_cons (pe_const cn.BAD_CAPACITY) pa_nil))))), ?_⟩)
  obtain ⟨z, rfl, h1, h2⟩ := h
  exact ⟨_, rfl, chain_le (lo := 0) (hi := 6) (z := z) (Q := fun x H1 => spNeed CR [x, .int (-1)] H1 (fun _ H1 => Q .non H1) E) ⟨_, _, rfl, h1, h2⟩⟩
theorem sc_need_policy : FnScope ["policy"] ["policy"] (defScope (top 64)) := ⟨rfl, rfl, rfl, by decide +kernel, rfl, by decide +kernel, by decide +kernel⟩
theorem ok_need_policy (cn : Cn mg) (D : DF K mg "need_policy" (top 64) ["policy"] f) (c_need : CallOk P w K mg base (L2.CX P w) 3 "need" ["is_so", "code"] (spNeed CR)) : FOk P w K mg base (L2.CX P w) 4 ["policy"] (spOne CR Vakptc.validPolicy (-2)) f := by
  refine D.okX sc_need_policy (fun vs H Q E ⟨_, e, _⟩ => by rw [e]; rfl) (fun f cdv A outer s1 H vs Q E hr h => ⟨_, (pss_one (ps_expr (pe_callC c_need hr (by decide) (passes_call (takes_of rfl rfl rfl rfl) (fun _ _ _ _ h => h)) (pa_cons (pe_chain op_le op_le pe_int (pv 0) (pe_const cn.MOST_POLICY)) (pa_cons (pe_const cn.BAD_POLICY) pa_nil))))), ?_⟩)
  obtain ⟨z, rfl, h1, h2⟩ := h
  exact ⟨_, rfl, chain_le (lo := 0) (hi := 4) (z := z) (Q := fun x H1 => spNeed CR [x, .int (-2)] H1 (fun _ H1 => Q .non H1) E) ⟨_, _, rfl, h1, h2⟩⟩
theorem sc_is_key : FnScope ["number"] ["number"] (defScope (top 65)) := ⟨rfl, rfl, rfl, by decide +kernel, rfl, by decide +kernel, by decide +kernel⟩
theorem ok_is_key (cn : Cn mg) (D : DF K mg "is_key" (top 65) ["number"] f) : FOk P w K mg base CX0 1 ["number"] spIsKey f := by
  refine D.ok sc_is_key (fun vs H Q E ⟨_, e, _⟩ => by rw [e]; rfl) (fun f cdv A outer s1 H vs Q E hr h => ⟨_, (pss_one (ps_ret (pe_chain op_le op_le pe_int (pv 0) (pe_const cn.MOST_KEY)))), ?_⟩)
  obtain ⟨z, rfl, q⟩ := h
  exact ⟨_, rfl, chain_le q⟩
theorem sc_need_key : FnScope ["key"] ["key"] (defScope (top 66)) := ⟨rfl, rfl, rfl, by decide +kernel, rfl, by decide +kernel, by decide +kernel⟩
theorem ok_need_key (cn : Cn mg) (D : DF K mg "need_key" (top 66) ["key"] f) (c_need : CallOk P w K mg base (L2.CX P w) 3 "need" ["is_so", "code"] (spNeed CR)) (c_is_key : CallOk P w K mg base CX0 1 "is_key" ["number"] spIsKey) : FOk P w K mg base (L2.CX P w) 4 ["key"] (spOne CR Vakptc.validKey (-3)) f := by
  refine D.okX sc_need_key (fun vs H Q E ⟨_, e, _⟩ => by rw [e]; rfl) (fun f cdv A outer s1 H vs Q E hr h => ⟨_, (pss_one (ps_expr (pe_callC c_need hr (by decide) (passes_call (takes_of rfl rfl rfl rfl) (fun _ _ _ _ h => h)) (pa_cons (pe_callC c_is_key hr (by decide) pass0 (pa_cons (pv 0) pa_nil)) (pa_cons (pe_const cn.BAD_KEY) pa_nil))))), ?_⟩)
  obtain ⟨z, rfl, h1, h2⟩ := h
  exact ⟨_, rfl, z, rfl, _, _, rfl, h1, h2⟩
theorem sc_need_keys : FnScope ["keys", "key"] ["keys"] (defScope (top 67)) := ⟨rfl, rfl, rfl, by decide +kernel, rfl, by decide +kernel, by decide +kernel⟩
theorem ok_need_keys (cn : Cn mg) (bl : Blt mg) (D : DF K mg "need_keys" (top 67) ["keys"] f) (c_need : CallOk P w K mg base (L2.CX P w) 3 "need" ["is_so", "code"] (spNeed CR)) (c_is_key : CallOk P w K mg base CX0 1 "is_key" ["number"] spIsKey) : FOk P w K mg base (L2.CX P w) 4 ["keys"] (spNeedKeys CR) f := by
  refine D.okX sc_need_keys (fun vs H Q E ⟨_, _, _, e, _⟩ => by rw [e]; rfl) (fun f cdv A outer s1 H vs Q E hr h => ⟨_, (pss_one (ps_expr (pe_callC c_need hr (by decide) (passes_call (takes_of rfl rfl rfl rfl) (fun _ _ _ _ h => h)) (pa_cons (pe_and (pe_cmpR op_le (pe_callB call_len_seq (by rfl) bl.len (by decide +kernel) (pa_cons (pv 0) pa_nil)) (pe_const cn.MOST_ELEMENTS) (nomark _)) (pe_one (pe_callB (cr_all rfl) (by rfl) bl.all (by decide +kernel) (pa_cons (pe_lc (own := [("key", 1)]) (g := (gName 1)) (tt := tYes) rfl sc_need_keys.nd (pi_list (pv 0)) (blkOk_by (own := [("key", 1)]) (N := ["keys", "key"]) (sc := defScope (top 67)) (by decide +kernel)) (fun _ _ _ _ _ => pg_name (i := 1) sc_need_keys.nd rfl (Or.inl rfl)) (fun _ _ _ _ _ => pts_nil) (fun _ _ _ _ _ => (pe_callC c_is_key hr (by decide) pass0 (pa_cons (pv 1) pa_nil)))) pa_nil)))) (pa_cons (pe_const cn.BAD_SEQUENCE) pa_nil))))), ?_⟩)
  obtain ⟨G, a, zs, rfl, s, ha, hz, h1, h2⟩ := h
  have ha' := s _ _ ha
  refine ⟨_, rfl, a, _, rfl, .inl (IntsAt.seq ha'), _, _, rfl, rfl, _, rfl, ?_⟩
  rw [List.length_map]
  unfold keysB at h1 h2
  refine ifd (fun c => ?_) (fun c => ?_)
  · rw [decide_eq_true (show zs.length ≤ 30 by omega), Bool.true_and] at h1 h2
    refine ⟨_, rfl, a, rfl, ⟨_, IntsAt.seq ha'⟩, fun D hD => ?_⟩
    refine lc_pure (fun v z => v = V.int z) zs (fun _ => true) (fun z => V.bl (Vakptc.validKey z)) hD (IntsAt.seq ha') (size_small (by rw [List.length_map]; omega)) (all2_map V.int zs) (fun x b H' Rt Rf r sm kt kf => ?_) ?_
    · subst r
      exact ⟨rfl, _, rfl, b, rfl, kt rfl⟩
    · have X := (Ext.refl s).hid hD (.lst ((zs.filter fun _ => true).map fun z => V.bl (Vakptc.validKey z)))
      have hl : upd H D (.lst ((zs.filter fun _ => true).map fun z => V.bl (Vakptc.validKey z))) D = some (.lst ((zs.map Vakptc.validKey).map V.bl)) := by
        rw [upd_same, filter_all, List.map_map]
        rfl
      refine ⟨D, _, rfl, .inl (.inl hl), ?_⟩
      rw [List.all_map]
      exact ⟨_, _, rfl, fun b => h1 b _ _ _ X rfl, fun b => (h2 b).mono X.same⟩
  · rw [decide_eq_false (show ¬ zs.length ≤ 30 by omega), Bool.false_and] at h1 h2
    exact ⟨_, _, rfl, fun b => (by cases b), fun b => h2 b⟩
theorem sc_need_size : FnScope ["key_bound", "most", "length"] ["key_bound", "most", "length"] (defScope (top 68)) := ⟨rfl, rfl, rfl, by decide +kernel, rfl, by decide +kernel, by decide +kernel⟩
theorem ok_need_size (cn : Cn mg) (D : DF K mg "need_size" (top 68) ["key_bound", "most", "length"] f) (c_need : CallOk P w K mg base (L2.CX P w) 3 "need" ["is_so", "code"] (spNeed CR)) : FOk P w K mg base (L2.CX P w) 4 ["key_bound", "most", "length"] (spNeedSize CR) f := by
  refine D.okX sc_need_size (fun vs H Q E ⟨_, _, _, e, _⟩ => by rw [e]; rfl) (fun f cdv A outer s1 H vs Q E hr h => ⟨_, (pss_one (ps_expr (pe_callC c_need hr (by decide) (passes_call (takes_of rfl rfl rfl rfl) (fun _ _ _ _ h => h)) (pa_cons (pe_and (pe_chain op_le op_le pe_int (pv 0) (pv 1)) (pe_one (pe_chain op_le op_le pe_int (pv 2) (pe_const cn.MOST_LENGTH)))) (pa_cons (pe_const cn.BAD_SIZE) pa_nil))))), ?_⟩)
  obtain ⟨kb, most, n, rfl, h1, h2⟩ := h
  unfold sizeB at h1 h2
  refine ⟨_, rfl, ?_⟩
  cases c : Vakptc.inRange 1 most kb with
  | true =>
    rw [c, Bool.true_and] at h1 h2
    have := c
    unfold Vakptc.inRange at this
    rw [Bool.and_eq_true, decide_eq_true_iff, decide_eq_true_iff] at this
    refine ⟨_, _, rfl, rfl, _, rfl, ?_⟩
    rw [decide_eq_true this.1]
    refine iteT ⟨_, rfl, _, _, rfl, rfl, _, rfl, ?_⟩
    rw [decide_eq_true this.2]
    exact iteT ⟨_, rfl, chain_le (lo := 0) (hi := 6) (z := n) (Q := fun x H1 => spNeed CR [x, .int (-6)] H1 (fun _ H1 => Q .non H1) E) ⟨_, _, rfl, h1, h2⟩⟩
  | false =>
    rw [c, Bool.false_and] at h1 h2
    have fin : spNeed CR [.bl false, .int (-6)] H (fun _ H1 => Q .non H1) E := ⟨_, _, rfl, fun b => (by cases b), h2⟩
    refine ⟨_, _, rfl, rfl, _, rfl, ?_⟩
    refine ifd (fun c1 => ?_) (fun c1 => ?_)
    · refine ⟨_, rfl, _, _, rfl, rfl, _, rfl, ?_⟩
      have c2 : ¬ kb ≤ most := fun z => by
        unfold Vakptc.inRange at c
        rw [decide_eq_true c1, decide_eq_true z] at c
        cases c
      rw [decide_eq_false c2]
      exact iteF fin
    · exact ⟨_, rfl, iteF fin⟩
theorem sc_listed : FnScope ["things"] ["things"] (defScope (top 69)) := ⟨rfl, rfl, rfl, by decide +kernel, rfl, by decide +kernel, by decide +kernel⟩
theorem ok_listed (bl : Blt mg) (D : DF K mg "listed" (top 69) ["things"] f) : FOk P w K mg base CX0 1 ["things"] spListed f := by
  refine D.ok sc_listed (fun vs H Q E ⟨_, _, _, e, _⟩ => by rw [e]; rfl) (fun f cdv A outer s1 H vs Q E hr h => ⟨_, (pss_one (ps_ret (pe_op op_cat (pe_lst (pa_cons (pe_callB call_len_seq (by rfl) bl.len (by decide +kernel) (pa_cons (pv 0) pa_nil)) pa_nil)) (pv 0)))), ?_⟩)
  obtain ⟨G, a, xs, rfl, s, ha, hz, post⟩ := h
  have ha' := s _ _ ha
  refine ⟨_, rfl, a, _, rfl, .inl (.inl (.inl ha')), by show 1 ≤ sizeLine; decide, fun p hp => ?_⟩
  have n1 : a ≠ p := ne_of_none ha' hp
  refine ⟨_, rfl, p, a, _, _, rfl, rfl, upd_same, by rw [upd_ne n1]; exact ha', size_le (by show 1 + xs.length ≤ _; omega), fun q hq => post _ _ _ (((Ext.refl s).hid hp _).made hq _) ⟨q, rfl, upd_same⟩⟩
theorem sc_Holder___init__ : FnScope ["self"] ["self"] (defScope (inClass (top 61) 0)) := ⟨rfl, rfl, rfl, by decide +kernel, rfl, by decide +kernel, by decide +kernel⟩
theorem ok_Holder_init (T : ClsH K CH) (D : DI K mg CH "Holder" "Holder.__init__" (inClass (top 61) 0) ["self"] f) (c_empty_cache : CallOk P w K mg base CX0 3 "empty_cache" ["capacity", "policy"] (spEmpty C)) : MakeOk P w K mg base CX0 4 CH "Holder" ["self"] (spHInit C CH) := by
  refine D.ok sc_Holder___init__ (fun vs H Q E ⟨_, _, _, e, _⟩ => by rw [e]; rfl) (fun f cdv A outer s1 H vs Q E hr h => ⟨_, (pss_one (ps_fld (pv 0) (pe_callC c_empty_cache hr (by decide) pass0 (pa_cons pe_int (pa_cons pe_int pa_nil))) rfl)), ?_⟩)
  obtain ⟨G, x, dx, rfl, s, gx, hx, q⟩ := h
  refine ⟨G, 0, 0, rfl, s, by omega, fun G2 H2 v X2 r => ?_⟩
  obtain ⟨c, rfl, hc⟩ := r
  have gx2 := X2.keep (by rw [hx]; exact fun z => by cases z) gx
  refine ⟨_, rfl, x, CH, dx, _, rfl, X2.same _ _ hx, T.cl, T.nC, by show 0 < 1000; decide, ?_⟩
  refine q G2 _ c (fun b o e hb => by rw [upd_ne hb]; exact X2.same _ _ e) X2.ext (fun b o e => ?_) X2.new upd_same hc
  rw [upd_ne (ne_of_none e gx2)]
  exact X2.sub _ _ e
theorem sc_Holder_put : FnScope ["self", "cache"] ["self", "cache"] (defScope (inClass (top 61) 1)) := ⟨rfl, rfl, rfl, by decide +kernel, rfl, by decide +kernel, by decide +kernel⟩
theorem ok_Holder_put (T : ClsH K CH) (D : DM K CH "put" "Holder.put" (inClass (top 61) 1) ["self", "cache"] f) : FOk P w K mg base CX0 1 ["self", "cache"] (spPut CH) f := by
  refine D.ok sc_Holder_put (fun vs H Q E ⟨_, _, _, _, e, _⟩ => by rw [e]; rfl) (fun f cdv A outer s1 H vs Q E hr h => ⟨_, (pss_one (ps_fld (pv 0) (pv 1) rfl)), ?_⟩)
  obtain ⟨x, dx, c, c', rfl, hx, q⟩ := h
  exact ⟨_, rfl, _, rfl, x, CH, dx, _, rfl, hx, T.cl, T.nC, by show 1 < 1000; decide, q⟩
end
end Ks
/-! The operations, the first half. -/
namespace Ks
open PySem PySem.Spec PyProof.Rows L2
open Vakptc (Cache access accessAll emptyCache contains step natural withLength flag validCapacity validPolicy validKey selectVictim)
def ListsAt (G : Hp) (a : Addr) (ls : List (List Int)) : Prop := ∃ ws, G a = some (.lst ws) ∧ All2 (fun v r => ∃ q, v = V.ref q ∧ IntsAt G q r) ws ls
theorem ListsAt.mono {G G' : Hp} {a : Addr} {ls : List (List Int)} (s : Same G G') (h : ListsAt G a ls) : ListsAt G' a ls := by
  obtain ⟨ws, r, q⟩ := h
  exact ⟨ws, s _ _ r, q.imp fun _ _ ⟨q, e, z⟩ => ⟨q, e, z.mono s⟩⟩
theorem IntsAt.ofNats {G : Hp} {a : Addr} {l : List Nat} (h : G a = some (.lst (l.map vN))) : IntsAt G a (l.map fun n : Nat => (n : Int)) := by
  show G a = _
  rw [List.map_map]
  exact h
/-- what is wanted behind an operation: the holder's cache, the answer's numbers -/
def Done (C CH : Addr) (G H : Hp) (h dx : Addr) (st : Cache) (vals : List Int) (Q : VK) : Prop := ∀ (G' H' : Hp) (c' p : Addr), (∀ b o, H b = some o → b ≠ h → H' b = some o) → Same G G' → Same G' H' → (∀ b, H b ≠ none → G b = none → G' b = none) →
  H' h = some (.ins CH dx (hF c')) → CacheAt C G' c' st → IntsAt G' p vals → Q (.ref p) H'
section
variable {C CH : Addr} {G H : Hp} {h dx c : Addr} {st : Cache} {vals : List Int} {Q : VK}
theorem Done.stay (d : Done C CH G H h dx st vals Q) (hh : H h = some (.ins CH dx (hF c))) (hc : CacheAt C G c st) {G' H' : Hp} {p : Addr} (X : Ext G H G' H') (hp : IntsAt G' p vals) : Q (.ref p) H' :=
  d G' H' c p (fun b o e _ => X.same _ _ e) X.ext X.sub X.new (X.same _ _ hh) (hc.mono X.ext) hp
theorem Done.put (d : Done C CH G H h dx st vals Q) (hh : H h = some (.ins CH dx (hF c))) (gh : G h = none) {G1 H1 G2 H2 : Hp} {c' p : Addr} (X1 : Ext G H G1 H1) (hc : CacheAt C G1 c' st) (X2 : Ext G1 (upd H1 h (.ins CH dx (hF c'))) G2 H2)
    (hp : IntsAt G2 p vals) : Q (.ref p) H2 := by
  have g1 : G1 h = none := X1.keep (by rw [hh]; exact fun z => by cases z) gh
  refine d G2 H2 c' p (fun b o e hb => X2.same _ _ (by rw [upd_ne hb]; exact X1.same _ _ e)) (X1.ext.trans X2.ext) X2.sub (fun b e g => X2.new b (fun z => ?_) (X1.new b e g)) (X2.same _ _ upd_same) (hc.mono X2.ext) hp
  by_cases hb : b = h
  · rw [hb, upd_same] at z
    cases z
  · rw [upd_ne hb] at z
    exact e (X1.same.free z)
/-- the heaps behind a store -/
theorem Ext.atPut {G H G1 H1 : Hp} {h dx c c' CH : Addr} (X1 : Ext G H G1 H1) (hh : H h = some (.ins CH dx (hF c))) (gh : G h = none) : Same G1 (upd H1 h (.ins CH dx (hF c'))) := fun b o e => by
  have g1 : G1 h = none := X1.keep (by rw [hh]; exact fun z => by cases z) gh
  rw [upd_ne (ne_of_none e g1)]
  exact X1.sub _ _ e
end
section
variable (C CH CR : Addr)
/-- what an operation, the i-th, promises -/
def spDeed (i : Int) : Sp := fun vs H Q E => ∃ (G : Hp) (h dx c n l : Addr) (st : Cache) (ns : List Int) (ls : List (List Int)) (k : Vakptc.Call), vs = [.ref h, .ref n, .ref l] ∧ Same G H ∧ G h = none ∧ H h = some (.ins CH dx (hF c)) ∧ CacheAt C G c st ∧ IntsAt G n ns ∧ ListsAt G l ls ∧
  VakptcNeutral.callOf ((i :: ns) :: ls) = some k ∧ (∀ r ∈ ls, r.length ≤ 1000 ∧ ∀ z ∈ r, 0 ≤ z) ∧ (∀ code, (step st k).2 = .error code → Refuse CR E H code) ∧ (∀ vals, (step st k).2 = .numbers vals → Done C CH G H h dx (step st k).1 vals Q)
end
theorem ListsAt.one {K : PySem.W.Frag} {G H : Hp} {l : Addr} {r : List Int} (h : ListsAt G l [r]) (s : Same G H) : ∃ q, SqL K H l [.ref q] ∧ IntsAt G q r := by
  obtain ⟨ws, hw, al⟩ := h
  cases al with
  | cons h1 al =>
    cases al
    obtain ⟨q, rfl, hq⟩ := h1
    exact ⟨q, .inl (.inl (s _ _ hw)), hq⟩
theorem ListsAt.two {K : PySem.W.Frag} {G H : Hp} {l : Addr} {r e : List Int} (h : ListsAt G l [r, e]) (s : Same G H) : ∃ q u, SqL K H l [.ref q, .ref u] ∧ IntsAt G q r ∧ IntsAt G u e := by
  obtain ⟨ws, hw, al⟩ := h
  cases al with
  | cons h1 al =>
    cases al with
    | cons h2 al =>
      cases al
      obtain ⟨q, rfl, hq⟩ := h1
      obtain ⟨u, rfl, hu⟩ := h2
      exact ⟨q, u, .inl (.inl (s _ _ hw)), hq, hu⟩
section
variable {P : Program} {w : World} {K : PySem.W.Frag} {mg : Str → Option Value} {base : Heap} {C CH CR f : Addr}
theorem sc_configure : FnScope ["holder", "numbers", "lists", "capacity", "policy"] ["holder", "numbers", "lists"] (defScope (top 70)) := ⟨rfl, rfl, rfl, by decide +kernel, rfl, by decide +kernel, by decide +kernel⟩
theorem ok_configure (T : ClsC K C) (TH : ClsH K CH) (D : DF K mg "configure" (top 70) ["holder", "numbers", "lists"] f) (c_need_capacity : CallOk P w K mg base (L2.CX P w) 4 "need_capacity" ["capacity"] (spOne CR validCapacity (-1))) (c_need_policy : CallOk P w K mg base (L2.CX P w) 4 "need_policy" ["policy"] (spOne CR validPolicy (-2)))
    (c_empty_cache : CallOk P w K mg base CX0 3 "empty_cache" ["capacity", "policy"] (spEmpty C)) (m_put : MethOk P w K mg base CX0 1 CH "put" ["self", "cache"] (spPut CH)) : FOk P w K mg base (L2.CX P w) 5 ["holder", "numbers", "lists"] (spDeed C CH CR 0) f := by
  have clH := TH.cl
  refine D.okX sc_configure (fun vs H Q E ⟨_, _, _, _, _, _, _, _, _, _, e, _⟩ => by rw [e]; rfl) (fun f cdv A outer s1 H vs Q E hr h => ⟨_, (pss_cons (ps_asg (pv 1) (pg_unl rfl (pgs_cons (pg_name (i := 3) sc_configure.nd rfl (Or.inl rfl)) (pgs_cons (pg_name (i := 4) sc_configure.nd rfl (Or.inl rfl)) pgs_nil)))) (pss_cons (ps_expr (pe_callC c_need_capacity hr (by decide) (passes_call (takes_of rfl rfl rfl rfl) (fun _ _ _ _ h => h)) (pa_cons (pv 3) pa_nil))) (pss_cons (ps_expr (pe_callC c_need_policy hr (by decide) (passes_call (takes_of rfl rfl rfl rfl) (fun _ _ _ _ h => h)) (pa_cons (pv 4) pa_nil))) (pss_cons (ps_expr (pe_mC (pv 0) clH m_put hr (by decide) pass0 (pa_cons (pe_callC c_empty_cache hr (by decide) pass0 (pa_cons (pv 3) (pa_cons (pv 4) pa_nil))) pa_nil))) (pss_one (ps_ret (pe_lst (pa_cons pe_int pa_nil)))))))), ?_⟩)
  obtain ⟨G, h, dx, c, n, l, st, ns, ls, k, rfl, s, gh, hh, hc, hn, hl, hk, hb, he, hd⟩ := h
  obtain ⟨r, p, rfl, rfl, rfl⟩ := co0 hk
  refine ⟨_, rfl, n, _, rfl, .inl (.inl (s _ _ hn)), rfl, _, _, rfl, _, _, rfl, rfl, ?_⟩
  refine ⟨_, rfl, r, rfl, fun h1 => ?_, fun h1 => he _ (by rw [s_conf1 h1])⟩
  refine ⟨_, rfl, p, rfl, fun h2 => ?_, fun h2 => he _ (by rw [s_conf2 h1 h2])⟩
  obtain ⟨cap, rfl, hcap⟩ := nat_cap h1
  obtain ⟨po, rfl, hpo⟩ := nat_pol h2
  have e := s_conf (st := st) h1 h2
  rw [e] at hd
  refine ⟨_, rfl, h, dx, _, rfl, hh, hF_put c, _, rfl, _, rfl, G, cap, po, rfl, s, by omega, fun G1 H1 v X1 r1 => ?_⟩
  obtain ⟨c', rfl, hc'⟩ := r1
  refine ⟨h, dx, c, c', rfl, X1.same _ _ hh, ?_⟩
  refine ⟨by show 1 ≤ sizeLine; decide, fun q hq => ?_⟩
  exact (hd _ rfl).put hh gh X1 hc' ((Ext.refl (X1.atPut hh gh)).made hq _) (IntsAt.ofNats (l := [0]) upd_same)
theorem sc_access : FnScope ["holder", "numbers", "lists", "key", "cache", "later", "gone"] ["holder", "numbers", "lists"] (defScope (top 71)) := ⟨rfl, rfl, rfl, by decide +kernel, rfl, by decide +kernel, by decide +kernel⟩
theorem ok_access (T : ClsC K C) (TH : ClsH K CH) (D : DF K mg "access" (top 71) ["holder", "numbers", "lists"] f) (c_need_key : CallOk P w K mg base (L2.CX P w) 4 "need_key" ["key"] (spOne CR validKey (-3))) (m_has : MethOk P w K mg base CX0 3 C "has" ["self", "key"] (spHas C)) (m_hit : MethOk P w K mg base CX0 3 C "hit" ["self", "key"] (spHit C))
    (m_missed : MethOk P w K mg base CX0 5 C "missed" ["self", "key"] (spMissed C)) (m_put : MethOk P w K mg base CX0 1 CH "put" ["self", "cache"] (spPut CH)) (c_listed : CallOk P w K mg base CX0 1 "listed" ["things"] spListed) : FOk P w K mg base (L2.CX P w) 6 ["holder", "numbers", "lists"] (spDeed C CH CR 1) f := by
  have cl := T.cl
  have clH := TH.cl
  refine D.okX sc_access (fun vs H Q E ⟨_, _, _, _, _, _, _, _, _, _, e, _⟩ => by rw [e]; rfl) (fun f cdv A outer s1 H vs Q E hr h => ⟨_, (pss_cons (ps_set (i := 3) sc_access.nd rfl (Or.inl rfl) (pe_ix ix_list (pv 1) pe_int (fun _ _ => rfl))) (pss_cons (ps_expr (pe_callC c_need_key hr (by decide) (passes_call (takes_of rfl rfl rfl rfl) (fun _ _ _ _ h => h)) (pa_cons (pv 3) pa_nil))) (pss_cons (ps_set (i := 4) sc_access.nd rfl (Or.inl rfl) (pe_fld (pv 0) rfl)) (pss_cons (ps_if (pt_val (pe_mC (pv 4) cl m_has hr (by decide) pass0 (pa_cons (pv 3) pa_nil))) (pss_cons (ps_expr (pe_mC (pv 0) clH m_put hr (by decide) pass0 (pa_cons (pe_mC (pv 4) cl m_hit hr (by decide) pass0 (pa_cons (pv 3) pa_nil)) pa_nil))) (pss_one (ps_ret (pe_op op_cat (pe_lst (pa_cons pe_int pa_nil)) (pe_callC c_listed hr (by decide) pass0 (pa_cons (pe_lst pa_nil) pa_nil)))))) pss_nil) (pss_cons (ps_asg (pe_mC (pv 4) cl m_missed hr (by decide) pass0 (pa_cons (pv 3) pa_nil)) (pg_tup rfl (pgs_cons (pg_name (i := 5) sc_access.nd rfl (Or.inl rfl)) (pgs_cons (pg_name (i := 6) sc_access.nd rfl (Or.inl rfl)) pgs_nil)))) (pss_cons (ps_expr (pe_mC (pv 0) clH m_put hr (by decide) pass0 (pa_cons (pv 5) pa_nil))) (pss_one (ps_ret (pe_op op_cat (pe_lst (pa_cons pe_int pa_nil)) (pe_callC c_listed hr (by decide) pass0 (pa_cons (pv 6) pa_nil))))))))))), ?_⟩)
  obtain ⟨G, h, dx, c, n, l, st, ns, ls, k, rfl, s, gh, hh, hc, hn, hl, hk, hb, he, hd⟩ := h
  obtain ⟨z, rfl, rfl, rfl⟩ := co1 hk
  refine ⟨_, rfl, n, _, 0, _, rfl, rfl, .inl (.inl (s _ _ hn)), rfl, ?_⟩
  refine ⟨_, rfl, z, rfl, fun h1 => ?_, fun h1 => he _ (by rw [s_acc1 h1])⟩
  obtain ⟨k, rfl, hkk⟩ := nat_key h1
  have e := s_acc (st := st) h1
  rw [e] at hd
  have hd := hd _ rfl
  have hc0 := hc
  obtain ⟨wf, dc, lc, hcc, _⟩ := hc0
  have nofld : ∀ {x : Str}, (x == ("capacity" : Str)) = false → (x == ("policy" : Str)) = false → (x == ("entries" : Str)) = false → (x == ("number" : Str)) = false → (x == ("misses" : Str)) = false → (cF st lc).lookup x = none := fun {x} a b d e f => cF_not st lc a b d e f
  refine ⟨_, rfl, h, CH, dx, _, _, rfl, hh, TH.cl, TH.nC, hF_cache c, ?_⟩
  refine ⟨_, rfl, c, dc, _, rfl, s _ _ hcc, nofld (by decide +kernel) (by decide +kernel) (by decide +kernel) (by decide +kernel) (by decide +kernel), _, rfl, G, c, st, k, rfl, s, hc, fun G1 H1 v X1 r1 => ?_⟩
  subst r1
  refine ⟨_, rfl, ?_⟩
  have hcc1 := X1.same _ _ (s _ _ hcc)
  cases hin : contains st k with
  | true =>
    rw [acc_hit hin, hin] at hd
    refine iteT ?_
    refine ⟨_, rfl, h, dx, _, rfl, X1.same _ _ hh, hF_put c, _, rfl, c, dc, _, rfl, hcc1, nofld (by decide +kernel) (by decide +kernel) (by decide +kernel) (by decide +kernel) (by decide +kernel), _, rfl, G1, c, st, k, rfl, X1.sub, hc.mono X1.ext, fun G2 H2 v X2 r2 => ?_⟩
    obtain ⟨c', rfl, hc'⟩ := r2
    have X12 := X1.trans X2
    refine ⟨h, dx, c, c', rfl, X12.same _ _ hh, ?_⟩
    have R0 := Ext.refl (X12.atPut (c' := c') hh gh)
    generalize hU : upd H2 h (.ins CH dx (hF c')) = U at R0 ⊢
    refine ⟨by show 1 ≤ sizeLine; decide, fun p1 hp1 => ⟨by show 0 ≤ sizeLine; decide, fun p2 hp2 => ?_⟩⟩
    have R1 := R0.hid hp1 (.lst [.int 1])
    have R2 := R1.made hp2 (.lst [])
    have hU1 : upd U p1 (.lst [.int 1]) p1 = some (.lst [.int 1]) := upd_same
    refine ⟨_, p2, [], rfl, R2.sub, upd_same, by show 0 ≤ 10000; omega, fun G3 H3 v X3 r3 => ?_⟩
    obtain ⟨q, rfl, hq⟩ := r3
    have hp1' := X3.same _ _ (same_upd hp2 _ _ hU1)
    refine ⟨p1, q, _, _, rfl, rfl, hp1', X3.sub _ _ hq, by show 1 + 1 ≤ sizeLine; decide, fun t ht => ?_⟩
    have R3 := (R2.trans X3).made ht (.lst ([.int 1] ++ vN 0 :: []))
    rw [← hU] at R3
    exact hd.put hh gh X12 hc' R3 (IntsAt.ofNats (l := [1, 0]) upd_same)
  | false =>
    rw [acc_miss hin, hin] at hd
    refine iteF ?_
    refine ⟨_, rfl, c, dc, _, rfl, hcc1, nofld (by decide +kernel) (by decide +kernel) (by decide +kernel) (by decide +kernel) (by decide +kernel), _, rfl, G1, c, st, k, rfl, X1.sub, hc.mono X1.ext, hin, fun G2 H2 v X2 r2 => ?_⟩
    obtain ⟨t, y, q, rfl, ht, ⟨c', rfl, hc'⟩, hq⟩ := r2
    have X12 := X1.trans X2
    refine ⟨t, _, rfl, .inl (.inl (X2.sub _ _ ht)), rfl, _, _, rfl, _, _, rfl, rfl, ?_⟩
    refine ⟨_, rfl, h, dx, _, rfl, X12.same _ _ hh, hF_put c, _, rfl, h, dx, c, c', rfl, X12.same _ _ hh, ?_⟩
    have R0 := Ext.refl (X12.atPut (c' := c') hh gh)
    generalize hU : upd H2 h (.ins CH dx (hF c')) = U at R0 ⊢
    refine ⟨by show 1 ≤ sizeLine; decide, fun p1 hp1 => ?_⟩
    have R1 := R0.hid hp1 (.lst [.int 0])
    have hU1 : upd U p1 (.lst [.int 0]) p1 = some (.lst [.int 0]) := upd_same
    have gl : (goneC st k).length ≤ 1 := by
      unfold goneC
      cases (Vakptc.insertKey st (st.hits + st.misses + 1) k).2 <;> simp
    refine ⟨_, rfl, G2, q, _, rfl, R1.sub, hq, by rw [List.length_map]; omega, fun G3 H3 v X3 r3 => ?_⟩
    obtain ⟨u, rfl, hu⟩ := r3
    have hp1' := X3.same _ _ hU1
    refine ⟨p1, u, _, _, rfl, rfl, hp1', X3.sub _ _ hu, size_le (by show 1 + (((goneC st k).map vN).length + 1) ≤ 100000; rw [List.length_map]; omega), fun t2 ht2 => ?_⟩
    have R3 := (R1.trans X3).made ht2 (.lst ([.int 0] ++ vN ((goneC st k).map vN).length :: (goneC st k).map vN))
    rw [← hU] at R3
    refine hd.put hh gh X12 hc' R3 (IntsAt.ofNats (l := 0 :: withLength (goneC st k)) ?_)
    rw [upd_same, List.length_map]
    rfl
theorem sc_remove : FnScope ["holder", "numbers", "lists", "key", "was_there"] ["holder", "numbers", "lists"] (defScope (top 72)) := ⟨rfl, rfl, rfl, by decide +kernel, rfl, by decide +kernel, by decide +kernel⟩
theorem ok_remove (bl : Blt mg) (T : ClsC K C) (TH : ClsH K CH) (D : DF K mg "remove" (top 72) ["holder", "numbers", "lists"] f) (c_need_key : CallOk P w K mg base (L2.CX P w) 4 "need_key" ["key"] (spOne CR validKey (-3))) (m_has : MethOk P w K mg base CX0 3 C "has" ["self", "key"] (spHas C))
    (m_removed : MethOk P w K mg base CX0 4 C "removed" ["self", "key"] (spRemoved C)) (m_put : MethOk P w K mg base CX0 1 CH "put" ["self", "cache"] (spPut CH)) : FOk P w K mg base (L2.CX P w) 5 ["holder", "numbers", "lists"] (spDeed C CH CR 2) f := by
  have cl := T.cl
  have clH := TH.cl
  refine D.okX sc_remove (fun vs H Q E ⟨_, _, _, _, _, _, _, _, _, _, e, _⟩ => by rw [e]; rfl) (fun f cdv A outer s1 H vs Q E hr h => ⟨_, (pss_cons (ps_set (i := 3) sc_remove.nd rfl (Or.inl rfl) (pe_ix ix_list (pv 1) pe_int (fun _ _ => rfl))) (pss_cons (ps_expr (pe_callC c_need_key hr (by decide) (passes_call (takes_of rfl rfl rfl rfl) (fun _ _ _ _ h => h)) (pa_cons (pv 3) pa_nil))) (pss_cons (ps_set (i := 4) sc_remove.nd rfl (Or.inl rfl) (pe_mC (pe_fld (pv 0) rfl) cl m_has hr (by decide) pass0 (pa_cons (pv 3) pa_nil))) (pss_cons (ps_expr (pe_mC (pv 0) clH m_put hr (by decide) pass0 (pa_cons (pe_mC (pe_fld (pv 0) rfl) cl m_removed hr (by decide) pass0 (pa_cons (pv 3) pa_nil)) pa_nil))) (pss_one (ps_ret (pe_lst (pa_cons (pe_callTy call_int1 (by rfl) bl.int (by decide +kernel) (pa_cons (pv 4) pa_nil)) pa_nil)))))))), ?_⟩)
  obtain ⟨G, h, dx, c, n, l, st, ns, ls, k, rfl, s, gh, hh, hc, hn, hl, hk, hb, he, hd⟩ := h
  obtain ⟨z, rfl, rfl, rfl⟩ := co2 hk
  refine ⟨_, rfl, n, _, 0, _, rfl, rfl, .inl (.inl (s _ _ hn)), rfl, ?_⟩
  refine ⟨_, rfl, z, rfl, fun h1 => ?_, fun h1 => he _ (by rw [s_rem1 h1])⟩
  obtain ⟨k, rfl, hkk⟩ := nat_key h1
  have e := s_rem (st := st) h1
  rw [e] at hd
  have hd := hd _ rfl
  have hc0 := hc
  obtain ⟨wf, dc, lc, hcc, _⟩ := hc0
  have nofld : ∀ {x : Str}, (x == ("capacity" : Str)) = false → (x == ("policy" : Str)) = false → (x == ("entries" : Str)) = false → (x == ("number" : Str)) = false → (x == ("misses" : Str)) = false → (cF st lc).lookup x = none := fun {x} a b d e f => cF_not st lc a b d e f
  refine ⟨_, rfl, h, CH, dx, _, _, rfl, hh, TH.cl, TH.nC, hF_cache c, c, dc, _, rfl, s _ _ hcc, nofld (by decide +kernel) (by decide +kernel) (by decide +kernel) (by decide +kernel) (by decide +kernel), _, rfl, G, c, st, k, rfl, s, hc, fun G1 H1 v X1 r1 => ?_⟩
  subst r1
  refine ⟨_, rfl, h, dx, _, rfl, X1.same _ _ hh, hF_put c, _, rfl, h, CH, dx, _, _, rfl, X1.same _ _ hh, TH.cl, TH.nC, hF_cache c, c, dc, _, rfl, X1.same _ _ (s _ _ hcc), nofld (by decide +kernel) (by decide +kernel) (by decide +kernel) (by decide +kernel) (by decide +kernel), _, rfl, G1, c, st, k, rfl, X1.sub, hc.mono X1.ext, fun G2 H2 v X2 r2 => ?_⟩
  obtain ⟨c', rfl, hc'⟩ := r2
  have X12 := X1.trans X2
  refine ⟨h, dx, c, c', rfl, X12.same _ _ hh, ?_⟩
  refine ⟨_, rfl, .inr ⟨_, rfl, by show 1 ≤ sizeLine; decide, fun q hq => ?_⟩⟩
  refine hd.put hh gh X12 hc' ((Ext.refl (X12.atPut hh gh)).made hq _) (IntsAt.ofNats (l := [flag (contains st k)]) ?_)
  rw [upd_same]
  cases contains st k <;> rfl
theorem sc_contents : FnScope ["holder", "numbers", "lists", "found", "entry"] ["holder", "numbers", "lists"] (defScope (top 73)) := ⟨rfl, rfl, rfl, by decide +kernel, rfl, by decide +kernel, by decide +kernel⟩
theorem ok_contents (cn : Cn mg) (bl : Blt mg) (T : ClsC K C) (TH : ClsH K CH) (D : DF K mg "contents" (top 73) ["holder", "numbers", "lists"] f) : FOk P w K mg base CX0 1 ["holder", "numbers", "lists"] (spDeed C CH CR 3) f := by
  refine D.ok sc_contents (fun vs H Q E ⟨_, _, _, _, _, _, _, _, _, _, e, _⟩ => by rw [e]; rfl) (fun f cdv A outer s1 H vs Q E hr h => ⟨_, (pss_cons (ps_set (i := 3) sc_contents.nd rfl (Or.inl rfl) (pe_lst (pa_cons (pe_callB call_len_seq (by rfl) bl.len (by decide +kernel) (pa_cons (pe_fld (pe_fld (pv 0) rfl) rfl) pa_nil)) pa_nil))) (pss_cons (ps_for PassesOwn.never rfl (pi_list (pe_fld (pe_fld (pv 0) rfl) rfl)) (pg_name (i := 4) sc_contents.nd rfl (Or.inl rfl)) (pss_one (ps_expr (pe_bm PySem.F.plainAttrs_list PySem.F.slot_list_extend PySem.F.type_list_extend mt_extend (pv 3) (pa_cons (pe_lst (pa_cons (pe_ix (show IxR _ (rIxT K) from ix_tup) (pv 4) (pe_const cn.KEY) (fun _ _ => rfl)) (pa_cons (pe_ix (show IxR _ (rIxT K) from ix_tup) (pv 4) (pe_const cn.COUNT) (fun _ _ => rfl)) (pa_cons (pe_ix (show IxR _ (rIxT K) from ix_tup) (pv 4) (pe_const cn.BIT) (fun _ _ => rfl)) pa_nil)))) pa_nil))))) (pss_one (ps_ret (pv 3))))), ?_⟩)
  obtain ⟨G, h, dx, c, n, l, st, ns, ls, k, rfl, s, gh, hh, hc, hn, hl, hk, hb, he, hd⟩ := h
  obtain ⟨rfl, rfl, rfl⟩ := co3 hk
  rw [s_cont] at hd
  have hd := hd _ rfl
  have hc0 := hc
  obtain ⟨wf, dc, lc, hcc, ts, hts, al⟩ := hc0
  have w1 := wf.len
  have w2 := wf.cap
  refine ⟨_, rfl, h, CH, dx, _, _, rfl, hh, TH.cl, TH.nC, hF_cache c, c, C, dc, _, _, rfl, s _ _ hcc, T.cl, T.nE, cF_entries st lc, lc, ts, rfl, .inl (.inl (.inl (s _ _ hts))), by show 1 ≤ sizeLine; decide, fun D hD => ?_⟩
  have gD := s.free hD
  have X0 := (Ext.refl s).put hD gD (.lst [vN ts.length])
  refine ⟨_, rfl, h, CH, dx, _, _, rfl, X0.same _ _ hh, TH.cl, TH.nC, hF_cache c, c, C, dc, _, _, rfl, X0.same _ _ (s _ _ hcc), T.cl, T.nE, cF_entries st lc, lc, rfl, ⟨_, .inl (.inl (X0.same _ _ (s _ _ hts)))⟩,
    for_list (K := K) (a := lc) (xs := ts) (fun i σ H' => ∃ y, σ = [some (.ref h), some (.ref n), some (.ref l), some (.ref D), y] ∧ Ext G H G H' ∧ H' D = some (.lst ((st.entries.length :: (st.entries.take i).flatMap fun e => [e.key, e.useCount, flag e.referenced]).map vN)))
    ⟨none, rfl, X0, by rw [upd_same, al.len]; rfl⟩ (fun i σ H' _ ⟨y, _, X, _⟩ => .inl (.inl (X.same _ _ (s _ _ hts)))) ?_ ?_⟩
  · rintro i x σ H' hx ⟨y, rfl, X, hg⟩
    obtain ⟨e, hei, p, rfl, hp⟩ := al.get hx
    have q : SqT K H' p (entV e) := .inl (.inl (X.sub _ _ hp))
    refine ⟨_, rfl, .inl ⟨rfl, _, .inl (.inl hg)⟩, _, rfl, p, _, 0, _, rfl, rfl, q, rfl, _, rfl, p, _, 2, _, rfl, rfl, q, rfl, _, rfl, p, _, 3, _, rfl, rfl, q, rfl, by show 3 ≤ sizeLine; decide, fun b hb => ?_⟩
    have nDb : D ≠ b := ne_of_none hg hb
    have hi := lt_of_get hei
    have lz : ((st.entries.length :: (st.entries.take i).flatMap fun e => [e.key, e.useCount, flag e.referenced]).map vN).length ≤ 100 := by
      rw [List.length_map, List.length_cons, List.length_flatMap]
      have : (st.entries.take i).map (fun e => [e.key, e.useCount, flag e.referenced].length) = List.replicate (st.entries.take i).length 3 := by
        rw [List.eq_replicate_iff]
        refine ⟨List.length_map _, fun b hb => ?_⟩
        obtain ⟨_, _, rfl⟩ := List.mem_map.mp hb
        rfl
      rw [this, List.sum_replicate_nat, List.length_take]
      omega
    refine ⟨D, b, _, _, rfl, rfl, by rw [upd_ne nDb]; exact hg, upd_same, size_le (by rw [show ∀ a b d : V, [a, b, d].length = 3 from fun _ _ _ => rfl]; omega), ?_⟩
    refine ⟨_, rfl, (X.hid hb _).put hD gD _, ?_⟩
    rw [upd_same, take_snoc hei, List.flatMap_append]
    simp only [List.map_cons, List.map_append, List.flatMap_cons, List.flatMap_nil, List.append_nil, List.map_nil, List.cons_append]
    rfl
  · rintro σ H' ⟨y, rfl, X, hg⟩
    rw [al.len, List.take_length] at hg
    exact ⟨_, rfl, hd.stay hh hc (X.tell hD gD hg) (IntsAt.ofNats upd_same)⟩
theorem sc_next_victim : FnScope ["holder", "numbers", "lists", "victim", "kept"] ["holder", "numbers", "lists"] (defScope (top 74)) := ⟨rfl, rfl, rfl, by decide +kernel, rfl, by decide +kernel, by decide +kernel⟩
theorem ok_next_victim (cn : Cn mg) (T : ClsC K C) (TH : ClsH K CH) (D : DF K mg "next_victim" (top 74) ["holder", "numbers", "lists"] f) (m_is_full : MethOk P w K mg base CX0 1 C "is_full" ["self"] (spFull C)) (m_evicted : MethOk P w K mg base CX0 4 C "evicted" ["self"] (spEvicted C)) : FOk P w K mg base CX0 5 ["holder", "numbers", "lists"] (spDeed C CH CR 4) f := by
  have cl := T.cl
  refine D.ok sc_next_victim (fun vs H Q E ⟨_, _, _, _, _, _, _, _, _, _, e, _⟩ => by rw [e]; rfl) (fun f cdv A outer s1 H vs Q E hr h => ⟨_, (pss_cons (ps_if (pt_not (pt_val (pe_mC0 (pe_fld (pv 0) rfl) cl m_is_full hr (by decide) pass0))) (pss_one (ps_ret (pe_lst (pa_cons pe_int pa_nil)))) pss_nil) (pss_cons (ps_asg (pe_mC0 (pe_fld (pv 0) rfl) cl m_evicted hr (by decide) pass0) (pg_tup rfl (pgs_cons (pg_name (i := 3) sc_next_victim.nd rfl (Or.inl rfl)) (pgs_cons (pg_name (i := 4) sc_next_victim.nd rfl (Or.inl rfl)) pgs_nil)))) (pss_one (ps_ret (pe_lst (pa_cons pe_int (pa_cons (pe_ix (show IxR _ (rIxT K) from ix_tup) (pv 3) (pe_const cn.KEY) (fun _ _ => rfl)) pa_nil))))))), ?_⟩)
  obtain ⟨G, h, dx, c, n, l, st, ns, ls, k, rfl, s, gh, hh, hc, hn, hl, hk, hb, he, hd⟩ := h
  obtain ⟨rfl, rfl, rfl⟩ := co4 hk
  have hc0 := hc
  obtain ⟨wf, dc, lc, hcc, _⟩ := hc0
  have nofld : ∀ {x : Str}, (x == ("capacity" : Str)) = false → (x == ("policy" : Str)) = false → (x == ("entries" : Str)) = false → (x == ("number" : Str)) = false → (x == ("misses" : Str)) = false → (cF st lc).lookup x = none := fun {x} a b d e f => cF_not st lc a b d e f
  refine ⟨_, rfl, h, CH, dx, _, _, rfl, hh, TH.cl, TH.nC, hF_cache c, c, dc, _, rfl, s _ _ hcc, nofld (by decide +kernel) (by decide +kernel) (by decide +kernel) (by decide +kernel) (by decide +kernel), c, st, rfl, hc.mono s, _, rfl, ?_⟩
  cases hf : full st with
  | false =>
    rw [s_vic0 (full_f wf hf)] at hd
    refine iteT ⟨by show 1 ≤ sizeLine; decide, fun q hq => (hd _ rfl).stay hh hc ((Ext.refl s).made hq _) (IntsAt.ofNats (l := [0]) upd_same)⟩
  | true =>
    obtain ⟨z, len⟩ := full_t hf
    have ne : st.entries ≠ [] := fun e => by
      rw [e] at len
      exact z len.symm
    refine iteF ?_
    refine ⟨_, rfl, h, CH, dx, _, _, rfl, hh, TH.cl, TH.nC, hF_cache c, c, dc, _, rfl, s _ _ hcc, nofld (by decide +kernel) (by decide +kernel) (by decide +kernel) (by decide +kernel) (by decide +kernel), G, c, st, rfl, s, hc, ne, fun G2 H2 v X2 r => ?_⟩
    obtain ⟨t, q, y, e, rfl, ht, he2, ⟨ye, rfl, hy⟩, hq⟩ := r
    rw [s_vic (by omega) he2] at hd
    refine ⟨t, _, rfl, .inl (.inl (X2.sub _ _ ht)), rfl, _, _, rfl, _, _, rfl, rfl, ?_⟩
    refine ⟨_, rfl, ye, _, 0, _, rfl, rfl, .inl (.inl (X2.sub _ _ hy)), rfl, by show 2 ≤ sizeLine; decide, fun g hg => (hd _ rfl).stay hh hc (X2.made hg _) (IntsAt.ofNats (l := [1, e.key]) upd_same)⟩
theorem sc_counters : FnScope ["holder", "numbers", "lists"] ["holder", "numbers", "lists"] (defScope (top 75)) := ⟨rfl, rfl, rfl, by decide +kernel, rfl, by decide +kernel, by decide +kernel⟩
theorem ok_counters (T : ClsC K C) (TH : ClsH K CH) (D : DF K mg "counters" (top 75) ["holder", "numbers", "lists"] f) (m_hits : MethOk P w K mg base CX0 1 C "hits" ["self"] (spHits C)) : FOk P w K mg base CX0 2 ["holder", "numbers", "lists"] (spDeed C CH CR 5) f := by
  have cl := T.cl
  refine D.ok sc_counters (fun vs H Q E ⟨_, _, _, _, _, _, _, _, _, _, e, _⟩ => by rw [e]; rfl) (fun f cdv A outer s1 H vs Q E hr h => ⟨_, (pss_one (ps_ret (pe_lst (pa_cons (pe_mC0 (pe_fld (pv 0) rfl) cl m_hits hr (by decide) pass0) (pa_cons (pe_fld (pe_fld (pv 0) rfl) rfl) pa_nil))))), ?_⟩)
  obtain ⟨G, h, dx, c, n, l, st, ns, ls, k, rfl, s, gh, hh, hc, hn, hl, hk, hb, he, hd⟩ := h
  obtain ⟨rfl, rfl, rfl⟩ := co5 hk
  rw [s_count] at hd
  have hc0 := hc
  obtain ⟨wf, dc, lc, hcc, _⟩ := hc0
  have nofld : ∀ {x : Str}, (x == ("capacity" : Str)) = false → (x == ("policy" : Str)) = false → (x == ("entries" : Str)) = false → (x == ("number" : Str)) = false → (x == ("misses" : Str)) = false → (cF st lc).lookup x = none := fun {x} a b d e f => cF_not st lc a b d e f
  refine ⟨_, rfl, h, CH, dx, _, _, rfl, hh, TH.cl, TH.nC, hF_cache c, c, dc, _, rfl, s _ _ hcc, nofld (by decide +kernel) (by decide +kernel) (by decide +kernel) (by decide +kernel) (by decide +kernel), c, st, rfl, hc.mono s, ?_⟩
  refine ⟨_, rfl, h, CH, dx, _, _, rfl, hh, TH.cl, TH.nC, hF_cache c, c, C, dc, _, _, rfl, s _ _ hcc, T.cl, T.nM, cF_misses st lc, by show 2 ≤ sizeLine; decide, fun q hq => (hd _ rfl).stay hh hc ((Ext.refl s).made hq _) (IntsAt.ofNats (l := [st.hits, st.misses]) upd_same)⟩
end
end Ks
/-! The operations, the second half. -/
namespace Ks
open PySem PySem.Spec PyProof.Rows L2
open Vakptc (Cache access accessAll emptyCache contains step natural withLength flag validCapacity validPolicy validKey validSequence selectVictim cachedKeys)
open VakptcNeutral (nats)
theorem max_fold (v : List Nat → Int) : ∀ (l : List (List Nat)) (s : List Nat × Int), (l.foldl (fun best c => if best.2 < v c then (c, v c) else best) s).1 ∈ s.1 :: l
  | [], s => by simp
  | x :: l, s => by
    rw [List.foldl_cons]
    have h := max_fold v l (if s.2 < v x then (x, v x) else s)
    rw [List.mem_cons] at h ⊢
    rcases h with h | h
    · split at h
      · rename_i c
        rw [if_pos c, h]
        exact .inr (List.mem_cons_self ..)
      · rename_i c
        rw [if_neg c, h]
        exact .inl rfl
    · exact .inr (List.mem_cons_of_mem _ h)
theorem max_mem (v : List Nat → Int) {l : List (List Nat)} (h : l ≠ []) : Vakptc.firstMaximum v l ∈ l := by
  cases l with
  | nil => exact absurd rfl h
  | cons s l => exact max_fold v l (s, v s)
theorem sep_len {p q cap kb n : Nat} (h : 1 ≤ kb) : (separating p q cap kb n).1.length = n := by
  rw [separating_eq n h]
  exact seqs_len (max_mem _ (seqs_ne h n))
theorem wor_len {p cap kb n : Nat} (h : 1 ≤ kb) (hn : n ≤ 900) : (worsting p cap kb n).1.length = n := by
  rw [worsting_eq h hn]
  exact seqs_len (max_mem _ (seqs_ne h n))
theorem key_seq {zs : List Int} (p : ∀ z ∈ zs, 0 ≤ z) (h : keysB zs = true) : validSequence (nats zs) = true := by
  rw [← keysB_is p]
  exact h
theorem key_not {zs : List Int} (p : ∀ z ∈ zs, 0 ≤ z) (h : keysB zs = false) : validSequence (nats zs) = false := by
  rw [← keysB_is p]
  exact h
/-- two heads and a list with its length ahead -/
theorem two_lists {H : Hp} {p q : Addr} {xs ys : List V} {Q : VK} (h1 : H p = some (.lst xs)) (h2 : H q = some (.lst ys)) (l : xs.length + ys.length ≤ 100000) (k : ∀ r, H r = none → Q (.ref r) (upd H r (.lst (xs ++ ys)))) : rCat (.ref p) (.ref q) H Q :=
  ⟨p, q, xs, ys, rfl, rfl, h1, h2, size_le l, k⟩
theorem two_heads {H : Hp} {p q : Addr} {xs : List V} {v : V} {ks : List Nat} {Q : VK} (h1 : H p = some (.lst xs)) (h2 : H q = some (.lst (v :: ks.map vN))) (l : xs.length ≤ 10) (l2 : ks.length ≤ 5000) (k : ∀ r, H r = none → Q (.ref r) (upd H r (.lst (xs ++ (v :: ks.map vN))))) : rCat (.ref p) (.ref q) H Q :=
  two_lists h1 h2 (by rw [List.length_cons, List.length_map]; omega) k
section
variable {P : Program} {w : World} {K : PySem.W.Frag} {mg : Str → Option Value} {base : Heap} {C CH CR f : Addr}
theorem sc_simulate : FnScope ["holder", "numbers", "lists", "capacity", "policy", "cache"] ["holder", "numbers", "lists"] (defScope (top 76)) := ⟨rfl, rfl, rfl, by decide +kernel, rfl, by decide +kernel, by decide +kernel⟩
theorem ok_simulate (T : ClsC K C) (TH : ClsH K CH) (D : DF K mg "simulate" (top 76) ["holder", "numbers", "lists"] f) (c_need_capacity : CallOk P w K mg base (L2.CX P w) 4 "need_capacity" ["capacity"] (spOne CR validCapacity (-1))) (c_need_policy : CallOk P w K mg base (L2.CX P w) 4 "need_policy" ["policy"] (spOne CR validPolicy (-2)))
    (c_need_keys : CallOk P w K mg base (L2.CX P w) 4 "need_keys" ["keys"] (spNeedKeys CR)) (c_cache_behind : CallOk P w K mg base CX0 7 "cache_behind" ["capacity", "policy", "sequence"] (spBehind C)) (m_cached_keys : MethOk P w K mg base CX0 2 C "cached_keys" ["self"] (spKeys C))
    (c_listed : CallOk P w K mg base CX0 1 "listed" ["things"] spListed) : FOk P w K mg base (L2.CX P w) 8 ["holder", "numbers", "lists"] (spDeed C CH CR 6) f := by
  have cl := T.cl
  refine D.okX sc_simulate (fun vs H Q E ⟨_, _, _, _, _, _, _, _, _, _, e, _⟩ => by rw [e]; rfl) (fun f cdv A outer s1 H vs Q E hr h => ⟨_, (pss_cons (ps_asg (pv 1) (pg_unl rfl (pgs_cons (pg_name (i := 3) sc_simulate.nd rfl (Or.inl rfl)) (pgs_cons (pg_name (i := 4) sc_simulate.nd rfl (Or.inl rfl)) pgs_nil)))) (pss_cons (ps_expr (pe_callC c_need_capacity hr (by decide) (passes_call (takes_of rfl rfl rfl rfl) (fun _ _ _ _ h => h)) (pa_cons (pv 3) pa_nil))) (pss_cons (ps_expr (pe_callC c_need_policy hr (by decide) (passes_call (takes_of rfl rfl rfl rfl) (fun _ _ _ _ h => h)) (pa_cons (pv 4) pa_nil))) (pss_cons (ps_expr (pe_callC c_need_keys hr (by decide) (passes_call (takes_of rfl rfl rfl rfl) (fun _ _ _ _ h => h)) (pa_cons (pe_ix ix_list (pv 2) pe_int (fun _ _ => rfl)) pa_nil))) (pss_cons (ps_set (i := 5) sc_simulate.nd rfl (Or.inl rfl) (pe_callC c_cache_behind hr (by decide) pass0 (pa_cons (pv 3) (pa_cons (pv 4) (pa_cons (pe_ix ix_list (pv 2) pe_int (fun _ _ => rfl)) pa_nil))))) (pss_one (ps_ret (pe_op op_cat (pe_lst (pa_cons (pe_fld (pv 5) rfl) pa_nil)) (pe_callC c_listed hr (by decide) pass0 (pa_cons (pe_mC0 (pv 5) cl m_cached_keys hr (by decide) pass0) pa_nil)))))))))), ?_⟩)
  obtain ⟨G, h, dx, c, n, l, st, ns, ls, k, rfl, s, gh, hh, hc, hn, hl, hk, hb, he, hd⟩ := h
  obtain ⟨r, p, zs, rfl, rfl, rfl⟩ := co6 hk
  obtain ⟨hz, hz0⟩ := hb zs (by simp)
  obtain ⟨u, hlu, hu⟩ := hl.one (K := K) s
  refine ⟨_, rfl, n, _, rfl, .inl (.inl (s _ _ hn)), rfl, _, _, rfl, _, _, rfl, rfl, ?_⟩
  refine ⟨_, rfl, r, rfl, fun h1 => ?_, fun h1 => he _ (by rw [s_sim1 h1])⟩
  refine ⟨_, rfl, p, rfl, fun h2 => ?_, fun h2 => he _ (by rw [s_sim2 h1 h2])⟩
  refine ⟨_, rfl, l, _, 0, _, rfl, rfl, hlu, rfl, G, u, zs, rfl, s, hu, hz, fun h3 => fun G1 H1 v X1 _ => ?_, fun h3 => he _ (by rw [s_sim3 h1 h2 (key_not hz0 h3)])⟩
  obtain ⟨cap, rfl, hcap⟩ := nat_cap h1
  obtain ⟨po, rfl, hpo⟩ := nat_pol h2
  have h3' := key_seq hz0 h3
  rw [s_sim h1 h2 h3'] at hd
  refine ⟨_, rfl, _, rfl, _, rfl, l, _, 0, _, rfl, rfl, X1.same.seq hlu, rfl, G1, cap, po, u, nats zs, rfl, X1.sub, by omega, (hu.nats hz0).mono X1.ext, fun G2 H2 v X2 r2 => ?_⟩
  obtain ⟨a, rfl, ha⟩ := r2
  have ha0 := ha
  obtain ⟨wf, da, la, hi, _⟩ := ha0
  have wl := wf.len
  have wc := wf.cap
  refine ⟨_, rfl, a, C, da, _, _, rfl, X2.sub _ _ hi, T.cl, T.nM, cF_misses _ la, by show 1 ≤ sizeLine; decide, fun p1 hp1 => ?_⟩
  have X12 := X1.trans X2
  have X3 := X12.hid hp1 (.lst [vN (accessAll (emptyCache cap po) (nats zs)).misses])
  refine ⟨_, rfl, a, da, _, rfl, X3.sub _ _ hi, cF_not _ la (by decide +kernel) (by decide +kernel) (by decide +kernel) (by decide +kernel) (by decide +kernel), G2, a, _, rfl, X3.sub, ha, fun G4 H4 v X4 r4 => ?_⟩
  obtain ⟨q, rfl, hq⟩ := r4
  refine ⟨G4, q, _, rfl, X4.sub, hq, by rw [List.length_map, show (cachedKeys _).length = _ from List.length_map _]; omega, fun G5 H5 v X5 r5 => ?_⟩
  obtain ⟨t, rfl, ht⟩ := r5
  refine two_heads (X5.same _ _ (X4.same _ _ upd_same)) (X5.sub _ _ ht) (by show 1 ≤ 10; omega) (by rw [show (cachedKeys _).length = _ from List.length_map _]; omega) fun z hzz => ?_
  refine (hd _ rfl).stay hh hc (((X3.trans X4).trans X5).made hzz _) (IntsAt.ofNats (l := (accessAll (emptyCache cap po) (nats zs)).misses :: withLength (cachedKeys (accessAll (emptyCache cap po) (nats zs)))) ?_)
  rw [upd_same, List.length_map]
  rfl
theorem sc_optimal : FnScope ["holder", "numbers", "lists", "capacity"] ["holder", "numbers", "lists"] (defScope (top 77)) := ⟨rfl, rfl, rfl, by decide +kernel, rfl, by decide +kernel, by decide +kernel⟩
theorem ok_optimal (D : DF K mg "optimal" (top 77) ["holder", "numbers", "lists"] f) (c_need_capacity : CallOk P w K mg base (L2.CX P w) 4 "need_capacity" ["capacity"] (spOne CR validCapacity (-1))) (c_need_keys : CallOk P w K mg base (L2.CX P w) 4 "need_keys" ["keys"] (spNeedKeys CR))
    (c_belady : CallOk P w K mg base CX0 4 "belady" ["capacity", "sequence"] spBel) (c_optimal_evictions : CallOk P w K mg base CX0 5 "optimal_evictions" ["capacity", "sequence"] spOptE) (c_listed : CallOk P w K mg base CX0 1 "listed" ["things"] spListed) : FOk P w K mg base (L2.CX P w) 6 ["holder", "numbers", "lists"] (spDeed C CH CR 7) f := by
  refine D.okX sc_optimal (fun vs H Q E ⟨_, _, _, _, _, _, _, _, _, _, e, _⟩ => by rw [e]; rfl) (fun f cdv A outer s1 H vs Q E hr h => ⟨_, (pss_cons (ps_set (i := 3) sc_optimal.nd rfl (Or.inl rfl) (pe_ix ix_list (pv 1) pe_int (fun _ _ => rfl))) (pss_cons (ps_expr (pe_callC c_need_capacity hr (by decide) (passes_call (takes_of rfl rfl rfl rfl) (fun _ _ _ _ h => h)) (pa_cons (pv 3) pa_nil))) (pss_cons (ps_expr (pe_callC c_need_keys hr (by decide) (passes_call (takes_of rfl rfl rfl rfl) (fun _ _ _ _ h => h)) (pa_cons (pe_ix ix_list (pv 2) pe_int (fun _ _ => rfl)) pa_nil))) (pss_one (ps_ret (pe_op op_cat (pe_lst (pa_cons (pe_ix (show IxR _ (rIxT K) from ix_tup) (pe_callC c_belady hr (by decide) pass0 (pa_cons (pv 3) (pa_cons (pe_ix ix_list (pv 2) pe_int (fun _ _ => rfl)) pa_nil))) pe_int (fun _ _ => rfl)) pa_nil)) (pe_callC c_listed hr (by decide) pass0 (pa_cons (pe_callC c_optimal_evictions hr (by decide) pass0 (pa_cons (pv 3) (pa_cons (pe_ix ix_list (pv 2) pe_int (fun _ _ => rfl)) pa_nil))) pa_nil)))))))), ?_⟩)
  obtain ⟨G, h, dx, c, n, l, st, ns, ls, k, rfl, s, gh, hh, hc, hn, hl, hk, hb, he, hd⟩ := h
  obtain ⟨r, zs, rfl, rfl, rfl⟩ := co7 hk
  obtain ⟨hz, hz0⟩ := hb zs (by simp)
  obtain ⟨u, hlu, hu⟩ := hl.one (K := K) s
  refine ⟨_, rfl, n, _, 0, _, rfl, rfl, .inl (.inl (s _ _ hn)), rfl, ?_⟩
  refine ⟨_, rfl, r, rfl, fun h1 => ?_, fun h1 => he _ (by rw [s_opt1 h1])⟩
  refine ⟨_, rfl, l, _, 0, _, rfl, rfl, hlu, rfl, G, u, zs, rfl, s, hu, hz, fun h3 => fun G1 H1 v X1 _ => ?_, fun h3 => he _ (by rw [s_opt2 h1 (key_not hz0 h3)])⟩
  obtain ⟨cap, rfl, hcap⟩ := nat_cap h1
  have h3' := key_seq hz0 h3
  have ln := len_ok h3'
  rw [s_opt h1 h3'] at hd
  have hun := hu.nats hz0
  refine ⟨_, rfl, _, rfl, l, _, 0, _, rfl, rfl, X1.same.seq hlu, rfl, G1, u, nats zs, cap, rfl, X1.sub, hun.mono X1.ext, by omega, fun G2 H2 v X2 r2 => ?_⟩
  obtain ⟨t, q, rfl, ht, hq⟩ := r2
  refine ⟨t, _, 0, _, rfl, rfl, .inl (.inl (X2.sub _ _ ht)), rfl, by show 1 ≤ sizeLine; decide, fun p1 hp1 => ?_⟩
  have X12 := X1.trans X2
  have X3 := X12.hid hp1 (.lst [vN (bel cap (nats zs) 0 []).1])
  refine ⟨_, rfl, _, rfl, l, _, 0, _, rfl, rfl, X3.same.seq hlu, rfl, G2, u, nats zs, cap, rfl, X3.sub, hun.mono X12.ext, by omega, fun G4 H4 v X4 r4 => ?_⟩
  obtain ⟨q2, rfl, hq2⟩ := r4
  have lo : (optE cap (nats zs)).length ≤ 30 := Nat.le_trans (optIt_len cap (nats zs) (nats zs).length).1 ln
  refine ⟨G4, q2, _, rfl, X4.sub, hq2, by rw [List.length_map]; omega, fun G5 H5 v X5 r5 => ?_⟩
  obtain ⟨t5, rfl, ht5⟩ := r5
  refine two_heads (X5.same _ _ (X4.same _ _ upd_same)) (X5.sub _ _ ht5) (by show 1 ≤ 10; omega) (by omega) fun z hzz => ?_
  refine (hd _ rfl).stay hh hc (((X3.trans X4).trans X5).made hzz _) (IntsAt.ofNats (l := (bel cap (nats zs) 0 []).1 :: withLength (optE cap (nats zs))) ?_)
  rw [upd_same, List.length_map]
  rfl
theorem bel_len (cap : Nat) (s : List Nat) : (bel cap s 0 []).2.length ≤ s.length := (belIt_len cap s 0 [] (s.length - 0)).1
theorem sc_farthest : FnScope ["holder", "numbers", "lists", "capacity", "misses", "gone"] ["holder", "numbers", "lists"] (defScope (top 78)) := ⟨rfl, rfl, rfl, by decide +kernel, rfl, by decide +kernel, by decide +kernel⟩
theorem ok_farthest (D : DF K mg "farthest" (top 78) ["holder", "numbers", "lists"] f) (c_need_capacity : CallOk P w K mg base (L2.CX P w) 4 "need_capacity" ["capacity"] (spOne CR validCapacity (-1))) (c_need_keys : CallOk P w K mg base (L2.CX P w) 4 "need_keys" ["keys"] (spNeedKeys CR))
    (c_belady : CallOk P w K mg base CX0 4 "belady" ["capacity", "sequence"] spBel) (c_listed : CallOk P w K mg base CX0 1 "listed" ["things"] spListed) : FOk P w K mg base (L2.CX P w) 6 ["holder", "numbers", "lists"] (spDeed C CH CR 8) f := by
  refine D.okX sc_farthest (fun vs H Q E ⟨_, _, _, _, _, _, _, _, _, _, e, _⟩ => by rw [e]; rfl) (fun f cdv A outer s1 H vs Q E hr h => ⟨_, (pss_cons (ps_set (i := 3) sc_farthest.nd rfl (Or.inl rfl) (pe_ix ix_list (pv 1) pe_int (fun _ _ => rfl))) (pss_cons (ps_expr (pe_callC c_need_capacity hr (by decide) (passes_call (takes_of rfl rfl rfl rfl) (fun _ _ _ _ h => h)) (pa_cons (pv 3) pa_nil))) (pss_cons (ps_expr (pe_callC c_need_keys hr (by decide) (passes_call (takes_of rfl rfl rfl rfl) (fun _ _ _ _ h => h)) (pa_cons (pe_ix ix_list (pv 2) pe_int (fun _ _ => rfl)) pa_nil))) (pss_cons (ps_asg (pe_callC c_belady hr (by decide) pass0 (pa_cons (pv 3) (pa_cons (pe_ix ix_list (pv 2) pe_int (fun _ _ => rfl)) pa_nil))) (pg_tup rfl (pgs_cons (pg_name (i := 4) sc_farthest.nd rfl (Or.inl rfl)) (pgs_cons (pg_name (i := 5) sc_farthest.nd rfl (Or.inl rfl)) pgs_nil)))) (pss_one (ps_ret (pe_op op_cat (pe_lst (pa_cons (pv 4) pa_nil)) (pe_callC c_listed hr (by decide) pass0 (pa_cons (pv 5) pa_nil))))))))), ?_⟩)
  obtain ⟨G, h, dx, c, n, l, st, ns, ls, k, rfl, s, gh, hh, hc, hn, hl, hk, hb, he, hd⟩ := h
  obtain ⟨r, zs, rfl, rfl, rfl⟩ := co8 hk
  obtain ⟨hz, hz0⟩ := hb zs (by simp)
  obtain ⟨u, hlu, hu⟩ := hl.one (K := K) s
  refine ⟨_, rfl, n, _, 0, _, rfl, rfl, .inl (.inl (s _ _ hn)), rfl, ?_⟩
  refine ⟨_, rfl, r, rfl, fun h1 => ?_, fun h1 => he _ (by rw [s_far1 h1])⟩
  refine ⟨_, rfl, l, _, 0, _, rfl, rfl, hlu, rfl, G, u, zs, rfl, s, hu, hz, fun h3 => fun G1 H1 v X1 _ => ?_, fun h3 => he _ (by rw [s_far2 h1 (key_not hz0 h3)])⟩
  obtain ⟨cap, rfl, hcap⟩ := nat_cap h1
  have h3' := key_seq hz0 h3
  have ln := len_ok h3'
  rw [s_far h1 h3'] at hd
  have hun := hu.nats hz0
  refine ⟨_, rfl, _, rfl, l, _, 0, _, rfl, rfl, X1.same.seq hlu, rfl, G1, u, nats zs, cap, rfl, X1.sub, hun.mono X1.ext, by omega, fun G2 H2 v X2 r2 => ?_⟩
  obtain ⟨t, q, rfl, ht, hq⟩ := r2
  refine ⟨t, _, rfl, .inl (.inl (X2.sub _ _ ht)), rfl, _, _, rfl, _, _, rfl, rfl, ?_⟩
  have X12 := X1.trans X2
  refine ⟨_, rfl, by show 1 ≤ sizeLine; decide, fun p1 hp1 => ?_⟩
  have X3 := X12.hid hp1 (.lst [vN (bel cap (nats zs) 0 []).1])
  have lo := bel_len cap (nats zs)
  refine ⟨_, rfl, G2, q, _, rfl, X3.sub, hq, by rw [List.length_map]; omega, fun G5 H5 v X5 r5 => ?_⟩
  obtain ⟨t5, rfl, ht5⟩ := r5
  refine two_heads (X5.same _ _ upd_same) (X5.sub _ _ ht5) (by show 1 ≤ 10; omega) (by omega) fun z hzz => ?_
  refine (hd _ rfl).stay hh hc ((X3.trans X5).made hzz _) (IntsAt.ofNats (l := (bel cap (nats zs) 0 []).1 :: withLength (bel cap (nats zs) 0 []).2) ?_)
  rw [upd_same, List.length_map]
  rfl
theorem sc_replay : FnScope ["holder", "numbers", "lists", "capacity", "is_valid", "number"] ["holder", "numbers", "lists"] (defScope (top 79)) := ⟨rfl, rfl, rfl, by decide +kernel, rfl, by decide +kernel, by decide +kernel⟩
theorem ok_replay (bl : Blt mg) (D : DF K mg "replay" (top 79) ["holder", "numbers", "lists"] f) (c_need_capacity : CallOk P w K mg base (L2.CX P w) 4 "need_capacity" ["capacity"] (spOne CR validCapacity (-1))) (c_need_keys : CallOk P w K mg base (L2.CX P w) 4 "need_keys" ["keys"] (spNeedKeys CR))
    (c_replayed : CallOk P w K mg base CX0 2 "replayed" ["capacity", "sequence", "evictions"] spReplayed) : FOk P w K mg base (L2.CX P w) 6 ["holder", "numbers", "lists"] (spDeed C CH CR 9) f := by
  refine D.okX sc_replay (fun vs H Q E ⟨_, _, _, _, _, _, _, _, _, _, e, _⟩ => by rw [e]; rfl) (fun f cdv A outer s1 H vs Q E hr h => ⟨_, (pss_cons (ps_set (i := 3) sc_replay.nd rfl (Or.inl rfl) (pe_ix ix_list (pv 1) pe_int (fun _ _ => rfl))) (pss_cons (ps_expr (pe_callC c_need_capacity hr (by decide) (passes_call (takes_of rfl rfl rfl rfl) (fun _ _ _ _ h => h)) (pa_cons (pv 3) pa_nil))) (pss_cons (ps_expr (pe_callC c_need_keys hr (by decide) (passes_call (takes_of rfl rfl rfl rfl) (fun _ _ _ _ h => h)) (pa_cons (pe_ix ix_list (pv 2) pe_int (fun _ _ => rfl)) pa_nil))) (pss_cons (ps_expr (pe_callC c_need_keys hr (by decide) (passes_call (takes_of rfl rfl rfl rfl) (fun _ _ _ _ h => h)) (pa_cons (pe_ix ix_list (pv 2) pe_int (fun _ _ => rfl)) pa_nil))) (pss_cons (ps_asg (pe_callC c_replayed hr (by decide) pass0 (pa_cons (pv 3) (pa_cons (pe_ix ix_list (pv 2) pe_int (fun _ _ => rfl)) (pa_cons (pe_ix ix_list (pv 2) pe_int (fun _ _ => rfl)) pa_nil)))) (pg_tup rfl (pgs_cons (pg_name (i := 4) sc_replay.nd rfl (Or.inl rfl)) (pgs_cons (pg_name (i := 5) sc_replay.nd rfl (Or.inl rfl)) pgs_nil)))) (pss_one (ps_ret (pe_lst (pa_cons (pe_callTy call_int1 (by rfl) bl.int (by decide +kernel) (pa_cons (pv 4) pa_nil)) (pa_cons (pv 5) pa_nil)))))))))), ?_⟩)
  obtain ⟨G, h, dx, c, n, l, st, ns, ls, k, rfl, s, gh, hh, hc, hn, hl, hk, hb, he, hd⟩ := h
  obtain ⟨r, zs, es, rfl, rfl, rfl⟩ := co9 hk
  obtain ⟨hz, hz0⟩ := hb zs (by simp)
  obtain ⟨hy, hy0⟩ := hb es (by simp)
  obtain ⟨u, x, hlu, hu, hx⟩ := hl.two (K := K) s
  refine ⟨_, rfl, n, _, 0, _, rfl, rfl, .inl (.inl (s _ _ hn)), rfl, ?_⟩
  refine ⟨_, rfl, r, rfl, fun h1 => ?_, fun h1 => he _ (by rw [s_rep1 h1])⟩
  refine ⟨_, rfl, l, _, 0, _, rfl, rfl, hlu, rfl, G, u, zs, rfl, s, hu, hz, fun h3 => fun G1 H1 v X1 _ => ?_, fun h3 => he _ (by rw [s_rep2 h1 (key_not hz0 h3)])⟩
  have h3' := key_seq hz0 h3
  refine ⟨_, rfl, l, _, 1, _, rfl, rfl, X1.same.seq hlu, rfl, G1, x, es, rfl, X1.sub, hx.mono X1.ext, hy, fun h4 => fun G2 H2 v X2 _ => ?_, fun h4 => (he _ (by rw [s_rep3 h1 h3' (key_not hy0 h4)])).mono X1.same⟩
  have h4' := key_seq hy0 h4
  obtain ⟨cap, rfl, hcap⟩ := nat_cap h1
  have ln := len_ok h3'
  have ln4 := len_ok h4'
  rw [s_rep h1 h3' h4'] at hd
  have X12 := X1.trans X2
  refine ⟨_, rfl, _, rfl, l, _, 0, _, rfl, rfl, X12.same.seq hlu, rfl, _, rfl, l, _, 1, _, rfl, rfl, X12.same.seq hlu, rfl, G2, u, x, nats zs, nats es, cap, rfl, X2.sub, (hu.nats hz0).mono X12.ext, by omega, (hx.nats hy0).mono X12.ext, by omega, fun G3 H3 v X3 r3 => ?_⟩
  obtain ⟨t, rfl, ht⟩ := r3
  have X13 := X12.trans X3
  refine ⟨t, _, rfl, .inl (.inl (X3.sub _ _ ht)), rfl, _, _, rfl, _, _, rfl, rfl, ?_⟩
  refine ⟨_, rfl, .inr ⟨_, rfl, _, rfl, by show 2 ≤ sizeLine; decide, fun q hq => ?_⟩⟩
  refine (hd _ rfl).stay hh hc (X13.made hq _) (IntsAt.ofNats (l := [if (repF cap 0 [] 0 (nats es) (nats zs)).1 then 1 else 0, (repF cap 0 [] 0 (nats es) (nats zs)).2]) ?_)
  rw [upd_same]
  cases (repF cap 0 [] 0 (nats es) (nats zs)).1 <;> rfl
theorem sc_phases : FnScope ["holder", "numbers", "lists", "capacity"] ["holder", "numbers", "lists"] (defScope (top 80)) := ⟨rfl, rfl, rfl, by decide +kernel, rfl, by decide +kernel, by decide +kernel⟩
theorem ok_phases (cn : Cn mg) (D : DF K mg "phases" (top 80) ["holder", "numbers", "lists"] f) (c_need_capacity : CallOk P w K mg base (L2.CX P w) 4 "need_capacity" ["capacity"] (spOne CR validCapacity (-1))) (c_need : CallOk P w K mg base (L2.CX P w) 3 "need" ["is_so", "code"] (spNeed CR))
    (c_need_keys : CallOk P w K mg base (L2.CX P w) 4 "need_keys" ["keys"] (spNeedKeys CR)) (c_phase_starts : CallOk P w K mg base CX0 1 "phase_starts" ["capacity", "sequence"] spPhases) (c_listed : CallOk P w K mg base CX0 1 "listed" ["things"] spListed) : FOk P w K mg base (L2.CX P w) 6 ["holder", "numbers", "lists"] (spDeed C CH CR 10) f := by
  refine D.okX sc_phases (fun vs H Q E ⟨_, _, _, _, _, _, _, _, _, _, e, _⟩ => by rw [e]; rfl) (fun f cdv A outer s1 H vs Q E hr h => ⟨_, (pss_cons (ps_set (i := 3) sc_phases.nd rfl (Or.inl rfl) (pe_ix ix_list (pv 1) pe_int (fun _ _ => rfl))) (pss_cons (ps_expr (pe_callC c_need_capacity hr (by decide) (passes_call (takes_of rfl rfl rfl rfl) (fun _ _ _ _ h => h)) (pa_cons (pv 3) pa_nil))) (pss_cons (ps_expr (pe_callC c_need hr (by decide) (passes_call (takes_of rfl rfl rfl rfl) (fun _ _ _ _ h => h)) (pa_cons (pe_cmpR op_gt (pv 3) pe_int (nomark _)) (pa_cons (pe_const cn.NO_CAPACITY) pa_nil)))) (pss_cons (ps_expr (pe_callC c_need_keys hr (by decide) (passes_call (takes_of rfl rfl rfl rfl) (fun _ _ _ _ h => h)) (pa_cons (pe_ix ix_list (pv 2) pe_int (fun _ _ => rfl)) pa_nil))) (pss_one (ps_ret (pe_callC c_listed hr (by decide) pass0 (pa_cons (pe_callC c_phase_starts hr (by decide) pass0 (pa_cons (pv 3) (pa_cons (pe_ix ix_list (pv 2) pe_int (fun _ _ => rfl)) pa_nil))) pa_nil)))))))), ?_⟩)
  obtain ⟨G, h, dx, c, n, l, st, ns, ls, k, rfl, s, gh, hh, hc, hn, hl, hk, hb, he, hd⟩ := h
  obtain ⟨r, zs, rfl, rfl, rfl⟩ := co10 hk
  obtain ⟨hz, hz0⟩ := hb zs (by simp)
  obtain ⟨u, hlu, hu⟩ := hl.one (K := K) s
  refine ⟨_, rfl, n, _, 0, _, rfl, rfl, .inl (.inl (s _ _ hn)), rfl, ?_⟩
  refine ⟨_, rfl, r, rfl, fun h1 => ?_, fun h1 => he _ (by rw [s_pha1 h1])⟩
  obtain ⟨cap, rfl, hcap⟩ := nat_cap h1
  refine ⟨_, rfl, _, _, rfl, rfl, _, _, rfl, fun h2 => ?_, fun h2 => he _ (by rw [s_pha2 h1 (by have := of_decide_eq_false h2; omega)])⟩
  have h2' : cap ≠ 0 := by have := of_decide_eq_true h2; omega
  refine ⟨_, rfl, l, _, 0, _, rfl, rfl, hlu, rfl, G, u, zs, rfl, s, hu, hz, fun h3 => fun G1 H1 v X1 _ => ?_, fun h3 => he _ (by rw [s_pha3 h1 (by omega) (key_not hz0 h3)])⟩
  have h3' := key_seq hz0 h3
  have ln := len_ok h3'
  rw [s_pha h1 h2' h3'] at hd
  have hun := hu.nats hz0
  refine ⟨_, rfl, _, rfl, l, _, 0, _, rfl, rfl, X1.same.seq hlu, rfl, G1, u, nats zs, cap, rfl, X1.sub, hun.mono X1.ext, by omega, fun G2 H2 v X2 r2 => ?_⟩
  obtain ⟨q, rfl, hq⟩ := r2
  have lo := (phIt_len cap (nats zs) (nats zs).length).1
  refine ⟨G2, q, _, rfl, X2.sub, hq, by rw [List.length_map]; omega, fun G5 H5 v X5 r5 => ?_⟩
  obtain ⟨t5, rfl, ht5⟩ := r5
  refine (hd _ rfl).stay hh hc ((X1.trans X2).trans X5) (IntsAt.ofNats (l := withLength (phIt cap (nats zs) (nats zs).length).1) ?_)
  rw [ht5, List.length_map]
  rfl
theorem sc_separate : FnScope ["holder", "numbers", "lists", "first", "second", "capacity", "key_bound", "length", "sequence", "one", "other"] ["holder", "numbers", "lists"] (defScope (top 81)) := ⟨rfl, rfl, rfl, by decide +kernel, rfl, by decide +kernel, by decide +kernel⟩
theorem ok_separate (cn : Cn mg) (D : DF K mg "separate" (top 81) ["holder", "numbers", "lists"] f) (c_need_capacity : CallOk P w K mg base (L2.CX P w) 4 "need_capacity" ["capacity"] (spOne CR validCapacity (-1))) (c_need_policy : CallOk P w K mg base (L2.CX P w) 4 "need_policy" ["policy"] (spOne CR validPolicy (-2)))
    (c_need_size : CallOk P w K mg base (L2.CX P w) 4 "need_size" ["key_bound", "most", "length"] (spNeedSize CR)) (c_separating : CallOk P w K mg base CX0 9 "separating" ["first", "second", "capacity", "key_bound", "length"] spSeparating) (c_listed : CallOk P w K mg base CX0 1 "listed" ["things"] spListed) : FOk P w K mg base (L2.CX P w) 10 ["holder", "numbers", "lists"] (spDeed C CH CR 11) f := by
  refine D.okX sc_separate (fun vs H Q E ⟨_, _, _, _, _, _, _, _, _, _, e, _⟩ => by rw [e]; rfl) (fun f cdv A outer s1 H vs Q E hr h => ⟨_, (pss_cons (ps_asg (pv 1) (pg_unl rfl (pgs_cons (pg_name (i := 3) sc_separate.nd rfl (Or.inl rfl)) (pgs_cons (pg_name (i := 4) sc_separate.nd rfl (Or.inl rfl)) (pgs_cons (pg_name (i := 5) sc_separate.nd rfl (Or.inl rfl)) (pgs_cons (pg_name (i := 6) sc_separate.nd rfl (Or.inl rfl)) (pgs_cons (pg_name (i := 7) sc_separate.nd rfl (Or.inl rfl)) pgs_nil))))))) (pss_cons (ps_expr (pe_callC c_need_capacity hr (by decide) (passes_call (takes_of rfl rfl rfl rfl) (fun _ _ _ _ h => h)) (pa_cons (pv 5) pa_nil))) (pss_cons (ps_expr (pe_callC c_need_policy hr (by decide) (passes_call (takes_of rfl rfl rfl rfl) (fun _ _ _ _ h => h)) (pa_cons (pv 3) pa_nil))) (pss_cons (ps_expr (pe_callC c_need_policy hr (by decide) (passes_call (takes_of rfl rfl rfl rfl) (fun _ _ _ _ h => h)) (pa_cons (pv 4) pa_nil))) (pss_cons (ps_expr (pe_callC c_need_size hr (by decide) (passes_call (takes_of rfl rfl rfl rfl) (fun _ _ _ _ h => h)) (pa_cons (pv 6) (pa_cons (pe_const cn.MOST_BOUND_SEPARATE) (pa_cons (pv 7) pa_nil))))) (pss_cons (ps_asg (pe_callC c_separating hr (by decide) pass0 (pa_cons (pv 3) (pa_cons (pv 4) (pa_cons (pv 5) (pa_cons (pv 6) (pa_cons (pv 7) pa_nil)))))) (pg_tup rfl (pgs_cons (pg_name (i := 8) sc_separate.nd rfl (Or.inl rfl)) (pgs_cons (pg_name (i := 9) sc_separate.nd rfl (Or.inl rfl)) (pgs_cons (pg_name (i := 10) sc_separate.nd rfl (Or.inl rfl)) pgs_nil))))) (pss_one (ps_ret (pe_op op_cat (pe_lst (pa_cons (pv 9) (pa_cons (pv 10) pa_nil))) (pe_callC c_listed hr (by decide) pass0 (pa_cons (pv 8) pa_nil))))))))))), ?_⟩)
  obtain ⟨G, h, dx, c, n, l, st, ns, ls, k, rfl, s, gh, hh, hc, hn, hl, hk, hb, he, hd⟩ := h
  obtain ⟨p, q, r, m, y, rfl, rfl, rfl⟩ := co11 hk
  refine ⟨_, rfl, n, _, rfl, .inl (.inl (s _ _ hn)), rfl, _, _, rfl, _, _, rfl, _, _, rfl, _, _, rfl, _, _, rfl, rfl, ?_⟩
  refine ⟨_, rfl, r, rfl, fun h1 => ?_, fun h1 => he _ (by rw [s_sep1 h1])⟩
  refine ⟨_, rfl, p, rfl, fun h2 => ?_, fun h2 => he _ (by rw [s_sep2 h1 (.inl h2)])⟩
  refine ⟨_, rfl, q, rfl, fun h3 => ?_, fun h3 => he _ (by rw [s_sep2 h1 (.inr h3)])⟩
  refine ⟨_, rfl, _, rfl, m, 4, y, rfl, fun h4 => ?_, fun h4 => he _ (by rw [s_sep3 h1 h2 h3 h4])⟩
  obtain ⟨cap, rfl, hcap⟩ := nat_cap h1
  obtain ⟨po, rfl, hpo⟩ := nat_pol h2
  obtain ⟨pq, rfl, hpq⟩ := nat_pol h3
  have h4' := h4
  unfold sizeB at h4'
  rw [Bool.and_eq_true] at h4'
  obtain ⟨kb, rfl, hkb1, hkb2⟩ := nat_in (lo := 1) (hi := 4) h4'.1
  obtain ⟨len, rfl, _, hlen⟩ := nat_in (lo := 0) (hi := 6) h4'.2
  rw [s_sep h1 h2 h3 h4] at hd
  refine ⟨_, rfl, _, rfl, _, rfl, _, rfl, _, rfl, G, po, pq, cap, kb, len, rfl, s, by omega, hkb1, hkb2, hlen, fun G2 H2 v X2 r2 => ?_⟩
  have sl := sep_len (p := po) (q := pq) (cap := cap) (n := len) hkb1
  generalize separating po pq cap kb len = tr at r2 hd sl ⊢
  obtain ⟨t, sq, rfl, ht, hsq⟩ := r2
  refine ⟨t, _, rfl, .inl (.inl (X2.sub _ _ ht)), rfl, _, _, rfl, _, _, rfl, _, _, rfl, rfl, ?_⟩
  refine ⟨_, rfl, _, rfl, by show 2 ≤ sizeLine; decide, fun p1 hp1 => ?_⟩
  have X3 := X2.hid hp1 (.lst [vN tr.2.1, vN tr.2.2])
  refine ⟨_, rfl, G2, sq, _, rfl, X3.sub, hsq, by rw [List.length_map]; omega, fun G5 H5 v X5 r5 => ?_⟩
  obtain ⟨t5, rfl, ht5⟩ := r5
  refine two_heads (X5.same _ _ upd_same) (X5.sub _ _ ht5) (by show 2 ≤ 10; omega) (by omega) fun z hzz => ?_
  refine (hd _ rfl).stay hh hc ((X3.trans X5).made hzz _) (IntsAt.ofNats (l := tr.2.1 :: tr.2.2 :: withLength tr.1) ?_)
  rw [upd_same, List.length_map]
  rfl
theorem sc_worst : FnScope ["holder", "numbers", "lists", "policy", "capacity", "key_bound", "length", "sequence", "misses", "fewest"] ["holder", "numbers", "lists"] (defScope (top 82)) := ⟨rfl, rfl, rfl, by decide +kernel, rfl, by decide +kernel, by decide +kernel⟩
theorem ok_worst (cn : Cn mg) (D : DF K mg "worst" (top 82) ["holder", "numbers", "lists"] f) (c_need_capacity : CallOk P w K mg base (L2.CX P w) 4 "need_capacity" ["capacity"] (spOne CR validCapacity (-1))) (c_need_policy : CallOk P w K mg base (L2.CX P w) 4 "need_policy" ["policy"] (spOne CR validPolicy (-2)))
    (c_need_size : CallOk P w K mg base (L2.CX P w) 4 "need_size" ["key_bound", "most", "length"] (spNeedSize CR)) (c_farthest_from_best : CallOk P w K mg base CX0 9 "farthest_from_best" ["policy", "capacity", "key_bound", "length"] spWorsting) (c_listed : CallOk P w K mg base CX0 1 "listed" ["things"] spListed) : FOk P w K mg base (L2.CX P w) 10 ["holder", "numbers", "lists"] (spDeed C CH CR 12) f := by
  refine D.okX sc_worst (fun vs H Q E ⟨_, _, _, _, _, _, _, _, _, _, e, _⟩ => by rw [e]; rfl) (fun f cdv A outer s1 H vs Q E hr h => ⟨_, (pss_cons (ps_asg (pv 1) (pg_unl rfl (pgs_cons (pg_name (i := 3) sc_worst.nd rfl (Or.inl rfl)) (pgs_cons (pg_name (i := 4) sc_worst.nd rfl (Or.inl rfl)) (pgs_cons (pg_name (i := 5) sc_worst.nd rfl (Or.inl rfl)) (pgs_cons (pg_name (i := 6) sc_worst.nd rfl (Or.inl rfl)) pgs_nil)))))) (pss_cons (ps_expr (pe_callC c_need_capacity hr (by decide) (passes_call (takes_of rfl rfl rfl rfl) (fun _ _ _ _ h => h)) (pa_cons (pv 4) pa_nil))) (pss_cons (ps_expr (pe_callC c_need_policy hr (by decide) (passes_call (takes_of rfl rfl rfl rfl) (fun _ _ _ _ h => h)) (pa_cons (pv 3) pa_nil))) (pss_cons (ps_expr (pe_callC c_need_size hr (by decide) (passes_call (takes_of rfl rfl rfl rfl) (fun _ _ _ _ h => h)) (pa_cons (pv 5) (pa_cons (pe_const cn.MOST_BOUND_WORST) (pa_cons (pv 6) pa_nil))))) (pss_cons (ps_asg (pe_callC c_farthest_from_best hr (by decide) pass0 (pa_cons (pv 3) (pa_cons (pv 4) (pa_cons (pv 5) (pa_cons (pv 6) pa_nil))))) (pg_tup rfl (pgs_cons (pg_name (i := 7) sc_worst.nd rfl (Or.inl rfl)) (pgs_cons (pg_name (i := 8) sc_worst.nd rfl (Or.inl rfl)) (pgs_cons (pg_name (i := 9) sc_worst.nd rfl (Or.inl rfl)) pgs_nil))))) (pss_one (ps_ret (pe_op op_cat (pe_lst (pa_cons (pv 8) (pa_cons (pv 9) pa_nil))) (pe_callC c_listed hr (by decide) pass0 (pa_cons (pv 7) pa_nil)))))))))), ?_⟩)
  obtain ⟨G, h, dx, c, n, l, st, ns, ls, k, rfl, s, gh, hh, hc, hn, hl, hk, hb, he, hd⟩ := h
  obtain ⟨p, r, m, y, rfl, rfl, rfl⟩ := co12 hk
  refine ⟨_, rfl, n, _, rfl, .inl (.inl (s _ _ hn)), rfl, _, _, rfl, _, _, rfl, _, _, rfl, _, _, rfl, rfl, ?_⟩
  refine ⟨_, rfl, r, rfl, fun h1 => ?_, fun h1 => he _ (by rw [s_wor1 h1])⟩
  refine ⟨_, rfl, p, rfl, fun h2 => ?_, fun h2 => he _ (by rw [s_wor2 h1 h2])⟩
  refine ⟨_, rfl, _, rfl, m, 3, y, rfl, fun h4 => ?_, fun h4 => he _ (by rw [s_wor3 h1 h2 h4])⟩
  obtain ⟨cap, rfl, hcap⟩ := nat_cap h1
  obtain ⟨po, rfl, hpo⟩ := nat_pol h2
  have h4' := h4
  unfold sizeB at h4'
  rw [Bool.and_eq_true] at h4'
  obtain ⟨kb, rfl, hkb1, hkb2⟩ := nat_in (lo := 1) (hi := 3) h4'.1
  obtain ⟨len, rfl, _, hlen⟩ := nat_in (lo := 0) (hi := 6) h4'.2
  rw [s_wor h1 h2 h4] at hd
  refine ⟨_, rfl, _, rfl, _, rfl, _, rfl, G, po, cap, kb, len, rfl, s, by omega, hkb1, by omega, hlen, fun G2 H2 v X2 r2 => ?_⟩
  have sl := wor_len (p := po) (cap := cap) (n := len) hkb1 (by omega)
  generalize worsting po cap kb len = tr at r2 hd sl ⊢
  obtain ⟨t, sq, rfl, ht, hsq⟩ := r2
  refine ⟨t, _, rfl, .inl (.inl (X2.sub _ _ ht)), rfl, _, _, rfl, _, _, rfl, _, _, rfl, rfl, ?_⟩
  refine ⟨_, rfl, _, rfl, by show 2 ≤ sizeLine; decide, fun p1 hp1 => ?_⟩
  have X3 := X2.hid hp1 (.lst [vN tr.2.1, vN tr.2.2])
  refine ⟨_, rfl, G2, sq, _, rfl, X3.sub, hsq, by rw [List.length_map]; omega, fun G5 H5 v X5 r5 => ?_⟩
  obtain ⟨t5, rfl, ht5⟩ := r5
  refine two_heads (X5.same _ _ upd_same) (X5.sub _ _ ht5) (by show 2 ≤ 10; omega) (by omega) fun z hzz => ?_
  refine (hd _ rfl).stay hh hc ((X3.trans X5).made hzz _) (IntsAt.ofNats (l := tr.2.1 :: tr.2.2 :: withLength tr.1) ?_)
  rw [upd_same, List.length_map]
  rfl
theorem sc_anomaly : FnScope ["holder", "numbers", "lists", "policy", "capacity", "found"] ["holder", "numbers", "lists"] (defScope (top 83)) := ⟨rfl, rfl, rfl, by decide +kernel, rfl, by decide +kernel, by decide +kernel⟩
theorem ok_anomaly (D : DF K mg "anomaly" (top 83) ["holder", "numbers", "lists"] f) (c_need_capacity : CallOk P w K mg base (L2.CX P w) 4 "need_capacity" ["capacity"] (spOne CR validCapacity (-1))) (c_need_policy : CallOk P w K mg base (L2.CX P w) 4 "need_policy" ["policy"] (spOne CR validPolicy (-2)))
    (c_need_keys : CallOk P w K mg base (L2.CX P w) 4 "need_keys" ["keys"] (spNeedKeys CR)) (c_anomaly_of : CallOk P w K mg base CX0 7 "anomaly_of" ["policy", "capacity", "sequence"] spAnom) : FOk P w K mg base (L2.CX P w) 8 ["holder", "numbers", "lists"] (spDeed C CH CR 13) f := by
  refine D.okX sc_anomaly (fun vs H Q E ⟨_, _, _, _, _, _, _, _, _, _, e, _⟩ => by rw [e]; rfl) (fun f cdv A outer s1 H vs Q E hr h => ⟨_, (pss_cons (ps_asg (pv 1) (pg_unl rfl (pgs_cons (pg_name (i := 3) sc_anomaly.nd rfl (Or.inl rfl)) (pgs_cons (pg_name (i := 4) sc_anomaly.nd rfl (Or.inl rfl)) pgs_nil)))) (pss_cons (ps_expr (pe_callC c_need_capacity hr (by decide) (passes_call (takes_of rfl rfl rfl rfl) (fun _ _ _ _ h => h)) (pa_cons (pv 4) pa_nil))) (pss_cons (ps_expr (pe_callC c_need_policy hr (by decide) (passes_call (takes_of rfl rfl rfl rfl) (fun _ _ _ _ h => h)) (pa_cons (pv 3) pa_nil))) (pss_cons (ps_expr (pe_callC c_need_keys hr (by decide) (passes_call (takes_of rfl rfl rfl rfl) (fun _ _ _ _ h => h)) (pa_cons (pe_ix ix_list (pv 2) pe_int (fun _ _ => rfl)) pa_nil))) (pss_cons (ps_set (i := 5) sc_anomaly.nd rfl (Or.inl rfl) (pe_callC c_anomaly_of hr (by decide) pass0 (pa_cons (pv 3) (pa_cons (pv 4) (pa_cons (pe_ix ix_list (pv 2) pe_int (fun _ _ => rfl)) pa_nil))))) (pss_one (ps_ret (pe_ifExp (pt_cmpR op_isN (pv 5) pe_non (nomark _)) (pe_lst (pa_cons pe_int pa_nil)) (pe_op op_cat (pe_lst (pa_cons pe_int pa_nil)) (pv 5)))))))))), ?_⟩)
  obtain ⟨G, h, dx, c, n, l, st, ns, ls, k, rfl, s, gh, hh, hc, hn, hl, hk, hb, he, hd⟩ := h
  obtain ⟨p, r, zs, rfl, rfl, rfl⟩ := co13 hk
  obtain ⟨hz, hz0⟩ := hb zs (by simp)
  obtain ⟨u, hlu, hu⟩ := hl.one (K := K) s
  refine ⟨_, rfl, n, _, rfl, .inl (.inl (s _ _ hn)), rfl, _, _, rfl, _, _, rfl, rfl, ?_⟩
  refine ⟨_, rfl, r, rfl, fun h1 => ?_, fun h1 => he _ (by rw [s_ano1 h1])⟩
  refine ⟨_, rfl, p, rfl, fun h2 => ?_, fun h2 => he _ (by rw [s_ano2 h1 h2])⟩
  refine ⟨_, rfl, l, _, 0, _, rfl, rfl, hlu, rfl, G, u, zs, rfl, s, hu, hz, fun h3 => fun G1 H1 v X1 _ => ?_, fun h3 => he _ (by rw [s_ano3 h1 h2 (key_not hz0 h3)])⟩
  obtain ⟨cap, rfl, hcap⟩ := nat_cap h1
  obtain ⟨po, rfl, hpo⟩ := nat_pol h2
  have h3' := key_seq hz0 h3
  rw [s_ano h1 h2 h3'] at hd
  refine ⟨_, rfl, _, rfl, _, rfl, l, _, 0, _, rfl, rfl, X1.same.seq hlu, rfl, G1, po, cap, u, nats zs, rfl, X1.sub, hcap, (hu.nats hz0).mono X1.ext, fun G2 H2 v X2 r2 => ?_⟩
  have X12 := X1.trans X2
  cases ea : anomF 0 (emptyCache cap po) (emptyCache (cap + 1) po) (nats zs) with
  | none =>
    rw [ea] at r2 hd
    have r2' : v = .non := r2
    subst r2'
    refine ⟨_, rfl, rfl, _, rfl, ?_⟩
    refine iteT ⟨by show 1 ≤ sizeLine; decide, fun q hq => ?_⟩
    exact (hd _ rfl).stay hh hc (X12.made hq _) (IntsAt.ofNats (l := [0]) upd_same)
  | some tr =>
    obtain ⟨i, a, b⟩ := tr
    rw [ea] at r2 hd
    obtain ⟨q, rfl, hq⟩ := r2
    refine ⟨_, rfl, rfl, _, rfl, ?_⟩
    refine iteF ⟨by show 1 ≤ sizeLine; decide, fun p1 hp1 => ?_⟩
    have X3 := X12.hid hp1 (.lst [.int 1])
    refine ⟨_, rfl, two_lists upd_same (X3.sub _ _ hq) (by show 1 + 3 ≤ _; omega) fun z hzz => ?_⟩
    exact (hd _ rfl).stay hh hc (X3.made hzz _) (IntsAt.ofNats (l := [1, i, a, b]) upd_same)
end
end Ks
/-! A call's answer, the calls of a list. -/
namespace Ks
open PySem PySem.Spec PyProof.Rows L2
open Vakptc (Cache emptyCache step)
open VakptcNeutral (callOf encode asked1)
/-! ### a def that a local name holds, called where what it raises is wished for at the slots -/
section
variable {X : Cx} {CX : CXT} {j k i : Nat} {ps : List Str} {ok : Addr → Sp → Prop} {E : L2.St → XK} {x : Str} {p pos : Pos} {e : Expr} {es : List Expr} {t : TA}
def tCallD (i : Nat) (ok : Addr → Sp → Prop) (E : L2.St → XK) (t : TA) : TE := fun σ H Q => ∃ f sp, σ[i]? = some (some (.ref f)) ∧ ok f sp ∧ t σ H fun vs H1 => sp vs H1 Q (E σ)
theorem pe_callD (A : ∀ f sp, ok f sp → FOk X.prog X.w X.K X.mg X.base CX k ps sp f) (hr : Room j X.A) (hk : k ≤ j) (hN : X.N[i]? = some x) (hv : Vis X.env.scope x) (hx : ∀ σ, PassesAt CX X σ (E σ)) (ha : PA X (e :: es) t)
    (nd : NotDbg x := by decide) (nc : (x == ("__classdict__" : Str)) = false := by decide) (p1 : Plain1 X e es := by rfl) (p2 : NoStar X pos es := by rfl) : PE X (.Call (.Name x p) (e :: es) [] pos) (tCallD i ok E t) := by
  refine ⟨fun pins s σ H Q I h => ?_⟩
  obtain ⟨f, sp, hs, ho, ht⟩ := h
  obtain ⟨fd, F, hb, kp⟩ := A f sp ho
  refine wpAny_Call_Name_kw (thn ((pe_var (pos := p) hN hv nd nc).run pins s σ H (fun z J => z = .ref f ∧ J = H) I ⟨.ref f, hs, rfl, rfl⟩) fun u s1 ⟨v, J, I1, r1, q1⟩ => ?_)
  obtain ⟨rfl, rfl⟩ := q1
  cases r1
  refine PySem.W.callWith_K (h₀ := X.base) I.ok.mod.kin kp (thn (ha.run pos pins s1 σ _ _ I1 ht) fun as s2 ⟨vs, J2, I2, rr, qq⟩ => ⟨I2.kIn, ?_⟩) p1 p2
  exact run_fnS F (hr.mono hk) hb (hx σ) I2 rr qq
end
/-- the table of operations: a tuple of the module's own, f0 .. f13 -/
structure Deeds (P : Program) (w : World) (K : PySem.W.Frag) (mg : Str → Option Value) (base : Heap) (C CH CR : Addr) (aD : Addr) (fs : List Addr) : Prop where
  g : mg "DEEDS" = some (.ref aD)
  tup : ∀ H : Hp, SqT K H aD (fs.map V.ref)
  len : fs.length = 14
  ok : ∀ (i : Nat) (f : Addr), fs[i]? = some f → FOk P w K mg base (L2.CX P w) 10 ["holder", "numbers", "lists"] (spDeed C CH CR i) f
/-- the table of shapes -/
structure Shapes (K : PySem.W.Frag) (mg : Str → Option Value) (aS : Addr) (qs : List Addr) : Prop where
  g : mg "SHAPES" = some (.ref aS)
  tup : ∀ H : Hp, SqT K H aS (qs.map V.ref)
  len : qs.length = 14
  ok : ∀ (i : Nat) (q : Addr), qs[i]? = some q → ∃ n k, PyVakptc.shape (i : Int) = some (n, k) ∧ ∀ H : Hp, SqT K H q [vN n, vN k]
section
variable (C CH : Addr)
def spAnswer : Sp := fun vs H Q _ => ∃ (G : Hp) (h dx c n l : Addr) (st : Cache) (ns : List Int) (ls : List (List Int)) (k : Vakptc.Call) (i : Nat), vs = [.ref h, vN i, .ref n, .ref l] ∧ i < 14 ∧ Same G H ∧ G h = none ∧ H h = some (.ins CH dx (hF c)) ∧ CacheAt C G c st ∧ IntsAt G n ns ∧ ListsAt G l ls ∧
  callOf (((i : Int) :: ns) :: ls) = some k ∧ (∀ r ∈ ls, r.length ≤ 1000 ∧ ∀ z ∈ r, 0 ≤ z) ∧ Done C CH G H h dx (step st k).1 (encode (step st k).2) Q
end
def spListsAt (K : PySem.W.Frag) : Sp := fun vs H Q _ => ∃ (G : Hp) (a : Addr) (zs : List Int) (many at_ : Nat) (ls : List (List Int)) (t : List Int), vs = [.ref a, vN many, vN at_] ∧ Same G H ∧ SqL K H a (zs.map V.int) ∧ many ≤ 10 ∧ at_ ≤ zs.length ∧ zs.length ≤ 20000 ∧
  PyFlat.rows many (zs.drop at_) = some (ls, t) ∧ Post G H (fun G' v => ∃ (tp q : Addr) (b : Nat), v = .ref tp ∧ G' tp = some (.tup [.ref q, vN b]) ∧ ListsAt G' q ls ∧ zs.drop b = t ∧ at_ ≤ b ∧ b ≤ zs.length) Q
def spAnswers (K : PySem.W.Frag) : Sp := fun vs H Q _ => ∃ (a : Addr) (zs : List Int), vs = [.ref a] ∧ SqL K H a (zs.map V.int) ∧ zs.length ≤ 20000 ∧ PyVakptc.answers_asked zs = true ∧ ∀ (H' : Hp) (p : Addr), H' p = some (.lst ((PyVakptc.answers zs).map V.int)) → Q (.ref p) H'
theorem cut_mid {xs : List V} {a b : Nat} (h1 : a ≤ b) (h2 : b ≤ xs.length) : cutV xs (some (a : Int)) (some (b : Int)) = (xs.drop a).take (b - a) := by
  unfold cutV
  rw [HT.sIx_nat, HT.sIx_nat, Nat.min_eq_left h2, Nat.min_eq_left (Nat.le_trans h1 h2)]
theorem cut_ints {zs : List Int} {a b : Nat} (h1 : a ≤ b) (h2 : b ≤ zs.length) : cutV (zs.map V.int) (some (a : Int)) (some (b : Int)) = ((zs.drop a).take (b - a)).map V.int := by
  rw [cut_mid h1 (by rw [List.length_map]; exact h2), List.map_take, List.map_drop]
section
variable {P : Program} {w : World} {K : PySem.W.Frag} {mg : Str → Option Value} {base : Heap} {C CH CR aD aS f : Addr} {fs qs : List Addr}
theorem sc_answer : FnScope ["holder", "call", "numbers", "lists", "deed", "found", "e"] ["holder", "call", "numbers", "lists"] (defScope (top 85)) := ⟨rfl, rfl, rfl, by decide +kernel, rfl, by decide +kernel, by decide +kernel⟩
theorem ok_answer (T : ClsR K mg CR) (DD : Deeds P w K mg base C CH CR aD fs) (D : DF K mg "answer" (top 85) ["holder", "call", "numbers", "lists"] f) : FOk P w K mg base CX0 11 ["holder", "call", "numbers", "lists"] (spAnswer C CH) f := by
  have A : ∀ f sp, (∃ i : Nat, fs[i]? = some f ∧ sp = spDeed C CH CR i) → FOk P w K mg base (L2.CX P w) 10 ["holder", "numbers", "lists"] sp f := fun f sp ⟨i, h, e⟩ => by
    rw [e]
    exact DD.ok i f h
  have c_DEEDS := DD.g
  refine D.ok sc_answer (fun vs H Q E ⟨_, _, _, _, _, _, _, _, _, _, _, e, _⟩ => by rw [e]; rfl) (fun f cdv A0 outer s1 H vs Q E hr h => ⟨_,
    (pss_cons (ps_par (i := 4) (j := 5) rfl sc_answer.nd rfl rfl (by decide) rfl rfl (pa_cons (pe_ix (show IxR _ (rIxT K) from ix_tup) (pe_gref c_DEEDS) (pv 1) (fun _ _ => rfl)) (pa_cons (pe_lst pa_nil) pa_nil)) (by rfl))
    (pss_cons (ps_try_as (i := 6) (tb := fun W => tAsg (tCallD 4 (fun f sp => ∃ i : Nat, fs[i]? = some f ∧ sp = spDeed C CH CR i) (WE W) (tCons (tVar 0) (tCons (tVar 2) (tCons (tVar 3) tNil)))) (gName 5))
        (ts := fun a cls d => tAsg (tLst (tCons (tXf a cls d CR "code" (tVar 6)) tNil)) (gName 5)) (Wout := fun _ _ _ _ => False) rfl rfl sc_answer.nd rfl rfl ⟨rfl, by decide, Or.inl T.g⟩ takes0
        (fun W pn xe tk _ => pss_one (ps_set (i := 5) sc_answer.nd rfl (Or.inl rfl) (by exact (pe_callD A hr (by decide) rfl (Or.inl rfl) (fun σ => passAt tk σ) (by exact (pa_cons (pv 0) (pa_cons (pv 2) (pa_cons (pv 3) pa_nil))))))))
        (fun a oe cls d pn hz hf => pss_one (ps_set (i := 5) sc_answer.nd rfl (Or.inl rfl) (by exact (pe_lst (pa_cons (pe_xf T.xf T.nC hz hf (pv 6)) pa_nil))))))
    (pss_one (ps_ret (pv 5))))), ?_⟩)
  obtain ⟨G, h, dx, c, n, l, st, ns, ls, k, i, rfl, hi, s, gh, hh, hc, hn, hl, hk, hb, hd⟩ := h
  obtain ⟨g, hg⟩ : ∃ g, fs[i]? = some g := ⟨fs[i]'(by rw [DD.len]; exact hi), List.getElem?_eq_getElem _⟩
  refine ⟨_, rfl, aD, _, _, .ref g, rfl, rfl, DD.tup H, atI_nat (by rw [List.getElem?_map, hg]; rfl), by show 0 ≤ sizeLine; decide, fun p0 hp0 => ⟨_, _, rfl, ?_⟩⟩
  have X0 := (Ext.refl s).hid hp0 (.lst [])
  have hh0 := X0.same _ _ hh
  generalize upd H p0 (.lst []) = H0 at X0 hh0 ⊢
  have D0 : Done C CH G H0 h dx (step st k).1 (encode (step st k).2) Q := fun G' H' c' p k1 k2 k3 k4 k5 k6 k7 => hd G' H' c' p (fun b o e hb => k1 b o (X0.same _ _ e) hb) k2 k3 (fun b e g => k4 b (some_of X0.same e) g) k5 k6 k7
  refine ⟨g, _, rfl, ⟨i, hg, rfl⟩, _, rfl, _, rfl, _, rfl, G, h, dx, c, n, l, st, ns, ls, k, rfl, X0.sub, gh, hh0, hc, hn, hl, hk, hb, fun code ec => ?_, fun vals ev => ?_⟩
  · intro d H' sm hdn hx
    refine ⟨true, T.te, fun _ a ha => ?_, fun q => Bool.noConfusion q⟩
    refine ⟨_, rfl, rfl, rfl, d, _, _, rfl, hx, lk_here, by show 1 ≤ sizeLine; decide, fun p hp => ?_⟩
    rw [ec, step_error ec] at D0
    have X1 : Ext G H0 G H' := ⟨sm, X0.sub.trans sm, .refl _, fun _ _ g => g⟩
    exact ⟨_, rfl, D0.stay hh0 hc (X1.made hp _) (show IntsAt _ p [code] from upd_same)⟩
  · rw [ev] at D0
    intro G' H' c' p k1 k2 k3 k4 k5 k6 k7
    exact ⟨_, rfl, D0 G' H' c' p k1 k2 k3 k4 k5 k6 k7⟩
theorem sc_lists_at : FnScope ["calls", "many", "at", "found", "turn", "end"] ["calls", "many", "at"] (defScope (top 86)) := ⟨rfl, rfl, rfl, by decide +kernel, rfl, by decide +kernel, by decide +kernel⟩
theorem ok_lists_at (bl : Blt mg) (D : DF K mg "lists_at" (top 86) ["calls", "many", "at"] f) : FOk P w K mg base CX0 1 ["calls", "many", "at"] (spListsAt K) f := by
  refine D.ok sc_lists_at (fun vs H Q E ⟨_, _, _, _, _, _, _, e, _⟩ => by rw [e]; rfl) (fun f cdv A outer s1 H vs Q E hr h => ⟨_, (pss_cons (ps_set (i := 3) sc_lists_at.nd rfl (Or.inl rfl) (pe_lst pa_nil)) (pss_cons (ps_for PassesOwn.never rfl (pi_range1 (by rfl) bl.range (pa_cons (pv 1) pa_nil)) (pg_name (i := 4) sc_lists_at.nd rfl (Or.inl rfl)) (pss_cons (ps_set (i := 5) sc_lists_at.nd rfl (Or.inl rfl) (pe_op op_add (pe_op op_add (pv 2) pe_int) (pe_ix ix_list (pv 0) (pv 2) (fun _ _ => rfl)))) (pss_cons (ps_expr (pe_bm PySem.F.plainAttrs_list PySem.F.slot_list_append PySem.F.type_list_append mt_append (pv 3) (pa_cons (pe_slice sl_list (pv 0) (po_some (pe_op op_add (pv 2) pe_int)) (po_some (pv 5))) pa_nil))) (pss_one (ps_set (i := 2) sc_lists_at.nd rfl (Or.inl rfl) (pv 5)))))) (pss_one (ps_ret (pe_tup (pa_cons (pv 3) (pa_cons (pv 2) pa_nil))))))), ?_⟩)
  obtain ⟨G, a, zs, many, at_, ls, t, rfl, s, ha, hm, hat, hz, hrows, post⟩ := h
  refine ⟨by show 0 ≤ sizeLine; decide, fun D hD => ?_⟩
  have gD := s.free hD
  refine ⟨_, rfl, _, rfl, by omega, by omega, for_range (lo := 0) (n := ((many : Nat) : Int).toNat) (fun i σ H' => ∃ G' b ws done left y1 y2, σ = [some (.ref a), some (vN many), some (vN b), some (.ref D), y1, y2] ∧ Ext G H G' H' ∧ G' D = none ∧ H' D = some (.lst ws) ∧ ws.length = i ∧
      All2 (fun v r => ∃ q, v = V.ref q ∧ IntsAt G' q r) ws done ∧ done ++ left = ls ∧ at_ ≤ b ∧ b ≤ zs.length ∧ PyFlat.rows (many - i) (zs.drop b) = some (left, t))
    ⟨G, at_, [], [], ls, none, none, rfl, (Ext.refl s).put hD gD _, gD, upd_same, rfl, .nil, rfl, Nat.le_refl _, hat, hrows⟩ ?_ ?_⟩
  · rintro i σ H' hi ⟨G', b, ws, done, left, y1, y2, rfl, X, gn, hw, lw, al, ed, hab, hb, hr2⟩
    have hi' : i < many := by omega
    rw [show many - i = (many - (i + 1)) + 1 by omega] at hr2
    obtain ⟨n, r, left', e1, hn0, hnl, rfl, hr3⟩ := rows_more hr2
    obtain ⟨hget, hdr, hbl⟩ := drop_next e1
    obtain ⟨m, rfl⟩ : ∃ m : Nat, n = m := ⟨n.toNat, by omega⟩
    have em : ((m : Int)).toNat = m := Int.toNat_natCast m
    rw [em] at hnl hr3 ed
    have hrl : r.length = zs.length - (b + 1) := by rw [← hdr, List.length_drop]
    have ha' := X.same.seq ha
    refine ⟨_, rfl, _, _, rfl, rfl, _, rfl, _, rfl, a, _, _, .int (m : Int), rfl, rfl, ha', atI_nat (by rw [List.getElem?_map, hget]; rfl), _, _, rfl, rfl, ?_⟩
    refine ⟨_, rfl, .inl ⟨rfl, _, .inl (.inl hw)⟩, _, rfl, _, rfl, _, _, rfl, rfl, _, rfl, _, rfl, _, rfl, a, _, rfl, ha', fun p hp => ?_⟩
    have ecut : cutV (zs.map V.int) (some ((b : Int) + 1)) (some ((b : Int) + 1 + (m : Int))) = (r.take m).map V.int := by
      have e2 : (b : Int) + 1 = ((b + 1 : Nat) : Int) := rfl
      have e3 : (b : Int) + 1 + (m : Int) = ((b + 1 + m : Nat) : Int) := rfl
      rw [e3, e2, cut_ints (by omega) (by omega), hdr, show b + 1 + m - (b + 1) = m by omega]
    rw [ecut]
    have X1 := X.made hp (.lst ((r.take m).map V.int))
    have g1 := X.sub.free hp
    have nDp : D ≠ p := ne_of_none hw hp
    have hw1 : upd H' p (.lst ((r.take m).map V.int)) D = some (.lst ws) := by rw [upd_ne nDp]; exact hw
    have gn1 : upd G' p (.lst ((r.take m).map V.int)) D = none := by rw [upd_ne nDp]; exact gn
    refine ⟨D, ws, _, rfl, rfl, hw1, size_small (by omega), ?_⟩
    refine ⟨_, rfl, _, b + 1 + m, ws ++ [.ref p], done ++ [r.take m], left', _, _, rfl, X1.put hD gn1 _, gn1, upd_same, by rw [List.length_append, lw]; rfl, ?_, ?_, by omega, by omega, ?_⟩
    · exact (al.imp fun _ _ ⟨q, e, z⟩ => ⟨q, e, z.mono (same_upd g1)⟩).app (.one ⟨p, rfl, upd_same⟩)
    · rw [List.append_assoc]
      exact ed
    · rw [← List.drop_drop, hdr]
      exact hr3
  · rintro σ H' ⟨G', b, ws, done, left, y1, y2, rfl, X, gn, hw, lw, al, ed, hab, hb, hr2⟩
    have en : ((many : Nat) : Int).toNat = many := Int.toNat_natCast many
    rw [en, Nat.sub_self] at hr2
    obtain ⟨rfl, rfl⟩ := rows_none hr2
    rw [List.append_nil] at ed
    subst ed
    refine ⟨_, rfl, _, rfl, by show 2 ≤ sizeLine; decide, fun tp ht => ?_⟩
    have X1 := X.tell hD gn hw
    have g1 := X1.sub.free ht
    exact post _ _ _ (X1.made ht _) ⟨tp, D, b, rfl, upd_same, ⟨ws, (same_upd g1) _ _ upd_same, al.imp fun _ _ ⟨q, e, z⟩ => ⟨q, e, (z.mono (same_upd gn)).mono (same_upd g1)⟩⟩, rfl, hab, hb⟩
end
end Ks
/-! The calls of a list. -/
namespace Ks
open PySem PySem.Spec PyProof.Rows L2
open Vakptc (Cache emptyCache step)
open VakptcNeutral (callOf encode asked1)
section
variable {P : Program} {w : World} {K : PySem.W.Frag} {mg : Str → Option Value} {base : Heap} {C CH CR aD aS f : Addr} {fs qs : List Addr}
theorem sc_answers : FnScope ["calls", "holder", "found", "at", "call", "plain", "many", "lists", "behind", "one"] ["calls"] (defScope (top 87)) := ⟨rfl, rfl, rfl, by decide +kernel, rfl, by decide +kernel, by decide +kernel⟩
theorem ok_answers {fd : FuncData} (bl : Blt mg) (SS : Shapes K mg aS qs) (F : Fun K "answers" "answers" (top 87) f fd) (c_Holder : MakeOk P w K mg base CX0 4 CH "Holder" ["self"] (spHInit C CH)) (c_lists_at : CallOk P w K mg base CX0 1 "lists_at" ["calls", "many", "at"] (spListsAt K))
    (c_answer : CallOk P w K mg base CX0 11 "answer" ["holder", "call", "numbers", "lists"] (spAnswer C CH)) : FnOk P w K mg base CX0 12 f fd ["calls"] (spAnswers K) := by
  have c_SHAPES := SS.g
  refine F.ok sc_answers (fun vs H Q E ⟨_, _, e, _⟩ => by rw [e]; rfl) (fun cdv A outer s1 H vs Q E hr h => ⟨_, (pss_cons (ps_par3 (i := 1) (j := 2) (l := 3) rfl sc_answers.nd rfl rfl rfl (by decide) (by decide) (by decide) rfl rfl rfl (pa_cons (pe_mkC0 c_Holder hr (by decide) pass0) (pa_cons (pe_lst pa_nil) (pa_cons pe_int pa_nil))) (by rfl)) (pss_cons (ps_while PassesOwn.never (pt_cmpR op_lt (pv 3) (pe_callB call_len_seq (by rfl) bl.len (by decide +kernel) (pa_cons (pv 0) pa_nil)) (nomark _)) (pss_cons (ps_set (i := 4) sc_answers.nd rfl (Or.inl rfl) (pe_ix ix_list (pv 0) (pv 3) (fun _ _ => rfl))) (pss_cons (ps_asg (pe_ix (show IxR _ (rIxT K) from ix_tup) (pe_gref c_SHAPES) (pv 4) (fun _ _ => rfl)) (pg_tup rfl (pgs_cons (pg_name (i := 5) sc_answers.nd rfl (Or.inl rfl)) (pgs_cons (pg_name (i := 6) sc_answers.nd rfl (Or.inl rfl)) pgs_nil)))) (pss_cons (ps_asg (pe_callC c_lists_at hr (by decide) pass0 (pa_cons (pv 0) (pa_cons (pv 6) (pa_cons (pe_op op_add (pe_op op_add (pv 3) pe_int) (pv 5)) pa_nil)))) (pg_tup rfl (pgs_cons (pg_name (i := 7) sc_answers.nd rfl (Or.inl rfl)) (pgs_cons (pg_name (i := 8) sc_answers.nd rfl (Or.inl rfl)) pgs_nil)))) (pss_cons (ps_set (i := 9) sc_answers.nd rfl (Or.inl rfl) (pe_callC c_answer hr (by decide) pass0 (pa_cons (pv 1) (pa_cons (pv 4) (pa_cons (pe_slice sl_list (pv 0) (po_some (pe_op op_add (pv 3) pe_int)) (po_some (pe_op op_add (pe_op op_add (pv 3) pe_int) (pv 5)))) (pa_cons (pv 7) pa_nil)))))) (pss_cons (ps_expr (pe_bm PySem.F.plainAttrs_list PySem.F.slot_list_append PySem.F.type_list_append mt_append (pv 2) (pa_cons (pe_callB call_len_seq (by rfl) bl.len (by decide +kernel) (pa_cons (pv 9) pa_nil)) pa_nil))) (pss_cons (ps_expr (pe_bm PySem.F.plainAttrs_list PySem.F.slot_list_extend PySem.F.type_list_extend mt_extend (pv 2) (pa_cons (pv 9) pa_nil))) (pss_one (ps_set (i := 3) sc_answers.nd rfl (Or.inl rfl) (pv 8)))))))))) (pss_one (ps_ret (pv 2))))), ?_⟩)
  obtain ⟨a, zs, rfl, ha, hz, hask, q⟩ := h
  obtain ⟨cs, hcs, hall, eans, hlen⟩ := asked_is hask
  intro x dx hx hd hne
  refine ⟨fun _ => none, x, dx, rfl, fun _ _ e => (by cases e), rfl, upd_same, fun G' H' c k1 k2 k3 k4 k5 k6 => ⟨rfl, ?_⟩⟩
  have sm : Same H H' := Same.made hx hd k1
  have gx : G' x = none := k4 x (by rw [upd_same]; exact fun z => by cases z) rfl
  have hax : H x = none := hx
  refine ⟨by show 0 ≤ sizeLine; decide, fun D hD => ⟨_, _, _, rfl, ?_⟩⟩
  have hHD : H D = none := sm.free hD
  have hDx : D ≠ x := fun e => by
    rw [e, k5] at hD
    cases hD
  have gD : G' D = none := k3.free hD
  refine ⟨fun m σ H2 => ∃ (G2 : Hp) (c2 : Addr) (b : Nat) (st : Cache) (acc : List Int) (fu : Nat) (cs : List (List (List Int))) (y1 y2 y3 y4 y5 y6 : Option V), σ = [some (.ref a), some (.ref x), some (.ref D), some (vN b), y1, y2, y3, y4, y5, y6] ∧ Same H H2 ∧ Same G2 H2 ∧ G2 x = none ∧ G2 D = none ∧
      H2 x = some (.ins CH dx (hF c2)) ∧ CacheAt C G2 c2 st ∧ H2 D = some (.lst (acc.map V.int)) ∧ b ≤ zs.length ∧ PyFlat.calls PyVakptc.shape fu (zs.drop b) = some cs ∧ (∀ c ∈ cs, asked1 c = true) ∧ acc ++ PyFlat.told (PyFlat.played VakptcNeutral.step st cs) = PyVakptc.answers zs ∧ m = zs.length - b,
    ⟨_, G', c, 0, emptyCache 0 0, [], zs.length, cs, none, none, none, none, none, none, rfl, fun b o e => by rw [upd_ne (ne_of_none e hHD)]; exact sm b o e, fun b o e => by rw [upd_ne (ne_of_none e gD)]; exact k3 b o e, gx, gD, by rw [upd_ne (Ne.symm hDx)]; exact k5, k6, upd_same, Nat.zero_le _, hcs, hall, by rw [eans]; rfl, rfl⟩, ?_⟩
  rintro m σ H2 ⟨G2, c2, b, st, acc, fu, cs, y1, y2, y3, y4, y5, y6, rfl, sm, s2, gx, gD, hhx, hc2, hw, hb, hcs, hall, eq, rfl⟩
  have ha2 := sm.seq ha
  refine ⟨_, rfl, _, rfl, a, _, rfl, .inl ha2, _, _, rfl, rfl, _, rfl, ?_⟩
  rw [List.length_map]
  refine ifd (fun hlt => ?_) (fun hlt => ?_)
  · have hbl : b < zs.length := by omega
    refine ⟨fun σ' H' => ∃ m', m' < zs.length - b ∧ ∃ (G2 : Hp) (c2 : Addr) (b : Nat) (st : Cache) (acc : List Int) (fu : Nat) (cs : List (List (List Int))) (y1 y2 y3 y4 y5 y6 : Option V), σ' = [some (.ref a), some (.ref x), some (.ref D), some (vN b), y1, y2, y3, y4, y5, y6] ∧ Same H H' ∧ Same G2 H' ∧ G2 x = none ∧ G2 D = none ∧
      H' x = some (.ins CH dx (hF c2)) ∧ CacheAt C G2 c2 st ∧ H' D = some (.lst (acc.map V.int)) ∧ b ≤ zs.length ∧ PyFlat.calls PyVakptc.shape fu (zs.drop b) = some cs ∧ (∀ c ∈ cs, asked1 c = true) ∧ acc ++ PyFlat.told (PyFlat.played VakptcNeutral.step st cs) = PyVakptc.answers zs ∧ m' = zs.length - b, fun _ _ z => z, ?_⟩
    obtain ⟨p, r, e1⟩ : ∃ p r, zs.drop b = p :: r := ⟨_, _, List.drop_eq_getElem_cons hbl⟩
    obtain ⟨hget, hdr, _⟩ := drop_next e1
    rw [e1] at hcs
    obtain ⟨fu', n, k, ls, t, cs', hsh, hnr, hrows, rfl, hcs'⟩ := calls_more hcs
    obtain ⟨i, kk, ns', ls', ec, ak⟩ := askd_of (hall _ (List.mem_cons_self ..))
    have ei : p = (i : Int) ∧ r.take n = ns' ∧ ls = ls' := by
      injection ec with h1 h2
      injection h1 with h3 h4
      exact ⟨h3, h4, h2⟩
    obtain ⟨rfl, rfl, rfl⟩ := ei
    obtain ⟨qi, hqi⟩ : ∃ qi, qs[i]? = some qi := ⟨qs[i]'(by rw [SS.len]; exact ak.lt), List.getElem?_eq_getElem _⟩
    obtain ⟨n', k', hsh', hti⟩ := SS.ok i qi hqi
    rw [hsh] at hsh'
    obtain ⟨rfl, rfl⟩ : n = n' ∧ k = k' := by
      have z := Option.some.inj hsh'
      exact ⟨congrArg Prod.fst z, congrArg Prod.snd z⟩
    have hk10 : k ≤ 10 := by
      have : ∀ j : Nat, j < 14 → ∀ n k, PyVakptc.shape (j : Int) = some (n, k) → k ≤ 10 := by
        intro j hj n k hk
        match j, hj with
        | 0, _ => cases hk; omega
        | 1, _ => cases hk; omega
        | 2, _ => cases hk; omega
        | 3, _ => cases hk; omega
        | 4, _ => cases hk; omega
        | 5, _ => cases hk; omega
        | 6, _ => cases hk; omega
        | 7, _ => cases hk; omega
        | 8, _ => cases hk; omega
        | 9, _ => cases hk; omega
        | 10, _ => cases hk; omega
        | 11, _ => cases hk; omega
        | 12, _ => cases hk; omega
        | 13, _ => cases hk; omega
      exact this i ak.lt n k hsh
    have hrl : r.length = zs.length - (b + 1) := by rw [← hdr, List.length_drop]
    refine ⟨_, rfl, _, rfl, a, _, _, .int (i : Int), rfl, rfl, ha2, atI_nat (by rw [List.getElem?_map, hget]; rfl), ?_⟩
    refine ⟨_, rfl, aS, _, _, .ref qi, rfl, rfl, SS.tup H2, atI_nat (by rw [List.getElem?_map, hqi]; rfl), qi, _, rfl, hti H2, rfl, _, _, rfl, _, _, rfl, rfl, ?_⟩
    refine ⟨_, rfl, _, rfl, _, rfl, _, _, rfl, rfl, _, rfl, _, _, rfl, rfl, G2, a, zs, k, b + 1 + n, ls, t, rfl, s2, ha2, hk10, by omega, hz, by rw [← List.drop_drop, hdr]; exact hrows, fun G3 H3 v X3 r3 => ?_⟩
    obtain ⟨tp, lq, b2, rfl, htp, hlq, hdb2, hb12, hb2⟩ := r3
    have gx3 : G3 x = none := X3.keep (by rw [hhx]; exact fun z => by cases z) gx
    have gD3 : G3 D = none := X3.keep (by rw [hw]; exact fun z => by cases z) gD
    refine ⟨tp, _, rfl, .inl (.inl (X3.sub _ _ htp)), rfl, _, _, rfl, _, _, rfl, rfl, ?_⟩
    have sm3 := sm.trans X3.same
    have ha3 := sm3.seq ha
    refine ⟨_, rfl, _, rfl, _, rfl, _, rfl, _, _, rfl, rfl, _, rfl, _, rfl, _, _, rfl, rfl, _, rfl, _, _, rfl, rfl, _, rfl, a, _, rfl, ha3, fun np hnp => ?_⟩
    have ecut : cutV (zs.map V.int) (some ((b : Int) + 1)) (some ((b : Int) + 1 + (n : Int))) = (r.take n).map V.int := by
      have e2 : (b : Int) + 1 = ((b + 1 : Nat) : Int) := rfl
      have e3 : (b : Int) + 1 + (n : Int) = ((b + 1 + n : Nat) : Int) := rfl
      rw [e3, e2, cut_ints (by omega) (by omega), hdr, show b + 1 + n - (b + 1) = n by omega]
    rw [ecut]
    have X4 := X3.made hnp (.lst ((r.take n).map V.int))
    have g4 := X3.sub.free hnp
    have hw3 := X3.same _ _ hw
    have hh3 := X3.same _ _ hhx
    have nDn : D ≠ np := ne_of_none hw3 hnp
    have nxn : x ≠ np := ne_of_none hh3 hnp
    have gx4 : upd G3 np (.lst ((r.take n).map V.int)) x = none := by rw [upd_ne nxn]; exact gx3
    have gD4 : upd G3 np (.lst ((r.take n).map V.int)) D = none := by rw [upd_ne nDn]; exact gD3
    have hw4 := same_upd (o := .lst ((r.take n).map V.int)) hnp _ _ hw3
    have hh4 := same_upd (o := .lst ((r.take n).map V.int)) hnp _ _ hh3
    refine ⟨_, rfl, _, x, dx, c2, np, lq, st, _, ls, kk, i, rfl, ak.lt, X4.sub, gx4, hh4, hc2.mono X4.ext, (show IntsAt _ np (r.take n) from upd_same), hlq.mono (same_upd g4), ak.call, fun r hr => ak.rows r (by simpa using hr), ?_⟩
    intro G5 H5 c5 on j1 j2 j3 j4 j5 j6 j7
    have gD5 : G5 D = none := j4 D (by rw [hw4]; exact fun z => by cases z) gD4
    have gx5 : G5 x = none := j4 x (by rw [hh4]; exact fun z => by cases z) gx4
    have hw5 : H5 D = some (.lst (acc.map V.int)) := j1 D _ hw4 hDx
    have hon := j3 _ _ j7
    have nDo : D ≠ on := fun e => by
      rw [← e] at j7
      have j7' : G5 D = some _ := j7
      rw [gD5] at j7'
      cases j7'
    rw [played_cons ak.call, told_cons] at eq
    have tot : acc.length + (1 + (encode (step st kk).2).length) ≤ 10000000 := by
      have := congrArg List.length eq
      rw [List.length_append, List.length_append, List.length_cons] at this
      omega
    have hsz : (10000000 : Nat) < sizeLine := by decide
    have sm5 : Same H H5 := fun z o e => j1 z o (X4.same _ _ (sm z o e)) (fun ez => by rw [ez, hax] at e; cases e)
    refine ⟨_, rfl, .inl ⟨rfl, _, .inl (.inl hw5)⟩, _, rfl, on, _, rfl, .inl (.inl (.inl hon)), D, _, _, rfl, rfl, hw5, by rw [List.length_map]; omega, ?_⟩
    refine ⟨_, rfl, .inl ⟨rfl, _, .inl (.inl upd_same)⟩, _, rfl, D, on, _, _, rfl, rfl, upd_same, by rw [upd_ne (Ne.symm nDo)]; exact hon, by rw [List.length_append, List.length_map, List.length_map]; show acc.length + 1 + _ ≤ _; omega, ?_⟩
    rw [upd_upd]
    refine ⟨_, rfl, zs.length - b2, by omega, G5, c5, b2, (step st kk).1, acc ++ (((encode (step st kk).2).length : Int) :: encode (step st kk).2), fu', cs', _, _, _, _, _, _, rfl, fun z o e => by rw [upd_ne (ne_of_none e hHD)]; exact sm5 z o e, fun z o e => by rw [upd_ne (ne_of_none e gD5)]; exact j3 z o e, gx5, gD5, by rw [upd_ne (Ne.symm hDx)]; exact j5, j6, ?_, hb2, by rw [hdb2]; exact hcs', fun c hc => hall c (List.mem_cons_of_mem _ hc), ?_, rfl⟩
    · rw [upd_same, List.length_map, List.map_append, List.append_assoc]
      rfl
    · rw [List.append_assoc]
      exact eq
  · have e1 : zs.drop b = [] := List.drop_eq_nil_of_le (by omega)
    rw [e1] at hcs
    have e2 := calls_end hcs
    subst e2
    have e3 : acc = PyVakptc.answers zs := by
      rw [← eq]
      exact (List.append_nil _).symm
    rw [e3] at hw
    exact ⟨_, rfl, q _ D hw⟩
end
end Ks
/-! The end: what the top has written; the summaries put together. -/
namespace Ks
open PySem PySem.Spec PyProof.Rows L2
/-- how the arguments of a def bind -/
def BindsAll (x q : Str) (s : Stmt) (ps : List Str) : Prop := ∀ (kV doc pm : Value) (an : Option Addr) (cdv ct : Value) (us : List Value), us.length = ps.length → bindArgs (PySem.W.fnOf x q (defArgs s) (defBody s) (defScope s) .none kV doc pm an cdv ct) ⟨us, []⟩ = pure (ps.zip us)
theorem b_keys_of : BindsAll "keys_of" "keys_of" (top 10) ["entries"] := fun _ _ _ _ _ _ us hl => match us, hl with | [_], _ => rfl
theorem b_without : BindsAll "without" "without" (top 11) ["things", "at"] := fun _ _ _ _ _ _ us hl => match us, hl with | [_, _], _ => rfl
theorem b_used : BindsAll "used" "used" (top 12) ["entry", "number"] := fun _ _ _ _ _ _ us hl => match us, hl with | [_, _], _ => rfl
theorem b_cleared : BindsAll "cleared" "cleared" (top 13) ["entry"] := fun _ _ _ _ _ _ us hl => match us, hl with | [_], _ => rfl
theorem b_turned : BindsAll "turned" "turned" (top 14) ["entries"] := fun _ _ _ _ _ _ us hl => match us, hl with | [_], _ => rfl
theorem b_first_with : BindsAll "first_with" "first_with" (top 15) ["numbers", "wanted"] := fun _ _ _ _ _ _ us hl => match us, hl with | [_, _], _ => rfl
theorem b_least_recent : BindsAll "least_recent" "least_recent" (top 16) ["entries"] := fun _ _ _ _ _ _ us hl => match us, hl with | [_], _ => rfl
theorem b_most_recent : BindsAll "most_recent" "most_recent" (top 17) ["entries"] := fun _ _ _ _ _ _ us hl => match us, hl with | [_], _ => rfl
theorem b_least_used : BindsAll "least_used" "least_used" (top 18) ["entries"] := fun _ _ _ _ _ _ us hl => match us, hl with | [_], _ => rfl
theorem b_before_eviction : BindsAll "before_eviction" "before_eviction" (top 19) ["policy", "entries"] := fun _ _ _ _ _ _ us hl => match us, hl with | [_, _], _ => rfl
theorem b_victim_place : BindsAll "victim_place" "victim_place" (top 20) ["policy", "entries"] := fun _ _ _ _ _ _ us hl => match us, hl with | [_, _], _ => rfl
theorem b_Cache_init : BindsAll "__init__" "Cache.__init__" (inClass (top 23) 0) ["self", "capacity", "policy", "entries", "number", "misses"] := fun _ _ _ _ _ _ us hl => match us, hl with | [_, _, _, _, _, _], _ => rfl
theorem b_Cache_hits : BindsAll "hits" "Cache.hits" (inClass (top 23) 1) ["self"] := fun _ _ _ _ _ _ us hl => match us, hl with | [_], _ => rfl
theorem b_Cache_cached_keys : BindsAll "cached_keys" "Cache.cached_keys" (inClass (top 23) 2) ["self"] := fun _ _ _ _ _ _ us hl => match us, hl with | [_], _ => rfl
theorem b_Cache_has : BindsAll "has" "Cache.has" (inClass (top 23) 3) ["self", "key"] := fun _ _ _ _ _ _ us hl => match us, hl with | [_, _], _ => rfl
theorem b_Cache_is_full : BindsAll "is_full" "Cache.is_full" (inClass (top 23) 4) ["self"] := fun _ _ _ _ _ _ us hl => match us, hl with | [_], _ => rfl
theorem b_Cache_with_entries : BindsAll "with_entries" "Cache.with_entries" (inClass (top 23) 5) ["self", "entries"] := fun _ _ _ _ _ _ us hl => match us, hl with | [_, _], _ => rfl
theorem b_Cache_removed : BindsAll "removed" "Cache.removed" (inClass (top 23) 6) ["self", "key"] := fun _ _ _ _ _ _ us hl => match us, hl with | [_, _], _ => rfl
theorem b_Cache_evicted : BindsAll "evicted" "Cache.evicted" (inClass (top 23) 7) ["self"] := fun _ _ _ _ _ _ us hl => match us, hl with | [_], _ => rfl
theorem b_Cache_hit : BindsAll "hit" "Cache.hit" (inClass (top 23) 8) ["self", "key"] := fun _ _ _ _ _ _ us hl => match us, hl with | [_, _], _ => rfl
theorem b_Cache_missed : BindsAll "missed" "Cache.missed" (inClass (top 23) 9) ["self", "key"] := fun _ _ _ _ _ _ us hl => match us, hl with | [_, _], _ => rfl
theorem b_Cache_accessed : BindsAll "accessed" "Cache.accessed" (inClass (top 23) 10) ["self", "key"] := fun _ _ _ _ _ _ us hl => match us, hl with | [_, _], _ => rfl
theorem b_empty_cache : BindsAll "empty_cache" "empty_cache" (top 24) ["capacity", "policy"] := fun _ _ _ _ _ _ us hl => match us, hl with | [_, _], _ => rfl
theorem b_cache_behind : BindsAll "cache_behind" "cache_behind" (top 25) ["capacity", "policy", "sequence"] := fun _ _ _ _ _ _ us hl => match us, hl with | [_, _, _], _ => rfl
theorem b_anomaly_of : BindsAll "anomaly_of" "anomaly_of" (top 26) ["policy", "capacity", "sequence"] := fun _ _ _ _ _ _ us hl => match us, hl with | [_, _, _], _ => rfl
theorem b_next_access : BindsAll "next_access" "next_access" (top 29) ["sequence", "at", "key"] := fun _ _ _ _ _ _ us hl => match us, hl with | [_, _, _], _ => rfl
theorem b_farthest_key : BindsAll "farthest_key" "farthest_key" (top 30) ["sequence", "at", "cached"] := fun _ _ _ _ _ _ us hl => match us, hl with | [_, _, _], _ => rfl
theorem b_other_keys : BindsAll "other_keys" "other_keys" (top 31) ["cached", "key"] := fun _ _ _ _ _ _ us hl => match us, hl with | [_, _], _ => rfl
theorem b_needs_room : BindsAll "needs_room" "needs_room" (top 32) ["capacity", "cached", "key"] := fun _ _ _ _ _ _ us hl => match us, hl with | [_, _, _], _ => rfl
theorem b_with_key : BindsAll "with_key" "with_key" (top 33) ["capacity", "cached", "key"] := fun _ _ _ _ _ _ us hl => match us, hl with | [_, _, _], _ => rfl
theorem b_belady_from : BindsAll "belady_from" "belady_from" (top 34) ["capacity", "sequence", "start", "cached"] := fun _ _ _ _ _ _ us hl => match us, hl with | [_, _, _, _], _ => rfl
theorem b_belady : BindsAll "belady" "belady" (top 35) ["capacity", "sequence"] := fun _ _ _ _ _ _ us hl => match us, hl with | [_, _], _ => rfl
theorem b_least_victim : BindsAll "least_victim" "least_victim" (top 36) ["capacity", "sequence", "at", "cached"] := fun _ _ _ _ _ _ us hl => match us, hl with | [_, _, _, _], _ => rfl
theorem b_optimal_evictions : BindsAll "optimal_evictions" "optimal_evictions" (top 37) ["capacity", "sequence"] := fun _ _ _ _ _ _ us hl => match us, hl with | [_, _], _ => rfl
theorem b_replayed : BindsAll "replayed" "replayed" (top 38) ["capacity", "sequence", "evictions"] := fun _ _ _ _ _ _ us hl => match us, hl with | [_, _, _], _ => rfl
theorem b_phase_starts : BindsAll "phase_starts" "phase_starts" (top 39) ["capacity", "sequence"] := fun _ _ _ _ _ _ us hl => match us, hl with | [_, _], _ => rfl
theorem b_longer_rows : BindsAll "longer_rows" "longer_rows" (top 41) ["rows", "key_bound"] := fun _ _ _ _ _ _ us hl => match us, hl with | [_, _], _ => rfl
theorem b_all_rows : BindsAll "all_rows" "all_rows" (top 42) ["caches", "key_bound", "length"] := fun _ _ _ _ _ _ us hl => match us, hl with | [_, _, _], _ => rfl
theorem b_first_greatest : BindsAll "first_greatest" "first_greatest" (top 43) ["rows"] := fun _ _ _ _ _ _ us hl => match us, hl with | [_], _ => rfl
theorem b_separating : BindsAll "separating" "separating" (top 44) ["first", "second", "capacity", "key_bound", "length"] := fun _ _ _ _ _ _ us hl => match us, hl with | [_, _, _, _, _], _ => rfl
theorem b_farthest_from_best : BindsAll "farthest_from_best" "farthest_from_best" (top 45) ["policy", "capacity", "key_bound", "length"] := fun _ _ _ _ _ _ us hl => match us, hl with | [_, _, _, _], _ => rfl
theorem b_Refused_init : BindsAll "__init__" "Refused.__init__" (inClass (top 60) 0) ["self", "code"] := fun _ _ _ _ _ _ us hl => match us, hl with | [_, _], _ => rfl
theorem b_Holder_init : BindsAll "__init__" "Holder.__init__" (inClass (top 61) 0) ["self"] := fun _ _ _ _ _ _ us hl => match us, hl with | [_], _ => rfl
theorem b_Holder_put : BindsAll "put" "Holder.put" (inClass (top 61) 1) ["self", "cache"] := fun _ _ _ _ _ _ us hl => match us, hl with | [_, _], _ => rfl
theorem b_need : BindsAll "need" "need" (top 62) ["is_so", "code"] := fun _ _ _ _ _ _ us hl => match us, hl with | [_, _], _ => rfl
theorem b_need_capacity : BindsAll "need_capacity" "need_capacity" (top 63) ["capacity"] := fun _ _ _ _ _ _ us hl => match us, hl with | [_], _ => rfl
theorem b_need_policy : BindsAll "need_policy" "need_policy" (top 64) ["policy"] := fun _ _ _ _ _ _ us hl => match us, hl with | [_], _ => rfl
theorem b_is_key : BindsAll "is_key" "is_key" (top 65) ["number"] := fun _ _ _ _ _ _ us hl => match us, hl with | [_], _ => rfl
theorem b_need_key : BindsAll "need_key" "need_key" (top 66) ["key"] := fun _ _ _ _ _ _ us hl => match us, hl with | [_], _ => rfl
theorem b_need_keys : BindsAll "need_keys" "need_keys" (top 67) ["keys"] := fun _ _ _ _ _ _ us hl => match us, hl with | [_], _ => rfl
theorem b_need_size : BindsAll "need_size" "need_size" (top 68) ["key_bound", "most", "length"] := fun _ _ _ _ _ _ us hl => match us, hl with | [_, _, _], _ => rfl
theorem b_listed : BindsAll "listed" "listed" (top 69) ["things"] := fun _ _ _ _ _ _ us hl => match us, hl with | [_], _ => rfl
theorem b_configure : BindsAll "configure" "configure" (top 70) ["holder", "numbers", "lists"] := fun _ _ _ _ _ _ us hl => match us, hl with | [_, _, _], _ => rfl
theorem b_access : BindsAll "access" "access" (top 71) ["holder", "numbers", "lists"] := fun _ _ _ _ _ _ us hl => match us, hl with | [_, _, _], _ => rfl
theorem b_remove : BindsAll "remove" "remove" (top 72) ["holder", "numbers", "lists"] := fun _ _ _ _ _ _ us hl => match us, hl with | [_, _, _], _ => rfl
theorem b_contents : BindsAll "contents" "contents" (top 73) ["holder", "numbers", "lists"] := fun _ _ _ _ _ _ us hl => match us, hl with | [_, _, _], _ => rfl
theorem b_next_victim : BindsAll "next_victim" "next_victim" (top 74) ["holder", "numbers", "lists"] := fun _ _ _ _ _ _ us hl => match us, hl with | [_, _, _], _ => rfl
theorem b_counters : BindsAll "counters" "counters" (top 75) ["holder", "numbers", "lists"] := fun _ _ _ _ _ _ us hl => match us, hl with | [_, _, _], _ => rfl
theorem b_simulate : BindsAll "simulate" "simulate" (top 76) ["holder", "numbers", "lists"] := fun _ _ _ _ _ _ us hl => match us, hl with | [_, _, _], _ => rfl
theorem b_optimal : BindsAll "optimal" "optimal" (top 77) ["holder", "numbers", "lists"] := fun _ _ _ _ _ _ us hl => match us, hl with | [_, _, _], _ => rfl
theorem b_farthest : BindsAll "farthest" "farthest" (top 78) ["holder", "numbers", "lists"] := fun _ _ _ _ _ _ us hl => match us, hl with | [_, _, _], _ => rfl
theorem b_replay : BindsAll "replay" "replay" (top 79) ["holder", "numbers", "lists"] := fun _ _ _ _ _ _ us hl => match us, hl with | [_, _, _], _ => rfl
theorem b_phases : BindsAll "phases" "phases" (top 80) ["holder", "numbers", "lists"] := fun _ _ _ _ _ _ us hl => match us, hl with | [_, _, _], _ => rfl
theorem b_separate : BindsAll "separate" "separate" (top 81) ["holder", "numbers", "lists"] := fun _ _ _ _ _ _ us hl => match us, hl with | [_, _, _], _ => rfl
theorem b_worst : BindsAll "worst" "worst" (top 82) ["holder", "numbers", "lists"] := fun _ _ _ _ _ _ us hl => match us, hl with | [_, _, _], _ => rfl
theorem b_anomaly : BindsAll "anomaly" "anomaly" (top 83) ["holder", "numbers", "lists"] := fun _ _ _ _ _ _ us hl => match us, hl with | [_, _, _], _ => rfl
theorem b_answer : BindsAll "answer" "answer" (top 85) ["holder", "call", "numbers", "lists"] := fun _ _ _ _ _ _ us hl => match us, hl with | [_, _, _, _], _ => rfl
theorem b_lists_at : BindsAll "lists_at" "lists_at" (top 86) ["calls", "many", "at"] := fun _ _ _ _ _ _ us hl => match us, hl with | [_, _, _], _ => rfl
theorem b_answers : BindsAll "answers" "answers" (top 87) ["calls"] := fun _ _ _ _ _ _ us hl => match us, hl with | [_], _ => rfl
section
variable {K : PySem.W.Frag} {h : Heap} {mg : Str → Option Value}
section
variable {x q c : Str} {s : Stmt} {ps : List Str} {f C : Addr} {oc : Value} {od an : Option Addr} {sl : Array (Option Value)} {kV dc pm cd ct : Value}
theorem df_mk (b : BindsAll x x s ps) (X : K.In h) (G : h.Ns mainGlobals mg) (a : PySem.W.nsIn K mainGlobals x = some (some (.ref f))) (l : K.lookup f = some ⟨oc, od, .func (PySem.W.fnOf x x (defArgs s) (defBody s) (defScope s) .none kV dc pm an cd ct), sl⟩)
    (cc : PySem.W.codeIn K cd x = true) (k : PySem.W.keepIn K (.ref f) = true) : DF K mg x s ps f := ⟨⟨_, fun_mk l cc k, (fun_mk l cc k).binds fun kV dc pm an cd ct us e => b kV dc pm an cd ct us e⟩, PySem.W.mg_of X G a⟩
theorem dm_mk (b : BindsAll x q s ps) (a : PySem.W.findIn K (.ref C) x = some (some (.ref f))) (l : K.lookup f = some ⟨oc, od, .func (PySem.W.fnOf x q (defArgs s) (defBody s) (defScope s) .none kV dc pm an cd ct), sl⟩)
    (cc : PySem.W.codeIn K cd q = true) (k : PySem.W.keepIn K (.ref f) = true) (i : PySem.W.isFn K (.ref f) = true) : DM K C x q s ps f := ⟨⟨_, fun_mk l cc k, (fun_mk l cc k).binds fun kV dc pm an cd ct us e => b kV dc pm an cd ct us e⟩, ⟨a, i, k⟩⟩
theorem di_mk (b : BindsAll "__init__" q s ps) (X : K.In h) (G : h.Ns mainGlobals mg) (aC : PySem.W.nsIn K mainGlobals c = some (some (.ref C))) (a : PySem.W.findIn K (.ref C) "__init__" = some (some (.ref f))) (l : K.lookup f = some ⟨oc, od, .func (PySem.W.fnOf "__init__" q (defArgs s) (defBody s) (defScope s) .none kV dc pm an cd ct), sl⟩)
    (cc : PySem.W.codeIn K cd q = true) (k : PySem.W.keepIn K (.ref f) = true) (i : PySem.W.isFn K (.ref f) = true) (mk : PySem.W.makesIn K C = true) (kC : PySem.W.keepIn K (.ref C) = true) : DI K mg C c q s ps f :=
  ⟨⟨_, fun_mk l cc k, (fun_mk l cc k).binds fun kV dc pm an cd ct us e => b kV dc pm an cd ct us e⟩, ⟨mk, a, i, kC⟩, PySem.W.mg_of X G aC⟩
theorem num_mk {i : Int} {t : Addr} (X : K.In h) (G : h.Ns mainGlobals mg) (a : PySem.W.nsIn K mainGlobals x = some (some (.int i t))) : Num mg x i := ⟨t, PySem.W.mg_of X G a⟩
end
theorem clsC_mk {C : Addr} (pg : PySem.W.plainGet K C Str.empty = true) (hd : PySem.W.hasDictIn K C = true) (po : PySem.W.plainOver K C = true) (sa : PySem.W.findIn K (.ref C) "__setattr__" = some (some (.builtin "object.__setattr__")))
    (n1 : PySem.W.findIn K (.ref C) "capacity" = some none) (n2 : PySem.W.findIn K (.ref C) "policy" = some none) (n3 : PySem.W.findIn K (.ref C) "entries" = some none) (n4 : PySem.W.findIn K (.ref C) "number" = some none) (n5 : PySem.W.findIn K (.ref C) "misses" = some none) : ClsC K C :=
  ⟨⟨pg, hd, po, sa⟩, n1, n2, n3, n4, n5⟩
theorem clsH_mk {CH : Addr} (pg : PySem.W.plainGet K CH Str.empty = true) (hd : PySem.W.hasDictIn K CH = true) (po : PySem.W.plainOver K CH = true) (sa : PySem.W.findIn K (.ref CH) "__setattr__" = some (some (.builtin "object.__setattr__")))
    (n1 : PySem.W.findIn K (.ref CH) "cache" = some none) : ClsH K CH := ⟨⟨pg, hd, po, sa⟩, n1⟩
/-- an error of a class is what «except» with the class's name takes -/
theorem exm_own {S : Addr} (h1 : PySem.W.subIn K (.ref S) (.type "BaseException") = some true) (h2 : PySem.W.isClsIn K S = true) (h3 : PySem.W.typeIn K (.ref S) = some (.type "type")) (h4 : PySem.W.subIn K (.ref S) (.ref S) = some true) :
    PySem.W.exmOne K (.ref S) (.ref S) = some true := by
  have e1 : (PySem.W.subIn K (.ref S) (.type "BaseException") == some true) = true := by rw [h1] <;> rfl
  have e2 : ((PySem.W.clsIn K S).isSome && PySem.W.typeIn K (.ref S) == some (.type "type")) = true := by
    have h2' : (PySem.W.clsIn K S).isSome = true := h2
    rw [h2', h3] <;> rfl
  show (if (PySem.W.subIn K (.ref S) (.type "BaseException") == some true) = true then (if ((PySem.W.clsIn K S).isSome && PySem.W.typeIn K (.ref S) == some (.type "type")) = true then PySem.W.subIn K (.ref S) (.ref S) else none) else none) = some true
  rw [if_pos e1, if_pos e2]
  exact h4
theorem clsR_mk {CR : Addr} {nm q : Str} {N : Addr} {bs : List Value} {sn : List Str} {sub : List Value} {ab : Bool} {col : Option Bool} {dd : Option Addr} {m0 m1 m2 m3 m5 : Option Value}
    {f : Addr} {oc : Value} {od an : Option Addr} {sl : Array (Option Value)} {kV dc pm cd ct : Value} (X : K.In h) (G : h.Ns mainGlobals mg)
    (aC : PySem.W.nsIn K mainGlobals "Refused" = some (some (.ref CR)))
    (xL : K.lookup CR = some (excClassObj nm q CR N bs [.type "ValueError", .type "Exception", .type "BaseException", .type "object"] true sn sub ab col dd m0 m1 m2 m3 m5 "ValueError.__new__"))
    (sa : PySem.W.findIn K (.ref CR) "__setattr__" = some (some (.builtin "object.__setattr__"))) (ga : PySem.W.findIn K (.ref CR) "__getattribute__" = some (some (.builtin "BaseException.__getattribute__"))) (gg : PySem.W.findIn K (.ref CR) "__getattr__" = some none)
    (nC : PySem.W.findIn K (.ref CR) "code" = some none) (kC : PySem.W.keepIn K (.ref CR) = true) (eC : PySem.W.subIn K (.ref CR) (.type "BaseException") = some true) (tC : PySem.W.typeIn K (.ref CR) = some (.type "type")) (hC : PySem.W.hasDictIn K CR = true)
    (iC : PySem.W.isClsIn K CR = true) (sC : PySem.W.subIn K (.ref CR) (.ref CR) = some true)
    (vV : PySem.W.findCls K (.type "ValueError") (.type "type") "__init__" = some (.val (.builtin "ValueError.__init__")))
    (a : PySem.W.findIn K (.ref CR) "__init__" = some (some (.ref f))) (t : PySem.W.typeIn K (.ref f) = some (.type "function"))
    (l : K.lookup f = some ⟨oc, od, .func (PySem.W.fnOf "__init__" "Refused.__init__" (defArgs (inClass (top 60) 0)) (defBody (inClass (top 60) 0)) (defScope (inClass (top 60) 0)) .none kV dc pm an cd ct), sl⟩) (cc : PySem.W.codeIn K cd "Refused.__init__" = true) (k : PySem.W.keepIn K (.ref f) = true) : ClsR K mg CR :=
  { oex := ⟨⟨nm, q, N, bs, _, sn, sub, ab, col, dd, m0, m1, m2, m3, m5, xL, by decide +kernel⟩, sa, eC, tC, kC⟩, nC := nC, g := PySem.W.mg_of X G aC, vV := vV, xf := ⟨ga, gg, eC, hC⟩, te := exm_own eC iC tC sC,
    fn := ⟨f, _, a, t, fun_mk l cc k, (fun_mk l cc k).binds fun kV dc pm an cd ct us e => b_Refused_init kV dc pm an cd ct us e⟩ }
theorem blt_mk (X : K.In h) (G : h.Ns mainGlobals mg) (z0 : PySem.W.nsIn K mainGlobals "len" = some none) (z1 : PySem.W.nsIn K mainGlobals "min" = some none) (z2 : PySem.W.nsIn K mainGlobals "max" = some none) (z3 : PySem.W.nsIn K mainGlobals "all" = some none) (z4 : PySem.W.nsIn K mainGlobals "sorted" = some none) (z5 : PySem.W.nsIn K mainGlobals "list" = some none) (z6 : PySem.W.nsIn K mainGlobals "int" = some none) (z7 : PySem.W.nsIn K mainGlobals "range" = some none) (z8 : PySem.W.nsIn K mainGlobals "enumerate" = some none) (z9 : PySem.W.nsIn K mainGlobals "ValueError" = some none) : Blt mg :=
  ⟨PySem.W.mg_none_of X G z0, PySem.W.mg_none_of X G z1, PySem.W.mg_none_of X G z2, PySem.W.mg_none_of X G z3, PySem.W.mg_none_of X G z4, PySem.W.mg_none_of X G z5, PySem.W.mg_none_of X G z6, PySem.W.mg_none_of X G z7, PySem.W.mg_none_of X G z8, PySem.W.mg_none_of X G z9⟩
theorem vals_nn {n k : Nat} {t u : Addr} : Vals [vN n, vN k] (#[Value.int (n : Int) t, Value.int (k : Int) u] : Array Value).toList := .cons ⟨t, rfl⟩ (.cons ⟨u, rfl⟩ .nil)
theorem sq_nn {q : Addr} {n k : Nat} {t u e : Addr} {od : Option Addr} {sl : Array (Option Value)} (l : K.lookup q = some ⟨.type "tuple", od, .seq #[.int (n : Int) t, .int (k : Int) u] e, sl⟩) (H : Hp) : SqT K H q [vN n, vN k] :=
  .inr ⟨_, _, _, l, rfl, rfl, by show 2 ≤ sizeLine; decide, vals_nn⟩
theorem vals_refs : ∀ fs : List Addr, Vals (fs.map V.ref) (fs.map Value.ref)
  | [] => .nil
  | f :: fs => .cons rfl (vals_refs fs)
theorem sq_refs {q : Addr} {fs : List Addr} {e : Nat} {od : Option Addr} {sl : Array (Option Value)} (hl : fs.length ≤ 14) (l : K.lookup q = some ⟨.type "tuple", od, .seq (fs.map Value.ref).toArray e, sl⟩) (H : Hp) : SqT K H q (fs.map V.ref) :=
  .inr ⟨_, _, _, l, rfl, rfl, by
    have e1 : (fs.map Value.ref).toArray.size = fs.length := by rw [List.size_toArray, List.length_map]
    rw [e1]
    exact Nat.le_trans hl (by decide), vals_refs fs⟩
theorem shapes_mk {aS : Addr} {q0 t0 u0 e0 : Addr} {o0 : Option Addr} {l0 : Array (Option Value)} {q1 t1 u1 e1 : Addr} {o1 : Option Addr} {l1 : Array (Option Value)} {q2 t2 u2 e2 : Addr} {o2 : Option Addr} {l2 : Array (Option Value)} {q3 t3 u3 e3 : Addr} {o3 : Option Addr} {l3 : Array (Option Value)} {q4 t4 u4 e4 : Addr} {o4 : Option Addr} {l4 : Array (Option Value)} {q5 t5 u5 e5 : Addr} {o5 : Option Addr} {l5 : Array (Option Value)} {q6 t6 u6 e6 : Addr} {o6 : Option Addr} {l6 : Array (Option Value)} {q7 t7 u7 e7 : Addr} {o7 : Option Addr} {l7 : Array (Option Value)} {q8 t8 u8 e8 : Addr} {o8 : Option Addr} {l8 : Array (Option Value)} {q9 t9 u9 e9 : Addr} {o9 : Option Addr} {l9 : Array (Option Value)} {q10 t10 u10 e10 : Addr} {o10 : Option Addr} {l10 : Array (Option Value)} {q11 t11 u11 e11 : Addr} {o11 : Option Addr} {l11 : Array (Option Value)} {q12 t12 u12 e12 : Addr} {o12 : Option Addr} {l12 : Array (Option Value)} {q13 t13 u13 e13 : Addr} {o13 : Option Addr} {l13 : Array (Option Value)} {o : Option Addr} {e : Nat} {sl : Array (Option Value)} (X : K.In h) (G : h.Ns mainGlobals mg) (a : PySem.W.nsIn K mainGlobals "SHAPES" = some (some (.ref aS)))
    (l : K.lookup aS = some ⟨.type "tuple", o, .seq #[.ref q0, .ref q1, .ref q2, .ref q3, .ref q4, .ref q5, .ref q6, .ref q7, .ref q8, .ref q9, .ref q10, .ref q11, .ref q12, .ref q13] e, sl⟩)
    (s0 : K.lookup q0 = some ⟨.type "tuple", o0, .seq #[.int 2 t0, .int 0 u0] e0, l0⟩)
    (s1 : K.lookup q1 = some ⟨.type "tuple", o1, .seq #[.int 1 t1, .int 0 u1] e1, l1⟩)
    (s2 : K.lookup q2 = some ⟨.type "tuple", o2, .seq #[.int 1 t2, .int 0 u2] e2, l2⟩)
    (s3 : K.lookup q3 = some ⟨.type "tuple", o3, .seq #[.int 0 t3, .int 0 u3] e3, l3⟩)
    (s4 : K.lookup q4 = some ⟨.type "tuple", o4, .seq #[.int 0 t4, .int 0 u4] e4, l4⟩)
    (s5 : K.lookup q5 = some ⟨.type "tuple", o5, .seq #[.int 0 t5, .int 0 u5] e5, l5⟩)
    (s6 : K.lookup q6 = some ⟨.type "tuple", o6, .seq #[.int 2 t6, .int 1 u6] e6, l6⟩)
    (s7 : K.lookup q7 = some ⟨.type "tuple", o7, .seq #[.int 1 t7, .int 1 u7] e7, l7⟩)
    (s8 : K.lookup q8 = some ⟨.type "tuple", o8, .seq #[.int 1 t8, .int 1 u8] e8, l8⟩)
    (s9 : K.lookup q9 = some ⟨.type "tuple", o9, .seq #[.int 1 t9, .int 2 u9] e9, l9⟩)
    (s10 : K.lookup q10 = some ⟨.type "tuple", o10, .seq #[.int 1 t10, .int 1 u10] e10, l10⟩)
    (s11 : K.lookup q11 = some ⟨.type "tuple", o11, .seq #[.int 5 t11, .int 0 u11] e11, l11⟩)
    (s12 : K.lookup q12 = some ⟨.type "tuple", o12, .seq #[.int 4 t12, .int 0 u12] e12, l12⟩)
    (s13 : K.lookup q13 = some ⟨.type "tuple", o13, .seq #[.int 2 t13, .int 1 u13] e13, l13⟩) : Shapes K mg aS [q0, q1, q2, q3, q4, q5, q6, q7, q8, q9, q10, q11, q12, q13] :=
  ⟨PySem.W.mg_of X G a, sq_refs (fs := [q0, q1, q2, q3, q4, q5, q6, q7, q8, q9, q10, q11, q12, q13]) (Nat.le_refl 14) l, rfl, fun i q hq => by
    match i, hq with
    | 0, hq => cases hq; exact ⟨2, 0, rfl, sq_nn s0⟩
    | 1, hq => cases hq; exact ⟨1, 0, rfl, sq_nn s1⟩
    | 2, hq => cases hq; exact ⟨1, 0, rfl, sq_nn s2⟩
    | 3, hq => cases hq; exact ⟨0, 0, rfl, sq_nn s3⟩
    | 4, hq => cases hq; exact ⟨0, 0, rfl, sq_nn s4⟩
    | 5, hq => cases hq; exact ⟨0, 0, rfl, sq_nn s5⟩
    | 6, hq => cases hq; exact ⟨2, 1, rfl, sq_nn s6⟩
    | 7, hq => cases hq; exact ⟨1, 1, rfl, sq_nn s7⟩
    | 8, hq => cases hq; exact ⟨1, 1, rfl, sq_nn s8⟩
    | 9, hq => cases hq; exact ⟨1, 2, rfl, sq_nn s9⟩
    | 10, hq => cases hq; exact ⟨1, 1, rfl, sq_nn s10⟩
    | 11, hq => cases hq; exact ⟨5, 0, rfl, sq_nn s11⟩
    | 12, hq => cases hq; exact ⟨4, 0, rfl, sq_nn s12⟩
    | 13, hq => cases hq; exact ⟨2, 1, rfl, sq_nn s13⟩
    | i + 14, hq => cases hq⟩
end
section
variable {P : Program} {w : World} {K : PySem.W.Frag} {mg : Str → Option Value} {base : Heap} {C CH CR aD aS : Addr}
variable {f_keys_of f_without f_used f_cleared f_turned f_first_with f_least_recent f_most_recent f_least_used f_before_eviction f_victim_place f_Cache_init f_Cache_hits f_Cache_cached_keys f_Cache_has f_Cache_is_full f_Cache_with_entries f_Cache_removed f_Cache_evicted f_Cache_hit f_Cache_missed f_Cache_accessed f_empty_cache f_cache_behind f_anomaly_of f_next_access f_farthest_key f_other_keys f_needs_room f_with_key f_belady_from f_belady f_least_victim f_optimal_evictions f_replayed f_phase_starts f_longer_rows f_all_rows f_first_greatest f_separating f_farthest_from_best f_Holder_init f_Holder_put f_need f_need_capacity f_need_policy f_is_key f_need_key f_need_keys f_need_size f_listed f_configure f_access f_remove f_contents f_next_victim f_counters f_simulate f_optimal f_farthest f_replay f_phases f_separate f_worst f_anomaly f_answer f_lists_at : Addr}
theorem all_ok {qs : List Addr} {f : Addr} {fd : FuncData} (cn : Cn mg) (bl : Blt mg) (TC : ClsC K C) (TH : ClsH K CH) (TR : ClsR K mg CR) (gD : mg "DEEDS" = some (.ref aD)) (tD : ∀ H : Hp, SqT K H aD ([f_configure, f_access, f_remove, f_contents, f_next_victim, f_counters, f_simulate, f_optimal, f_farthest, f_replay, f_phases, f_separate, f_worst, f_anomaly].map V.ref)) (SS : Shapes K mg aS qs)
    (D_keys_of : DF K mg "keys_of" (top 10) ["entries"] f_keys_of)
    (D_without : DF K mg "without" (top 11) ["things", "at"] f_without)
    (D_used : DF K mg "used" (top 12) ["entry", "number"] f_used)
    (D_cleared : DF K mg "cleared" (top 13) ["entry"] f_cleared)
    (D_turned : DF K mg "turned" (top 14) ["entries"] f_turned)
    (D_first_with : DF K mg "first_with" (top 15) ["numbers", "wanted"] f_first_with)
    (D_least_recent : DF K mg "least_recent" (top 16) ["entries"] f_least_recent)
    (D_most_recent : DF K mg "most_recent" (top 17) ["entries"] f_most_recent)
    (D_least_used : DF K mg "least_used" (top 18) ["entries"] f_least_used)
    (D_before_eviction : DF K mg "before_eviction" (top 19) ["policy", "entries"] f_before_eviction)
    (D_victim_place : DF K mg "victim_place" (top 20) ["policy", "entries"] f_victim_place)
    (D_Cache_init : DI K mg C "Cache" "Cache.__init__" (inClass (top 23) 0) ["self", "capacity", "policy", "entries", "number", "misses"] f_Cache_init)
    (D_Cache_hits : DM K C "hits" "Cache.hits" (inClass (top 23) 1) ["self"] f_Cache_hits)
    (D_Cache_cached_keys : DM K C "cached_keys" "Cache.cached_keys" (inClass (top 23) 2) ["self"] f_Cache_cached_keys)
    (D_Cache_has : DM K C "has" "Cache.has" (inClass (top 23) 3) ["self", "key"] f_Cache_has)
    (D_Cache_is_full : DM K C "is_full" "Cache.is_full" (inClass (top 23) 4) ["self"] f_Cache_is_full)
    (D_Cache_with_entries : DM K C "with_entries" "Cache.with_entries" (inClass (top 23) 5) ["self", "entries"] f_Cache_with_entries)
    (D_Cache_removed : DM K C "removed" "Cache.removed" (inClass (top 23) 6) ["self", "key"] f_Cache_removed)
    (D_Cache_evicted : DM K C "evicted" "Cache.evicted" (inClass (top 23) 7) ["self"] f_Cache_evicted)
    (D_Cache_hit : DM K C "hit" "Cache.hit" (inClass (top 23) 8) ["self", "key"] f_Cache_hit)
    (D_Cache_missed : DM K C "missed" "Cache.missed" (inClass (top 23) 9) ["self", "key"] f_Cache_missed)
    (D_Cache_accessed : DM K C "accessed" "Cache.accessed" (inClass (top 23) 10) ["self", "key"] f_Cache_accessed)
    (D_empty_cache : DF K mg "empty_cache" (top 24) ["capacity", "policy"] f_empty_cache)
    (D_cache_behind : DF K mg "cache_behind" (top 25) ["capacity", "policy", "sequence"] f_cache_behind)
    (D_anomaly_of : DF K mg "anomaly_of" (top 26) ["policy", "capacity", "sequence"] f_anomaly_of)
    (D_next_access : DF K mg "next_access" (top 29) ["sequence", "at", "key"] f_next_access)
    (D_farthest_key : DF K mg "farthest_key" (top 30) ["sequence", "at", "cached"] f_farthest_key)
    (D_other_keys : DF K mg "other_keys" (top 31) ["cached", "key"] f_other_keys)
    (D_needs_room : DF K mg "needs_room" (top 32) ["capacity", "cached", "key"] f_needs_room)
    (D_with_key : DF K mg "with_key" (top 33) ["capacity", "cached", "key"] f_with_key)
    (D_belady_from : DF K mg "belady_from" (top 34) ["capacity", "sequence", "start", "cached"] f_belady_from)
    (D_belady : DF K mg "belady" (top 35) ["capacity", "sequence"] f_belady)
    (D_least_victim : DF K mg "least_victim" (top 36) ["capacity", "sequence", "at", "cached"] f_least_victim)
    (D_optimal_evictions : DF K mg "optimal_evictions" (top 37) ["capacity", "sequence"] f_optimal_evictions)
    (D_replayed : DF K mg "replayed" (top 38) ["capacity", "sequence", "evictions"] f_replayed)
    (D_phase_starts : DF K mg "phase_starts" (top 39) ["capacity", "sequence"] f_phase_starts)
    (D_longer_rows : DF K mg "longer_rows" (top 41) ["rows", "key_bound"] f_longer_rows)
    (D_all_rows : DF K mg "all_rows" (top 42) ["caches", "key_bound", "length"] f_all_rows)
    (D_first_greatest : DF K mg "first_greatest" (top 43) ["rows"] f_first_greatest)
    (D_separating : DF K mg "separating" (top 44) ["first", "second", "capacity", "key_bound", "length"] f_separating)
    (D_farthest_from_best : DF K mg "farthest_from_best" (top 45) ["policy", "capacity", "key_bound", "length"] f_farthest_from_best)
    (D_Holder_init : DI K mg CH "Holder" "Holder.__init__" (inClass (top 61) 0) ["self"] f_Holder_init)
    (D_Holder_put : DM K CH "put" "Holder.put" (inClass (top 61) 1) ["self", "cache"] f_Holder_put)
    (D_need : DF K mg "need" (top 62) ["is_so", "code"] f_need)
    (D_need_capacity : DF K mg "need_capacity" (top 63) ["capacity"] f_need_capacity)
    (D_need_policy : DF K mg "need_policy" (top 64) ["policy"] f_need_policy)
    (D_is_key : DF K mg "is_key" (top 65) ["number"] f_is_key)
    (D_need_key : DF K mg "need_key" (top 66) ["key"] f_need_key)
    (D_need_keys : DF K mg "need_keys" (top 67) ["keys"] f_need_keys)
    (D_need_size : DF K mg "need_size" (top 68) ["key_bound", "most", "length"] f_need_size)
    (D_listed : DF K mg "listed" (top 69) ["things"] f_listed)
    (D_configure : DF K mg "configure" (top 70) ["holder", "numbers", "lists"] f_configure)
    (D_access : DF K mg "access" (top 71) ["holder", "numbers", "lists"] f_access)
    (D_remove : DF K mg "remove" (top 72) ["holder", "numbers", "lists"] f_remove)
    (D_contents : DF K mg "contents" (top 73) ["holder", "numbers", "lists"] f_contents)
    (D_next_victim : DF K mg "next_victim" (top 74) ["holder", "numbers", "lists"] f_next_victim)
    (D_counters : DF K mg "counters" (top 75) ["holder", "numbers", "lists"] f_counters)
    (D_simulate : DF K mg "simulate" (top 76) ["holder", "numbers", "lists"] f_simulate)
    (D_optimal : DF K mg "optimal" (top 77) ["holder", "numbers", "lists"] f_optimal)
    (D_farthest : DF K mg "farthest" (top 78) ["holder", "numbers", "lists"] f_farthest)
    (D_replay : DF K mg "replay" (top 79) ["holder", "numbers", "lists"] f_replay)
    (D_phases : DF K mg "phases" (top 80) ["holder", "numbers", "lists"] f_phases)
    (D_separate : DF K mg "separate" (top 81) ["holder", "numbers", "lists"] f_separate)
    (D_worst : DF K mg "worst" (top 82) ["holder", "numbers", "lists"] f_worst)
    (D_anomaly : DF K mg "anomaly" (top 83) ["holder", "numbers", "lists"] f_anomaly)
    (D_answer : DF K mg "answer" (top 85) ["holder", "call", "numbers", "lists"] f_answer)
    (D_lists_at : DF K mg "lists_at" (top 86) ["calls", "many", "at"] f_lists_at)
    (F : Fun K "answers" "answers" (top 87) f fd) : FnOk P w K mg base CX0 12 f fd ["calls"] (spAnswers K) := by
  have c_keys_of := (ok_keys_of (P := P) (w := w) (mg := mg) (base := base) cn D_keys_of).call D_keys_of
  have c_without := (ok_without (P := P) (w := w) (mg := mg) (base := base) D_without).call D_without
  have c_used := (ok_used (P := P) (w := w) (mg := mg) (base := base) cn D_used).call D_used
  have c_cleared := (ok_cleared (P := P) (w := w) (mg := mg) (base := base) cn D_cleared).call D_cleared
  have c_turned := (ok_turned (P := P) (w := w) (mg := mg) (base := base) cn bl D_turned c_cleared).call D_turned
  have c_first_with := (ok_first_with (P := P) (w := w) (mg := mg) (base := base) D_first_with).call D_first_with
  have c_least_recent := (ok_least_recent (P := P) (w := w) (mg := mg) (base := base) cn bl D_least_recent c_first_with).call D_least_recent
  have c_most_recent := (ok_most_recent (P := P) (w := w) (mg := mg) (base := base) cn bl D_most_recent c_first_with).call D_most_recent
  have c_least_used := (ok_least_used (P := P) (w := w) (mg := mg) (base := base) cn bl D_least_used c_first_with).call D_least_used
  have c_before_eviction := (ok_before_eviction (P := P) (w := w) (mg := mg) (base := base) cn bl D_before_eviction c_turned).call D_before_eviction
  have c_victim_place := (ok_victim_place (P := P) (w := w) (mg := mg) (base := base) cn D_victim_place c_least_recent c_most_recent c_least_used).call D_victim_place
  have c_Cache := ok_Cache_init (P := P) (C := C) (w := w) (mg := mg) (base := base) TC D_Cache_init
  have m_hits := (ok_Cache_hits (P := P) (w := w) (mg := mg) (base := base) TC D_Cache_hits).meth D_Cache_hits
  have m_cached_keys := (ok_Cache_cached_keys (P := P) (w := w) (mg := mg) (base := base) TC D_Cache_cached_keys c_keys_of).meth D_Cache_cached_keys
  have m_has := (ok_Cache_has (P := P) (w := w) (mg := mg) (base := base) TC D_Cache_has m_cached_keys).meth D_Cache_has
  have m_is_full := (ok_Cache_is_full (P := P) (w := w) (mg := mg) (base := base) bl TC D_Cache_is_full).meth D_Cache_is_full
  have m_with_entries := (ok_Cache_with_entries (P := P) (w := w) (mg := mg) (base := base) TC D_Cache_with_entries c_Cache).meth D_Cache_with_entries
  have m_removed := (ok_Cache_removed (P := P) (w := w) (mg := mg) (base := base) cn TC D_Cache_removed m_with_entries).meth D_Cache_removed
  have m_evicted := (ok_Cache_evicted (P := P) (w := w) (mg := mg) (base := base) TC D_Cache_evicted c_before_eviction c_victim_place c_without).meth D_Cache_evicted
  have m_hit := (ok_Cache_hit (P := P) (w := w) (mg := mg) (base := base) cn TC D_Cache_hit c_Cache c_used).meth D_Cache_hit
  have m_missed := (ok_Cache_missed (P := P) (w := w) (mg := mg) (base := base) cn TC D_Cache_missed c_Cache m_is_full m_evicted).meth D_Cache_missed
  have m_accessed := (ok_Cache_accessed (P := P) (w := w) (mg := mg) (base := base) TC D_Cache_accessed m_has m_hit m_missed).meth D_Cache_accessed
  have c_empty_cache := (ok_empty_cache (P := P) (w := w) (mg := mg) (base := base) D_empty_cache c_Cache).call D_empty_cache
  have c_cache_behind := (ok_cache_behind (P := P) (w := w) (mg := mg) (base := base) TC D_cache_behind c_empty_cache m_accessed).call D_cache_behind
  have c_anomaly_of := (ok_anomaly_of (P := P) (w := w) (mg := mg) (base := base) bl TC D_anomaly_of c_empty_cache m_accessed).call D_anomaly_of
  have c_next_access := (ok_next_access (P := P) (w := w) (mg := mg) (base := base) cn bl D_next_access).call D_next_access
  have c_farthest_key := (ok_farthest_key (P := P) (w := w) (mg := mg) (base := base) D_farthest_key c_next_access).call D_farthest_key
  have c_other_keys := (ok_other_keys (P := P) (w := w) (mg := mg) (base := base) D_other_keys).call D_other_keys
  have c_needs_room := (ok_needs_room (P := P) (w := w) (mg := mg) (base := base) bl D_needs_room).call D_needs_room
  have c_with_key := (ok_with_key (P := P) (w := w) (mg := mg) (base := base) D_with_key).call D_with_key
  have c_belady_from := (ok_belady_from (P := P) (w := w) (mg := mg) (base := base) bl D_belady_from c_needs_room c_farthest_key c_other_keys c_with_key).call D_belady_from
  have c_belady := (ok_belady (P := P) (w := w) (mg := mg) (base := base) D_belady c_belady_from).call D_belady
  have c_least_victim := (ok_least_victim (P := P) (w := w) (mg := mg) (base := base) bl D_least_victim c_other_keys c_belady_from).call D_least_victim
  have c_optimal_evictions := (ok_optimal_evictions (P := P) (w := w) (mg := mg) (base := base) bl D_optimal_evictions c_needs_room c_least_victim c_other_keys c_with_key).call D_optimal_evictions
  have c_replayed := (ok_replayed (P := P) (w := w) (mg := mg) (base := base) bl D_replayed c_needs_room c_other_keys c_with_key).call D_replayed
  have c_phase_starts := (ok_phase_starts (P := P) (w := w) (mg := mg) (base := base) bl D_phase_starts).call D_phase_starts
  have c_longer_rows := (ok_longer_rows (P := P) (w := w) (mg := mg) (base := base) bl TC D_longer_rows m_accessed).call D_longer_rows
  have c_all_rows := (ok_all_rows (P := P) (w := w) (mg := mg) (base := base) bl D_all_rows c_longer_rows).call D_all_rows
  have c_first_greatest := (ok_first_greatest (P := P) (w := w) (mg := mg) (base := base) D_first_greatest).call D_first_greatest
  have c_separating := (ok_separating (P := P) (w := w) (mg := mg) (base := base) TC D_separating c_empty_cache c_all_rows c_first_greatest).call D_separating
  have c_farthest_from_best := (ok_farthest_from_best (P := P) (w := w) (mg := mg) (base := base) TC D_farthest_from_best c_empty_cache c_all_rows c_belady c_first_greatest).call D_farthest_from_best
  have c_need := (ok_need (P := P) (w := w) (mg := mg) (base := base) bl TR D_need).call D_need
  have c_need_capacity := (ok_need_capacity (P := P) (w := w) (mg := mg) (base := base) cn D_need_capacity c_need).call D_need_capacity
  have c_need_policy := (ok_need_policy (P := P) (w := w) (mg := mg) (base := base) cn D_need_policy c_need).call D_need_policy
  have c_is_key := (ok_is_key (P := P) (w := w) (mg := mg) (base := base) cn D_is_key).call D_is_key
  have c_need_key := (ok_need_key (P := P) (w := w) (mg := mg) (base := base) cn D_need_key c_need c_is_key).call D_need_key
  have c_need_keys := (ok_need_keys (P := P) (w := w) (mg := mg) (base := base) cn bl D_need_keys c_need c_is_key).call D_need_keys
  have c_need_size := (ok_need_size (P := P) (w := w) (mg := mg) (base := base) cn D_need_size c_need).call D_need_size
  have c_listed := (ok_listed (P := P) (w := w) (mg := mg) (base := base) bl D_listed).call D_listed
  have c_Holder := ok_Holder_init (P := P) (C := C) (w := w) (mg := mg) (base := base) TH D_Holder_init c_empty_cache
  have m_put := (ok_Holder_put (P := P) (w := w) (mg := mg) (base := base) TH D_Holder_put).meth D_Holder_put
  have k_configure : FOk P w K mg base (L2.CX P w) 10 ["holder", "numbers", "lists"] (spDeed C CH CR 0) f_configure := (ok_configure (P := P) (w := w) (mg := mg) (base := base) TC TH D_configure c_need_capacity c_need_policy c_empty_cache m_put).mono (show 5 ≤ 10 by decide)
  have k_access : FOk P w K mg base (L2.CX P w) 10 ["holder", "numbers", "lists"] (spDeed C CH CR 1) f_access := (ok_access (P := P) (w := w) (mg := mg) (base := base) TC TH D_access c_need_key m_has m_hit m_missed m_put c_listed).mono (show 6 ≤ 10 by decide)
  have k_remove : FOk P w K mg base (L2.CX P w) 10 ["holder", "numbers", "lists"] (spDeed C CH CR 2) f_remove := (ok_remove (P := P) (w := w) (mg := mg) (base := base) bl TC TH D_remove c_need_key m_has m_removed m_put).mono (show 5 ≤ 10 by decide)
  have k_contents : FOk P w K mg base (L2.CX P w) 10 ["holder", "numbers", "lists"] (spDeed C CH CR 3) f_contents := (ok_contents (P := P) (w := w) (mg := mg) (base := base) cn bl TC TH D_contents).lift (CX := L2.CX P w).mono (show 1 ≤ 10 by decide)
  have k_next_victim : FOk P w K mg base (L2.CX P w) 10 ["holder", "numbers", "lists"] (spDeed C CH CR 4) f_next_victim := (ok_next_victim (P := P) (w := w) (mg := mg) (base := base) cn TC TH D_next_victim m_is_full m_evicted).lift (CX := L2.CX P w).mono (show 5 ≤ 10 by decide)
  have k_counters : FOk P w K mg base (L2.CX P w) 10 ["holder", "numbers", "lists"] (spDeed C CH CR 5) f_counters := (ok_counters (P := P) (w := w) (mg := mg) (base := base) TC TH D_counters m_hits).lift (CX := L2.CX P w).mono (show 2 ≤ 10 by decide)
  have k_simulate : FOk P w K mg base (L2.CX P w) 10 ["holder", "numbers", "lists"] (spDeed C CH CR 6) f_simulate := (ok_simulate (P := P) (w := w) (mg := mg) (base := base) TC TH D_simulate c_need_capacity c_need_policy c_need_keys c_cache_behind m_cached_keys c_listed).mono (show 8 ≤ 10 by decide)
  have k_optimal : FOk P w K mg base (L2.CX P w) 10 ["holder", "numbers", "lists"] (spDeed C CH CR 7) f_optimal := (ok_optimal (P := P) (w := w) (mg := mg) (base := base) D_optimal c_need_capacity c_need_keys c_belady c_optimal_evictions c_listed).mono (show 6 ≤ 10 by decide)
  have k_farthest : FOk P w K mg base (L2.CX P w) 10 ["holder", "numbers", "lists"] (spDeed C CH CR 8) f_farthest := (ok_farthest (P := P) (w := w) (mg := mg) (base := base) D_farthest c_need_capacity c_need_keys c_belady c_listed).mono (show 6 ≤ 10 by decide)
  have k_replay : FOk P w K mg base (L2.CX P w) 10 ["holder", "numbers", "lists"] (spDeed C CH CR 9) f_replay := (ok_replay (P := P) (w := w) (mg := mg) (base := base) bl D_replay c_need_capacity c_need_keys c_replayed).mono (show 6 ≤ 10 by decide)
  have k_phases : FOk P w K mg base (L2.CX P w) 10 ["holder", "numbers", "lists"] (spDeed C CH CR 10) f_phases := (ok_phases (P := P) (w := w) (mg := mg) (base := base) cn D_phases c_need_capacity c_need c_need_keys c_phase_starts c_listed).mono (show 6 ≤ 10 by decide)
  have k_separate : FOk P w K mg base (L2.CX P w) 10 ["holder", "numbers", "lists"] (spDeed C CH CR 11) f_separate := (ok_separate (P := P) (w := w) (mg := mg) (base := base) cn D_separate c_need_capacity c_need_policy c_need_size c_separating c_listed).mono (show 10 ≤ 10 by decide)
  have k_worst : FOk P w K mg base (L2.CX P w) 10 ["holder", "numbers", "lists"] (spDeed C CH CR 12) f_worst := (ok_worst (P := P) (w := w) (mg := mg) (base := base) cn D_worst c_need_capacity c_need_policy c_need_size c_farthest_from_best c_listed).mono (show 10 ≤ 10 by decide)
  have k_anomaly : FOk P w K mg base (L2.CX P w) 10 ["holder", "numbers", "lists"] (spDeed C CH CR 13) f_anomaly := (ok_anomaly (P := P) (w := w) (mg := mg) (base := base) D_anomaly c_need_capacity c_need_policy c_need_keys c_anomaly_of).mono (show 8 ≤ 10 by decide)
  have DD : Deeds P w K mg base C CH CR aD [f_configure, f_access, f_remove, f_contents, f_next_victim, f_counters, f_simulate, f_optimal, f_farthest, f_replay, f_phases, f_separate, f_worst, f_anomaly] := ⟨gD, tD, rfl, fun i f hf => by
    match i, hf with
    | 0, hf => cases hf; exact k_configure
    | 1, hf => cases hf; exact k_access
    | 2, hf => cases hf; exact k_remove
    | 3, hf => cases hf; exact k_contents
    | 4, hf => cases hf; exact k_next_victim
    | 5, hf => cases hf; exact k_counters
    | 6, hf => cases hf; exact k_simulate
    | 7, hf => cases hf; exact k_optimal
    | 8, hf => cases hf; exact k_farthest
    | 9, hf => cases hf; exact k_replay
    | 10, hf => cases hf; exact k_phases
    | 11, hf => cases hf; exact k_separate
    | 12, hf => cases hf; exact k_worst
    | 13, hf => cases hf; exact k_anomaly
    | i + 14, hf => cases hf⟩
  have c_answer := (ok_answer (P := P) (w := w) (mg := mg) (base := base) TR DD D_answer).call D_answer
  have c_lists_at := (ok_lists_at (P := P) (w := w) (mg := mg) (base := base) bl D_lists_at).call D_lists_at
  exact ok_answers (P := P) (w := w) (mg := mg) (base := base) bl SS F c_Holder c_lists_at c_answer
end
theorem end_mk {P : Program} {w : World} {K : PySem.W.Frag} {h : Heap} {mg : Str → Option Value} {fa C CH CR aD aS : Addr} {f_keys_of f_without f_used f_cleared f_turned f_first_with f_least_recent f_most_recent f_least_used f_before_eviction f_victim_place f_Cache_init f_Cache_hits f_Cache_cached_keys f_Cache_has f_Cache_is_full f_Cache_with_entries f_Cache_removed f_Cache_evicted f_Cache_hit f_Cache_missed f_Cache_accessed f_empty_cache f_cache_behind f_anomaly_of f_next_access f_farthest_key f_other_keys f_needs_room f_with_key f_belady_from f_belady f_least_victim f_optimal_evictions f_replayed f_phase_starts f_longer_rows f_all_rows f_first_greatest f_separating f_farthest_from_best f_Holder_init f_Holder_put f_need f_need_capacity f_need_policy f_is_key f_need_key f_need_keys f_need_size f_listed f_configure f_access f_remove f_contents f_next_victim f_counters f_simulate f_optimal f_farthest f_replay f_phases f_separate f_worst f_anomaly f_answer f_lists_at : Addr} {qs : List Addr} {odD : Option Addr} {eD : Nat} {slD : Array (Option Value)} {f : Addr} {oc : Value} {od an : Option Addr} {sl : Array (Option Value)} {kV dc pm cd ct : Value}
    (X : K.In h) (G : h.Ns mainGlobals mg) (hfa : mg "answers" = some (.ref fa)) (cn : Cn mg) (bl : Blt mg) (TC : ClsC K C) (TH : ClsH K CH) (TR : ClsR K mg CR) (SS : Shapes K mg aS qs)
    (D_keys_of : DF K mg "keys_of" (top 10) ["entries"] f_keys_of)
    (D_without : DF K mg "without" (top 11) ["things", "at"] f_without)
    (D_used : DF K mg "used" (top 12) ["entry", "number"] f_used)
    (D_cleared : DF K mg "cleared" (top 13) ["entry"] f_cleared)
    (D_turned : DF K mg "turned" (top 14) ["entries"] f_turned)
    (D_first_with : DF K mg "first_with" (top 15) ["numbers", "wanted"] f_first_with)
    (D_least_recent : DF K mg "least_recent" (top 16) ["entries"] f_least_recent)
    (D_most_recent : DF K mg "most_recent" (top 17) ["entries"] f_most_recent)
    (D_least_used : DF K mg "least_used" (top 18) ["entries"] f_least_used)
    (D_before_eviction : DF K mg "before_eviction" (top 19) ["policy", "entries"] f_before_eviction)
    (D_victim_place : DF K mg "victim_place" (top 20) ["policy", "entries"] f_victim_place)
    (D_Cache_init : DI K mg C "Cache" "Cache.__init__" (inClass (top 23) 0) ["self", "capacity", "policy", "entries", "number", "misses"] f_Cache_init)
    (D_Cache_hits : DM K C "hits" "Cache.hits" (inClass (top 23) 1) ["self"] f_Cache_hits)
    (D_Cache_cached_keys : DM K C "cached_keys" "Cache.cached_keys" (inClass (top 23) 2) ["self"] f_Cache_cached_keys)
    (D_Cache_has : DM K C "has" "Cache.has" (inClass (top 23) 3) ["self", "key"] f_Cache_has)
    (D_Cache_is_full : DM K C "is_full" "Cache.is_full" (inClass (top 23) 4) ["self"] f_Cache_is_full)
    (D_Cache_with_entries : DM K C "with_entries" "Cache.with_entries" (inClass (top 23) 5) ["self", "entries"] f_Cache_with_entries)
    (D_Cache_removed : DM K C "removed" "Cache.removed" (inClass (top 23) 6) ["self", "key"] f_Cache_removed)
    (D_Cache_evicted : DM K C "evicted" "Cache.evicted" (inClass (top 23) 7) ["self"] f_Cache_evicted)
    (D_Cache_hit : DM K C "hit" "Cache.hit" (inClass (top 23) 8) ["self", "key"] f_Cache_hit)
    (D_Cache_missed : DM K C "missed" "Cache.missed" (inClass (top 23) 9) ["self", "key"] f_Cache_missed)
    (D_Cache_accessed : DM K C "accessed" "Cache.accessed" (inClass (top 23) 10) ["self", "key"] f_Cache_accessed)
    (D_empty_cache : DF K mg "empty_cache" (top 24) ["capacity", "policy"] f_empty_cache)
    (D_cache_behind : DF K mg "cache_behind" (top 25) ["capacity", "policy", "sequence"] f_cache_behind)
    (D_anomaly_of : DF K mg "anomaly_of" (top 26) ["policy", "capacity", "sequence"] f_anomaly_of)
    (D_next_access : DF K mg "next_access" (top 29) ["sequence", "at", "key"] f_next_access)
    (D_farthest_key : DF K mg "farthest_key" (top 30) ["sequence", "at", "cached"] f_farthest_key)
    (D_other_keys : DF K mg "other_keys" (top 31) ["cached", "key"] f_other_keys)
    (D_needs_room : DF K mg "needs_room" (top 32) ["capacity", "cached", "key"] f_needs_room)
    (D_with_key : DF K mg "with_key" (top 33) ["capacity", "cached", "key"] f_with_key)
    (D_belady_from : DF K mg "belady_from" (top 34) ["capacity", "sequence", "start", "cached"] f_belady_from)
    (D_belady : DF K mg "belady" (top 35) ["capacity", "sequence"] f_belady)
    (D_least_victim : DF K mg "least_victim" (top 36) ["capacity", "sequence", "at", "cached"] f_least_victim)
    (D_optimal_evictions : DF K mg "optimal_evictions" (top 37) ["capacity", "sequence"] f_optimal_evictions)
    (D_replayed : DF K mg "replayed" (top 38) ["capacity", "sequence", "evictions"] f_replayed)
    (D_phase_starts : DF K mg "phase_starts" (top 39) ["capacity", "sequence"] f_phase_starts)
    (D_longer_rows : DF K mg "longer_rows" (top 41) ["rows", "key_bound"] f_longer_rows)
    (D_all_rows : DF K mg "all_rows" (top 42) ["caches", "key_bound", "length"] f_all_rows)
    (D_first_greatest : DF K mg "first_greatest" (top 43) ["rows"] f_first_greatest)
    (D_separating : DF K mg "separating" (top 44) ["first", "second", "capacity", "key_bound", "length"] f_separating)
    (D_farthest_from_best : DF K mg "farthest_from_best" (top 45) ["policy", "capacity", "key_bound", "length"] f_farthest_from_best)
    (D_Holder_init : DI K mg CH "Holder" "Holder.__init__" (inClass (top 61) 0) ["self"] f_Holder_init)
    (D_Holder_put : DM K CH "put" "Holder.put" (inClass (top 61) 1) ["self", "cache"] f_Holder_put)
    (D_need : DF K mg "need" (top 62) ["is_so", "code"] f_need)
    (D_need_capacity : DF K mg "need_capacity" (top 63) ["capacity"] f_need_capacity)
    (D_need_policy : DF K mg "need_policy" (top 64) ["policy"] f_need_policy)
    (D_is_key : DF K mg "is_key" (top 65) ["number"] f_is_key)
    (D_need_key : DF K mg "need_key" (top 66) ["key"] f_need_key)
    (D_need_keys : DF K mg "need_keys" (top 67) ["keys"] f_need_keys)
    (D_need_size : DF K mg "need_size" (top 68) ["key_bound", "most", "length"] f_need_size)
    (D_listed : DF K mg "listed" (top 69) ["things"] f_listed)
    (D_configure : DF K mg "configure" (top 70) ["holder", "numbers", "lists"] f_configure)
    (D_access : DF K mg "access" (top 71) ["holder", "numbers", "lists"] f_access)
    (D_remove : DF K mg "remove" (top 72) ["holder", "numbers", "lists"] f_remove)
    (D_contents : DF K mg "contents" (top 73) ["holder", "numbers", "lists"] f_contents)
    (D_next_victim : DF K mg "next_victim" (top 74) ["holder", "numbers", "lists"] f_next_victim)
    (D_counters : DF K mg "counters" (top 75) ["holder", "numbers", "lists"] f_counters)
    (D_simulate : DF K mg "simulate" (top 76) ["holder", "numbers", "lists"] f_simulate)
    (D_optimal : DF K mg "optimal" (top 77) ["holder", "numbers", "lists"] f_optimal)
    (D_farthest : DF K mg "farthest" (top 78) ["holder", "numbers", "lists"] f_farthest)
    (D_replay : DF K mg "replay" (top 79) ["holder", "numbers", "lists"] f_replay)
    (D_phases : DF K mg "phases" (top 80) ["holder", "numbers", "lists"] f_phases)
    (D_separate : DF K mg "separate" (top 81) ["holder", "numbers", "lists"] f_separate)
    (D_worst : DF K mg "worst" (top 82) ["holder", "numbers", "lists"] f_worst)
    (D_anomaly : DF K mg "anomaly" (top 83) ["holder", "numbers", "lists"] f_anomaly)
    (D_answer : DF K mg "answer" (top 85) ["holder", "call", "numbers", "lists"] f_answer)
    (D_lists_at : DF K mg "lists_at" (top 86) ["calls", "many", "at"] f_lists_at)
    (aDD : PySem.W.nsIn K mainGlobals "DEEDS" = some (some (.ref aD))) (lDD : K.lookup aD = some ⟨.type "tuple", odD, .seq #[.ref f_configure, .ref f_access, .ref f_remove, .ref f_contents, .ref f_next_victim, .ref f_counters, .ref f_simulate, .ref f_optimal, .ref f_farthest, .ref f_replay, .ref f_phases, .ref f_separate, .ref f_worst, .ref f_anomaly] eD, slD⟩)
    (a : PySem.W.nsIn K mainGlobals "answers" = some (some (.ref f))) (l : K.lookup f = some ⟨oc, od, .func (PySem.W.fnOf "answers" "answers" (defArgs (top 87)) (defBody (top 87)) (defScope (top 87)) .none kV dc pm an cd ct), sl⟩)
    (cc : PySem.W.codeIn K cd "answers" = true) (k : PySem.W.keepIn K (.ref f) = true) :
    ∃ fd : FuncData, (∀ (s : Shared) (us : List Value), us.length = (["calls"] : List Str).length → BindsTo s fd ⟨us, []⟩ ((["calls"] : List Str).zip us)) ∧ ∀ base : Heap, K.In base → base.Ns mainGlobals mg → FnOk P w K mg base CX0 12 fa fd ["calls"] (spAnswers K) := by
  have e := hfa.symm.trans (PySem.W.mg_of X G a)
  cases e
  exact ⟨_, fun s us hu => .of_eq (b_answers kV dc pm an cd ct us hu), fun base _ _ => all_ok cn bl TC TH TR (PySem.W.mg_of X G aDD) (sq_refs (fs := [f_configure, f_access, f_remove, f_contents, f_next_victim, f_counters, f_simulate, f_optimal, f_farthest, f_replay, f_phases, f_separate, f_worst, f_anomaly]) (Nat.le_refl 14) lDD) SS D_keys_of D_without D_used D_cleared D_turned D_first_with D_least_recent D_most_recent D_least_used D_before_eviction D_victim_place D_Cache_init D_Cache_hits D_Cache_cached_keys D_Cache_has D_Cache_is_full D_Cache_with_entries D_Cache_removed D_Cache_evicted D_Cache_hit D_Cache_missed D_Cache_accessed D_empty_cache D_cache_behind D_anomaly_of D_next_access D_farthest_key D_other_keys D_needs_room D_with_key D_belady_from D_belady D_least_victim D_optimal_evictions D_replayed D_phase_starts D_longer_rows D_all_rows D_first_greatest D_separating D_farthest_from_best D_Holder_init D_Holder_put D_need D_need_capacity D_need_policy D_is_key D_need_key D_need_keys D_need_size D_listed D_configure D_access D_remove D_contents D_next_victim D_counters D_simulate D_optimal D_farthest D_replay D_phases D_separate D_worst D_anomaly D_answer D_lists_at (fun_mk l cc k)⟩
end Ks
open PySem PySem.W PyProof.Rows
set_option maxRecDepth 100000 in
set_option maxHeartbeats 8000000 in
theorem PySem.Challenge.cw_keepslots_s01_answers_holds : PySem.Challenge.rw_keepslots_s01_answers.Holds := by
  w_on; k_headS; (case hw => exact ⟨[.list [.int 3]], by decide +kernel, by decide +kernel⟩)
  k_fillS
  refine L2.walk_specK (r := PySem.Challenge.rw_keepslots_s01_answers) (k := 12) (CX := L2.CX0) (ps := ["calls"]) (sp := Ks.spAnswers) (by decide +kernel) rfl rfl ⟨rfl, by decide, by decide⟩ (fun w h Y => PySem.W.kIn_of Y) ?F ?S (fun _ _ _ _ z => z)
  case F =>
    intro w mg fa h Y KX G hmg
    refine' Ks.end_mk KX G hmg
      (Ks.Cn.mk (Ks.num_mk KX G ?nLEAST_RECENT) (Ks.num_mk KX G ?nMOST_RECENT) (Ks.num_mk KX G ?nLEAST_USED) (Ks.num_mk KX G ?nSECOND_CHANCE) (Ks.num_mk KX G ?nMOST_POLICY) (Ks.num_mk KX G ?nKEY) (Ks.num_mk KX G ?nLAST) (Ks.num_mk KX G ?nCOUNT) (Ks.num_mk KX G ?nBIT) (Ks.num_mk KX G ?nFRESH_COUNT) (Ks.num_mk KX G ?nNEVER) (Ks.num_mk KX G ?nBAD_CAPACITY) (Ks.num_mk KX G ?nBAD_POLICY) (Ks.num_mk KX G ?nBAD_KEY) (Ks.num_mk KX G ?nBAD_SEQUENCE) (Ks.num_mk KX G ?nNO_CAPACITY) (Ks.num_mk KX G ?nBAD_SIZE) (Ks.num_mk KX G ?nMOST_CAPACITY) (Ks.num_mk KX G ?nMOST_KEY) (Ks.num_mk KX G ?nMOST_ELEMENTS) (Ks.num_mk KX G ?nMOST_LENGTH) (Ks.num_mk KX G ?nMOST_BOUND_SEPARATE) (Ks.num_mk KX G ?nMOST_BOUND_WORST))
      (Ks.blt_mk KX G ?z0 ?z1 ?z2 ?z3 ?z4 ?z5 ?z6 ?z7 ?z8 ?z9)
      (Ks.clsC_mk ?Cpg ?Chd ?Cpo ?Csa ?Cn1 ?Cn2 ?Cn3 ?Cn4 ?Cn5)
      (Ks.clsH_mk ?Hpg ?Hhd ?Hpo ?Hsa ?Hn1)
      (Ks.clsR_mk KX G ?RaC ?RxL ?Rsa ?Rga ?Rgg ?RnC ?RkC ?ReC ?RtC ?RhC ?RiC ?RsC ?RvV ?Ra ?Rt ?Rl ?Rcc ?Rk)
      (Ks.shapes_mk KX G ?Sa ?Sl ?Ss0 ?Ss1 ?Ss2 ?Ss3 ?Ss4 ?Ss5 ?Ss6 ?Ss7 ?Ss8 ?Ss9 ?Ss10 ?Ss11 ?Ss12 ?Ss13)
      (Ks.df_mk Ks.b_keys_of KX G ?keys_of_a ?keys_of_l ?keys_of_cc ?keys_of_k)
      (Ks.df_mk Ks.b_without KX G ?without_a ?without_l ?without_cc ?without_k)
      (Ks.df_mk Ks.b_used KX G ?used_a ?used_l ?used_cc ?used_k)
      (Ks.df_mk Ks.b_cleared KX G ?cleared_a ?cleared_l ?cleared_cc ?cleared_k)
      (Ks.df_mk Ks.b_turned KX G ?turned_a ?turned_l ?turned_cc ?turned_k)
      (Ks.df_mk Ks.b_first_with KX G ?first_with_a ?first_with_l ?first_with_cc ?first_with_k)
      (Ks.df_mk Ks.b_least_recent KX G ?least_recent_a ?least_recent_l ?least_recent_cc ?least_recent_k)
      (Ks.df_mk Ks.b_most_recent KX G ?most_recent_a ?most_recent_l ?most_recent_cc ?most_recent_k)
      (Ks.df_mk Ks.b_least_used KX G ?least_used_a ?least_used_l ?least_used_cc ?least_used_k)
      (Ks.df_mk Ks.b_before_eviction KX G ?before_eviction_a ?before_eviction_l ?before_eviction_cc ?before_eviction_k)
      (Ks.df_mk Ks.b_victim_place KX G ?victim_place_a ?victim_place_l ?victim_place_cc ?victim_place_k)
      (Ks.di_mk Ks.b_Cache_init KX G ?Cache_init_aC ?Cache_init_a ?Cache_init_l ?Cache_init_cc ?Cache_init_k ?Cache_init_i ?Cache_init_mk ?Cache_init_kC)
      (Ks.dm_mk Ks.b_Cache_hits ?Cache_hits_a ?Cache_hits_l ?Cache_hits_cc ?Cache_hits_k ?Cache_hits_i)
      (Ks.dm_mk Ks.b_Cache_cached_keys ?Cache_cached_keys_a ?Cache_cached_keys_l ?Cache_cached_keys_cc ?Cache_cached_keys_k ?Cache_cached_keys_i)
      (Ks.dm_mk Ks.b_Cache_has ?Cache_has_a ?Cache_has_l ?Cache_has_cc ?Cache_has_k ?Cache_has_i)
      (Ks.dm_mk Ks.b_Cache_is_full ?Cache_is_full_a ?Cache_is_full_l ?Cache_is_full_cc ?Cache_is_full_k ?Cache_is_full_i)
      (Ks.dm_mk Ks.b_Cache_with_entries ?Cache_with_entries_a ?Cache_with_entries_l ?Cache_with_entries_cc ?Cache_with_entries_k ?Cache_with_entries_i)
      (Ks.dm_mk Ks.b_Cache_removed ?Cache_removed_a ?Cache_removed_l ?Cache_removed_cc ?Cache_removed_k ?Cache_removed_i)
      (Ks.dm_mk Ks.b_Cache_evicted ?Cache_evicted_a ?Cache_evicted_l ?Cache_evicted_cc ?Cache_evicted_k ?Cache_evicted_i)
      (Ks.dm_mk Ks.b_Cache_hit ?Cache_hit_a ?Cache_hit_l ?Cache_hit_cc ?Cache_hit_k ?Cache_hit_i)
      (Ks.dm_mk Ks.b_Cache_missed ?Cache_missed_a ?Cache_missed_l ?Cache_missed_cc ?Cache_missed_k ?Cache_missed_i)
      (Ks.dm_mk Ks.b_Cache_accessed ?Cache_accessed_a ?Cache_accessed_l ?Cache_accessed_cc ?Cache_accessed_k ?Cache_accessed_i)
      (Ks.df_mk Ks.b_empty_cache KX G ?empty_cache_a ?empty_cache_l ?empty_cache_cc ?empty_cache_k)
      (Ks.df_mk Ks.b_cache_behind KX G ?cache_behind_a ?cache_behind_l ?cache_behind_cc ?cache_behind_k)
      (Ks.df_mk Ks.b_anomaly_of KX G ?anomaly_of_a ?anomaly_of_l ?anomaly_of_cc ?anomaly_of_k)
      (Ks.df_mk Ks.b_next_access KX G ?next_access_a ?next_access_l ?next_access_cc ?next_access_k)
      (Ks.df_mk Ks.b_farthest_key KX G ?farthest_key_a ?farthest_key_l ?farthest_key_cc ?farthest_key_k)
      (Ks.df_mk Ks.b_other_keys KX G ?other_keys_a ?other_keys_l ?other_keys_cc ?other_keys_k)
      (Ks.df_mk Ks.b_needs_room KX G ?needs_room_a ?needs_room_l ?needs_room_cc ?needs_room_k)
      (Ks.df_mk Ks.b_with_key KX G ?with_key_a ?with_key_l ?with_key_cc ?with_key_k)
      (Ks.df_mk Ks.b_belady_from KX G ?belady_from_a ?belady_from_l ?belady_from_cc ?belady_from_k)
      (Ks.df_mk Ks.b_belady KX G ?belady_a ?belady_l ?belady_cc ?belady_k)
      (Ks.df_mk Ks.b_least_victim KX G ?least_victim_a ?least_victim_l ?least_victim_cc ?least_victim_k)
      (Ks.df_mk Ks.b_optimal_evictions KX G ?optimal_evictions_a ?optimal_evictions_l ?optimal_evictions_cc ?optimal_evictions_k)
      (Ks.df_mk Ks.b_replayed KX G ?replayed_a ?replayed_l ?replayed_cc ?replayed_k)
      (Ks.df_mk Ks.b_phase_starts KX G ?phase_starts_a ?phase_starts_l ?phase_starts_cc ?phase_starts_k)
      (Ks.df_mk Ks.b_longer_rows KX G ?longer_rows_a ?longer_rows_l ?longer_rows_cc ?longer_rows_k)
      (Ks.df_mk Ks.b_all_rows KX G ?all_rows_a ?all_rows_l ?all_rows_cc ?all_rows_k)
      (Ks.df_mk Ks.b_first_greatest KX G ?first_greatest_a ?first_greatest_l ?first_greatest_cc ?first_greatest_k)
      (Ks.df_mk Ks.b_separating KX G ?separating_a ?separating_l ?separating_cc ?separating_k)
      (Ks.df_mk Ks.b_farthest_from_best KX G ?farthest_from_best_a ?farthest_from_best_l ?farthest_from_best_cc ?farthest_from_best_k)
      (Ks.di_mk Ks.b_Holder_init KX G ?Holder_init_aC ?Holder_init_a ?Holder_init_l ?Holder_init_cc ?Holder_init_k ?Holder_init_i ?Holder_init_mk ?Holder_init_kC)
      (Ks.dm_mk Ks.b_Holder_put ?Holder_put_a ?Holder_put_l ?Holder_put_cc ?Holder_put_k ?Holder_put_i)
      (Ks.df_mk Ks.b_need KX G ?need_a ?need_l ?need_cc ?need_k)
      (Ks.df_mk Ks.b_need_capacity KX G ?need_capacity_a ?need_capacity_l ?need_capacity_cc ?need_capacity_k)
      (Ks.df_mk Ks.b_need_policy KX G ?need_policy_a ?need_policy_l ?need_policy_cc ?need_policy_k)
      (Ks.df_mk Ks.b_is_key KX G ?is_key_a ?is_key_l ?is_key_cc ?is_key_k)
      (Ks.df_mk Ks.b_need_key KX G ?need_key_a ?need_key_l ?need_key_cc ?need_key_k)
      (Ks.df_mk Ks.b_need_keys KX G ?need_keys_a ?need_keys_l ?need_keys_cc ?need_keys_k)
      (Ks.df_mk Ks.b_need_size KX G ?need_size_a ?need_size_l ?need_size_cc ?need_size_k)
      (Ks.df_mk Ks.b_listed KX G ?listed_a ?listed_l ?listed_cc ?listed_k)
      (Ks.df_mk Ks.b_configure KX G ?configure_a ?configure_l ?configure_cc ?configure_k)
      (Ks.df_mk Ks.b_access KX G ?access_a ?access_l ?access_cc ?access_k)
      (Ks.df_mk Ks.b_remove KX G ?remove_a ?remove_l ?remove_cc ?remove_k)
      (Ks.df_mk Ks.b_contents KX G ?contents_a ?contents_l ?contents_cc ?contents_k)
      (Ks.df_mk Ks.b_next_victim KX G ?next_victim_a ?next_victim_l ?next_victim_cc ?next_victim_k)
      (Ks.df_mk Ks.b_counters KX G ?counters_a ?counters_l ?counters_cc ?counters_k)
      (Ks.df_mk Ks.b_simulate KX G ?simulate_a ?simulate_l ?simulate_cc ?simulate_k)
      (Ks.df_mk Ks.b_optimal KX G ?optimal_a ?optimal_l ?optimal_cc ?optimal_k)
      (Ks.df_mk Ks.b_farthest KX G ?farthest_a ?farthest_l ?farthest_cc ?farthest_k)
      (Ks.df_mk Ks.b_replay KX G ?replay_a ?replay_l ?replay_cc ?replay_k)
      (Ks.df_mk Ks.b_phases KX G ?phases_a ?phases_l ?phases_cc ?phases_k)
      (Ks.df_mk Ks.b_separate KX G ?separate_a ?separate_l ?separate_cc ?separate_k)
      (Ks.df_mk Ks.b_worst KX G ?worst_a ?worst_l ?worst_cc ?worst_k)
      (Ks.df_mk Ks.b_anomaly KX G ?anomaly_a ?anomaly_l ?anomaly_cc ?anomaly_k)
      (Ks.df_mk Ks.b_answer KX G ?answer_a ?answer_l ?answer_cc ?answer_k)
      (Ks.df_mk Ks.b_lists_at KX G ?lists_at_a ?lists_at_l ?lists_at_cc ?lists_at_k)
      ?eaDD
      ?elDD
      ?ea
      ?el
      ?ecc
      ?ek
    (case Cache_init_aC => k_is)
    (case Cache_init_a => k_is)
    (case Cache_init_l => k_is)
    (case Cache_init_cc => k_is)
    (case Cache_init_k => k_is)
    (case Cache_init_i => k_is)
    (case Cache_init_mk => k_is)
    (case Cache_init_kC => k_is)
    (case Holder_init_aC => k_is)
    (case Holder_init_a => k_is)
    (case Holder_init_l => k_is)
    (case Holder_init_cc => k_is)
    (case Holder_init_k => k_is)
    (case Holder_init_i => k_is)
    (case Holder_init_mk => k_is)
    (case Holder_init_kC => k_is)
    (case nLEAST_RECENT => k_is)
    (case nMOST_RECENT => k_is)
    (case nLEAST_USED => k_is)
    (case nSECOND_CHANCE => k_is)
    (case nMOST_POLICY => k_is)
    (case nKEY => k_is)
    (case nLAST => k_is)
    (case nCOUNT => k_is)
    (case nBIT => k_is)
    (case nFRESH_COUNT => k_is)
    (case nNEVER => k_is)
    (case nBAD_CAPACITY => k_is)
    (case nBAD_POLICY => k_is)
    (case nBAD_KEY => k_is)
    (case nBAD_SEQUENCE => k_is)
    (case nNO_CAPACITY => k_is)
    (case nBAD_SIZE => k_is)
    (case nMOST_CAPACITY => k_is)
    (case nMOST_KEY => k_is)
    (case nMOST_ELEMENTS => k_is)
    (case nMOST_LENGTH => k_is)
    (case nMOST_BOUND_SEPARATE => k_is)
    (case nMOST_BOUND_WORST => k_is)
    (case z0 => k_is)
    (case z1 => k_is)
    (case z2 => k_is)
    (case z3 => k_is)
    (case z4 => k_is)
    (case z5 => k_is)
    (case z6 => k_is)
    (case z7 => k_is)
    (case z8 => k_is)
    (case z9 => k_is)
    (case RaC => k_is)
    (case RxL => k_is)
    (case Rsa => k_is)
    (case Rga => k_is)
    (case Rgg => k_is)
    (case RnC => k_is)
    (case RkC => k_is)
    (case ReC => k_is)
    (case RtC => k_is)
    (case RhC => k_is)
    (case RiC => k_is)
    (case RsC => first | rfl | k_is)
    (case RvV => k_is)
    (case Ra => k_is)
    (case Rt => k_is)
    (case Rl => k_is)
    (case Rcc => k_is)
    (case Rk => k_is)
    (case Sa => k_is)
    (case Sl => k_is)
    (case Ss0 => k_is)
    (case Ss1 => k_is)
    (case Ss2 => k_is)
    (case Ss3 => k_is)
    (case Ss4 => k_is)
    (case Ss5 => k_is)
    (case Ss6 => k_is)
    (case Ss7 => k_is)
    (case Ss8 => k_is)
    (case Ss9 => k_is)
    (case Ss10 => k_is)
    (case Ss11 => k_is)
    (case Ss12 => k_is)
    (case Ss13 => k_is)
    (case Cpg => k_is)
    (case Chd => k_is)
    (case Cpo => k_is)
    (case Csa => k_is)
    (case Cn1 => k_is)
    (case Cn2 => k_is)
    (case Cn3 => k_is)
    (case Cn4 => k_is)
    (case Cn5 => k_is)
    (case Hpg => k_is)
    (case Hhd => k_is)
    (case Hpo => k_is)
    (case Hsa => k_is)
    (case Hn1 => k_is)
    (case keys_of_a => k_is)
    (case keys_of_l => k_is)
    (case keys_of_cc => k_is)
    (case keys_of_k => k_is)
    (case without_a => k_is)
    (case without_l => k_is)
    (case without_cc => k_is)
    (case without_k => k_is)
    (case used_a => k_is)
    (case used_l => k_is)
    (case used_cc => k_is)
    (case used_k => k_is)
    (case cleared_a => k_is)
    (case cleared_l => k_is)
    (case cleared_cc => k_is)
    (case cleared_k => k_is)
    (case turned_a => k_is)
    (case turned_l => k_is)
    (case turned_cc => k_is)
    (case turned_k => k_is)
    (case first_with_a => k_is)
    (case first_with_l => k_is)
    (case first_with_cc => k_is)
    (case first_with_k => k_is)
    (case least_recent_a => k_is)
    (case least_recent_l => k_is)
    (case least_recent_cc => k_is)
    (case least_recent_k => k_is)
    (case most_recent_a => k_is)
    (case most_recent_l => k_is)
    (case most_recent_cc => k_is)
    (case most_recent_k => k_is)
    (case least_used_a => k_is)
    (case least_used_l => k_is)
    (case least_used_cc => k_is)
    (case least_used_k => k_is)
    (case before_eviction_a => k_is)
    (case before_eviction_l => k_is)
    (case before_eviction_cc => k_is)
    (case before_eviction_k => k_is)
    (case victim_place_a => k_is)
    (case victim_place_l => k_is)
    (case victim_place_cc => k_is)
    (case victim_place_k => k_is)
    (case Cache_hits_a => k_is)
    (case Cache_hits_l => k_is)
    (case Cache_hits_cc => k_is)
    (case Cache_hits_k => k_is)
    (case Cache_hits_i => k_is)
    (case Cache_cached_keys_a => k_is)
    (case Cache_cached_keys_l => k_is)
    (case Cache_cached_keys_cc => k_is)
    (case Cache_cached_keys_k => k_is)
    (case Cache_cached_keys_i => k_is)
    (case Cache_has_a => k_is)
    (case Cache_has_l => k_is)
    (case Cache_has_cc => k_is)
    (case Cache_has_k => k_is)
    (case Cache_has_i => k_is)
    (case Cache_is_full_a => k_is)
    (case Cache_is_full_l => k_is)
    (case Cache_is_full_cc => k_is)
    (case Cache_is_full_k => k_is)
    (case Cache_is_full_i => k_is)
    (case Cache_with_entries_a => k_is)
    (case Cache_with_entries_l => k_is)
    (case Cache_with_entries_cc => k_is)
    (case Cache_with_entries_k => k_is)
    (case Cache_with_entries_i => k_is)
    (case Cache_removed_a => k_is)
    (case Cache_removed_l => k_is)
    (case Cache_removed_cc => k_is)
    (case Cache_removed_k => k_is)
    (case Cache_removed_i => k_is)
    (case Cache_evicted_a => k_is)
    (case Cache_evicted_l => k_is)
    (case Cache_evicted_cc => k_is)
    (case Cache_evicted_k => k_is)
    (case Cache_evicted_i => k_is)
    (case Cache_hit_a => k_is)
    (case Cache_hit_l => k_is)
    (case Cache_hit_cc => k_is)
    (case Cache_hit_k => k_is)
    (case Cache_hit_i => k_is)
    (case Cache_missed_a => k_is)
    (case Cache_missed_l => k_is)
    (case Cache_missed_cc => k_is)
    (case Cache_missed_k => k_is)
    (case Cache_missed_i => k_is)
    (case Cache_accessed_a => k_is)
    (case Cache_accessed_l => k_is)
    (case Cache_accessed_cc => k_is)
    (case Cache_accessed_k => k_is)
    (case Cache_accessed_i => k_is)
    (case empty_cache_a => k_is)
    (case empty_cache_l => k_is)
    (case empty_cache_cc => k_is)
    (case empty_cache_k => k_is)
    (case cache_behind_a => k_is)
    (case cache_behind_l => k_is)
    (case cache_behind_cc => k_is)
    (case cache_behind_k => k_is)
    (case anomaly_of_a => k_is)
    (case anomaly_of_l => k_is)
    (case anomaly_of_cc => k_is)
    (case anomaly_of_k => k_is)
    (case next_access_a => k_is)
    (case next_access_l => k_is)
    (case next_access_cc => k_is)
    (case next_access_k => k_is)
    (case farthest_key_a => k_is)
    (case farthest_key_l => k_is)
    (case farthest_key_cc => k_is)
    (case farthest_key_k => k_is)
    (case other_keys_a => k_is)
    (case other_keys_l => k_is)
    (case other_keys_cc => k_is)
    (case other_keys_k => k_is)
    (case needs_room_a => k_is)
    (case needs_room_l => k_is)
    (case needs_room_cc => k_is)
    (case needs_room_k => k_is)
    (case with_key_a => k_is)
    (case with_key_l => k_is)
    (case with_key_cc => k_is)
    (case with_key_k => k_is)
    (case belady_from_a => k_is)
    (case belady_from_l => k_is)
    (case belady_from_cc => k_is)
    (case belady_from_k => k_is)
    (case belady_a => k_is)
    (case belady_l => k_is)
    (case belady_cc => k_is)
    (case belady_k => k_is)
    (case least_victim_a => k_is)
    (case least_victim_l => k_is)
    (case least_victim_cc => k_is)
    (case least_victim_k => k_is)
    (case optimal_evictions_a => k_is)
    (case optimal_evictions_l => k_is)
    (case optimal_evictions_cc => k_is)
    (case optimal_evictions_k => k_is)
    (case replayed_a => k_is)
    (case replayed_l => k_is)
    (case replayed_cc => k_is)
    (case replayed_k => k_is)
    (case phase_starts_a => k_is)
    (case phase_starts_l => k_is)
    (case phase_starts_cc => k_is)
    (case phase_starts_k => k_is)
    (case longer_rows_a => k_is)
    (case longer_rows_l => k_is)
    (case longer_rows_cc => k_is)
    (case longer_rows_k => k_is)
    (case all_rows_a => k_is)
    (case all_rows_l => k_is)
    (case all_rows_cc => k_is)
    (case all_rows_k => k_is)
    (case first_greatest_a => k_is)
    (case first_greatest_l => k_is)
    (case first_greatest_cc => k_is)
    (case first_greatest_k => k_is)
    (case separating_a => k_is)
    (case separating_l => k_is)
    (case separating_cc => k_is)
    (case separating_k => k_is)
    (case farthest_from_best_a => k_is)
    (case farthest_from_best_l => k_is)
    (case farthest_from_best_cc => k_is)
    (case farthest_from_best_k => k_is)
    (case Holder_put_a => k_is)
    (case Holder_put_l => k_is)
    (case Holder_put_cc => k_is)
    (case Holder_put_k => k_is)
    (case Holder_put_i => k_is)
    (case need_a => k_is)
    (case need_l => k_is)
    (case need_cc => k_is)
    (case need_k => k_is)
    (case need_capacity_a => k_is)
    (case need_capacity_l => k_is)
    (case need_capacity_cc => k_is)
    (case need_capacity_k => k_is)
    (case need_policy_a => k_is)
    (case need_policy_l => k_is)
    (case need_policy_cc => k_is)
    (case need_policy_k => k_is)
    (case is_key_a => k_is)
    (case is_key_l => k_is)
    (case is_key_cc => k_is)
    (case is_key_k => k_is)
    (case need_key_a => k_is)
    (case need_key_l => k_is)
    (case need_key_cc => k_is)
    (case need_key_k => k_is)
    (case need_keys_a => k_is)
    (case need_keys_l => k_is)
    (case need_keys_cc => k_is)
    (case need_keys_k => k_is)
    (case need_size_a => k_is)
    (case need_size_l => k_is)
    (case need_size_cc => k_is)
    (case need_size_k => k_is)
    (case listed_a => k_is)
    (case listed_l => k_is)
    (case listed_cc => k_is)
    (case listed_k => k_is)
    (case configure_a => k_is)
    (case configure_l => k_is)
    (case configure_cc => k_is)
    (case configure_k => k_is)
    (case access_a => k_is)
    (case access_l => k_is)
    (case access_cc => k_is)
    (case access_k => k_is)
    (case remove_a => k_is)
    (case remove_l => k_is)
    (case remove_cc => k_is)
    (case remove_k => k_is)
    (case contents_a => k_is)
    (case contents_l => k_is)
    (case contents_cc => k_is)
    (case contents_k => k_is)
    (case next_victim_a => k_is)
    (case next_victim_l => k_is)
    (case next_victim_cc => k_is)
    (case next_victim_k => k_is)
    (case counters_a => k_is)
    (case counters_l => k_is)
    (case counters_cc => k_is)
    (case counters_k => k_is)
    (case simulate_a => k_is)
    (case simulate_l => k_is)
    (case simulate_cc => k_is)
    (case simulate_k => k_is)
    (case optimal_a => k_is)
    (case optimal_l => k_is)
    (case optimal_cc => k_is)
    (case optimal_k => k_is)
    (case farthest_a => k_is)
    (case farthest_l => k_is)
    (case farthest_cc => k_is)
    (case farthest_k => k_is)
    (case replay_a => k_is)
    (case replay_l => k_is)
    (case replay_cc => k_is)
    (case replay_k => k_is)
    (case phases_a => k_is)
    (case phases_l => k_is)
    (case phases_cc => k_is)
    (case phases_k => k_is)
    (case separate_a => k_is)
    (case separate_l => k_is)
    (case separate_cc => k_is)
    (case separate_k => k_is)
    (case worst_a => k_is)
    (case worst_l => k_is)
    (case worst_cc => k_is)
    (case worst_k => k_is)
    (case anomaly_a => k_is)
    (case anomaly_l => k_is)
    (case anomaly_cc => k_is)
    (case anomaly_k => k_is)
    (case answer_a => k_is)
    (case answer_l => k_is)
    (case answer_cc => k_is)
    (case answer_k => k_is)
    (case lists_at_a => k_is)
    (case lists_at_l => k_is)
    (case lists_at_cc => k_is)
    (case lists_at_k => k_is)
    (case eaDD => k_is)
    (case elDD => k_is)
    (case ea => k_is)
    (case el => k_is)
    (case ecc => k_is)
    (case ek => k_is)
  case S =>
    intro K H xs a hO hwi hask hx
    cases hx with
    | cons h1 h2 =>
      cases h2
      cases h1 with
      | lst hs ha =>
        have e := L2.ints_dw a.1 _ ha
        subst e
        have q : ((Codec.inLen 0 12240 a.1 && a.1.all (Codec.inInt (-1000000000000000000) 1000000000000000000)) && true) = true := hwi
        rw [Bool.and_eq_true, Bool.and_eq_true] at q
        exact ⟨_, a.1, rfl, hs, Nat.le_trans (Codec.inNat_iff.mp q.1.1).2 (by decide), hask, fun H' p hp => .lst (L2.SqL.of hp) (L2.dw_ints _)⟩
#print axioms PySem.Challenge.cw_keepslots_s01_answers_holds
