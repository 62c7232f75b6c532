import PyProof.Rows.All
import Wide.All
import OpenK.AllK
import Wide.FinOn
import HandS.ForMost
import HandS.Flow
import HandS.IsInst
import HandS.Style
import HandS.SetFor
import HandS.TupSets
import HandS.Walk
import HandS.SortKw
import KE.SortKeyHeap
import KE.DataEq
import KE.GoesEnum
import HandS.Codes
import PySem.Challenge.RW_satchelmeet_k32_whole_thinned_again
set_option Elab.async false
set_option linter.all false
set_option maxRecDepth 100000
set_option maxHeartbeats 4800000
section
set_option autoImplicit false
/-! The mathematics: earliest times by a fold, chains, thinning. No Python here. -/
namespace Sat

structure Mt where
  a : Nat
  b : Nat
  w : Int
  m : Int
deriving DecidableEq

abbrev Tm := Nat → Option Int

def can (T : Tm) (w : Int) (g o : Nat) : Bool := match T o, T g with
  | none, some t => decide (t < w)
  | _, _ => false
def giveT (w : Int) (g o : Nat) (T : Tm) : Tm := if can T w g o = true then fun x => if x = o then some w else T x else T
def giveB (i : Nat) (w : Int) (g o : Nat) (T : Tm) (B : Nat → Option Nat) : Nat → Option Nat := if can T w g o = true then fun x => if x = o then some i else B x else B
def stepT (m : Mt) (T : Tm) : Tm := giveT m.w m.b m.a (giveT m.w m.a m.b T)
def stepB (i : Nat) (m : Mt) (T : Tm) (B : Nat → Option Nat) : Nat → Option Nat := giveB i m.w m.b m.a (giveT m.w m.a m.b T) (giveB i m.w m.a m.b T B)
def T0 (s : Nat) (z : Int) : Tm := fun x => if x = s then some z else none
def ET (ms : List Mt) (s : Nat) (z : Int) : Tm := ms.foldl (fun T m => stepT m T) (T0 s z)
def comB (ms : List Mt) (s : Nat) (z : Int) : Nat → Nat → Option Nat
  | 0 => fun _ => none
  | i + 1 => match ms[i]? with
    | some m => stepB i m (ET (ms.take i) s z) (comB ms s z i)
    | none => comB ms s z i

theorem can_iff {T : Tm} {w : Int} {g o : Nat} : can T w g o = true ↔ T o = none ∧ ∃ t, T g = some t ∧ t < w := by
  unfold can
  split
  · rename_i t h1 h2
    rw [h1, h2]
    simp
  · rename_i h
    constructor
    · intro h'
      cases h'
    · rintro ⟨h1, t, h2, h3⟩
      exact absurd h2 (h t h1)
theorem can_none {T : Tm} {w : Int} {g o : Nat} (h : can T w g o = true) : T o = none := (can_iff.mp h).1
theorem giveT_some {T : Tm} {w : Int} {g o x : Nat} {t : Int} (h : T x = some t) : giveT w g o T x = some t := by
  unfold giveT
  split
  · rename_i hc
    have hx : x ≠ o := fun e => by
      rw [e, can_none hc] at h
      cases h
    simp [hx, h]
  · exact h
theorem stepT_some {T : Tm} {m : Mt} {x : Nat} {t : Int} (h : T x = some t) : stepT m T x = some t := giveT_some (giveT_some h)

theorem ET_take {ms : List Mt} {s : Nat} {z : Int} {i : Nat} {m : Mt} (h : ms[i]? = some m) : ET (ms.take (i + 1)) s z = stepT m (ET (ms.take i) s z) := by
  unfold ET
  rw [List.take_add_one, h, List.foldl_append]
  rfl
theorem comB_succ {ms : List Mt} {s : Nat} {z : Int} {i : Nat} {m : Mt} (h : ms[i]? = some m) : comB ms s z (i + 1) = stepB i m (ET (ms.take i) s z) (comB ms s z i) := by
  show (match ms[i]? with | some m => _ | none => _) = _
  rw [h]

/-! ### monotony -/
def leT (T T' : Tm) : Prop := ∀ x t, T' x = some t → ∃ t', T x = some t' ∧ t' ≤ t
def Bd (s : Nat) (T : Tm) (w : Int) : Prop := ∀ x t, x ≠ s → T x = some t → t ≤ w
theorem leT.refl (T : Tm) : leT T T := fun _ t h => ⟨t, h, Int.le_refl _⟩
theorem Bd.mono {s : Nat} {T : Tm} {w w' : Int} (h : Bd s T w) (hw : w ≤ w') : Bd s T w' := fun x t hx ht => Int.le_trans (h x t hx ht) hw
theorem Bd.give {s : Nat} {T : Tm} {w : Int} {g o : Nat} (h : Bd s T w) : Bd s (giveT w g o T) w := by
  intro x t hx ht
  unfold giveT at ht
  split at ht
  · by_cases e : x = o
    · simp [e] at ht
      omega
    · simp [e] at ht
      exact h x t hx ht
  · exact h x t hx ht
theorem leT.give {s : Nat} {T T' : Tm} {w : Int} {g o : Nat} (h : leT T T') (hb : Bd s T w) (hs : T' s ≠ none) : leT (giveT w g o T) (giveT w g o T') := by
  intro x t hx
  by_cases hc : can T' w g o = true
  · obtain ⟨h1, u, h2, h3⟩ := can_iff.mp hc
    by_cases e : x = o
    · subst e
      have ht : t = w := by
        unfold giveT at hx
        rw [if_pos hc] at hx
        simp at hx
        exact hx.symm
      subst ht
      have hos : x ≠ s := fun q => hs (q ▸ h1)
      obtain ⟨u', h4, h5⟩ := h g u h2
      cases h6 : T x with
      | none =>
        have hc' : can T t g x = true := can_iff.mpr ⟨h6, u', h4, by omega⟩
        exact ⟨t, by unfold giveT; rw [if_pos hc']; simp, Int.le_refl _⟩
      | some v => exact ⟨v, giveT_some h6, hb x v hos h6⟩
    · have hx' : T' x = some t := by
        unfold giveT at hx
        rw [if_pos hc] at hx
        simpa [e] using hx
      obtain ⟨t', h4, h5⟩ := h x t hx'
      exact ⟨t', giveT_some h4, h5⟩
  · have hx' : T' x = some t := by
      unfold giveT at hx
      rwa [if_neg hc] at hx
    obtain ⟨t', h4, h5⟩ := h x t hx'
    exact ⟨t', giveT_some h4, h5⟩
theorem some_ne {α : Type} {o : Option α} {x : α} (h : o = some x) : o ≠ none := by rw [h]; exact Option.some_ne_none x
theorem giveT_ne {T : Tm} {w : Int} {g o x : Nat} (h : T x ≠ none) : giveT w g o T x ≠ none := by
  cases e : T x with
  | none => exact absurd e h
  | some t => exact some_ne (giveT_some e)
theorem leT.step {s : Nat} {T T' : Tm} {m : Mt} (h : leT T T') (hb : Bd s T m.w) (hs : T' s ≠ none) : leT (stepT m T) (stepT m T') :=
  (h.give hb hs).give hb.give (giveT_ne hs)
theorem leT.skip {T T' : Tm} {m : Mt} (h : leT T T') : leT (stepT m T) T' := fun x t hx =>
  let ⟨t', h1, h2⟩ := h x t hx
  ⟨t', stepT_some h1, h2⟩
def Up (ms : List Mt) : Prop := ms.Pairwise fun x y => x.w ≤ y.w
theorem fold_mono {s : Nat} {ms ms' : List Mt} (h : ms'.Sublist ms) : Up ms → ∀ T T' : Tm, leT T T' → (∀ m ∈ ms, Bd s T m.w) → T' s ≠ none →
    leT (ms.foldl (fun T m => stepT m T) T) (ms'.foldl (fun T m => stepT m T) T') := by
  induction h with
  | slnil => intro _ T T' h _ _; exact h
  | @cons l1 l2 m _ ih =>
    intro hu T T' h hb hs
    have hu' := List.pairwise_cons.mp hu
    refine ih hu'.2 (stepT m T) T' h.skip (fun m2 h2 => ?_) hs
    exact ((hb m List.mem_cons_self).give.give).mono (hu'.1 m2 h2)
  | @cons_cons l1 l2 m _ ih =>
    intro hu T T' h hb hs
    have hu' := List.pairwise_cons.mp hu
    refine ih hu'.2 (stepT m T) (stepT m T') (h.step (hb m List.mem_cons_self) hs) (fun m2 h2 => ?_) (giveT_ne (giveT_ne hs))
    exact ((hb m List.mem_cons_self).give.give).mono (hu'.1 m2 h2)
theorem ET_mono {ms ms' : List Mt} (h : ms'.Sublist ms) (hu : Up ms) (s : Nat) (z : Int) : leT (ET ms s z) (ET ms' s z) := by
  refine fold_mono (s := s) h hu _ _ (leT.refl _) (fun m _ x t hx ht => ?_) ?_
  · simp [T0, hx] at ht
  · simp [T0]
theorem between {T T' T'' : Tm} (h : leT T T') (h' : leT T' T'') {x : Nat} (e : T x = T'' x) : T x = T' x := by
  cases e2 : T'' x with
  | none =>
    rw [e2] at e
    cases e1 : T' x with
    | none => exact e
    | some t =>
      obtain ⟨t', h1, _⟩ := h x t e1
      rw [e] at h1
      cases h1
  | some t =>
    rw [e2] at e
    obtain ⟨t1, h1, h2⟩ := h' x t e2
    obtain ⟨t2, h3, h4⟩ := h x t1 h1
    rw [e] at h3
    have e3 : t = t2 := Option.some.inj h3
    have e4 : t1 = t := by omega
    rw [e, h1, e4]

/-! ### alike -/
def Al (n : Nat) (ms ms' : List Mt) : Prop := ∀ s, s < n → ∀ x, x < n → ET ms s 0 x = ET ms' s 0 x
theorem Al.symm {n : Nat} {ms ms' : List Mt} (h : Al n ms ms') : Al n ms' ms := fun s hs x hx => (h s hs x hx).symm
theorem Al.trans {n : Nat} {a b c : List Mt} (h : Al n a b) (h' : Al n b c) : Al n a c := fun s hs x hx => (h s hs x hx).trans (h' s hs x hx)
theorem Al.refl (n : Nat) (a : List Mt) : Al n a a := fun _ _ _ _ => rfl
theorem Up.sub {ms ms' : List Mt} (hu : Up ms) (h : ms'.Sublist ms) : Up ms' := List.Pairwise.sublist h hu
theorem sandwich {n : Nat} {ms ms' ms'' : List Mt} (hu : Up ms) (h : ms'.Sublist ms) (h' : ms''.Sublist ms') (a : Al n ms ms'') : Al n ms ms' := fun s hs x hx =>
  between (ET_mono h hu s 0) (ET_mono h' (hu.sub h) s 0) (a s hs x hx)

structure Thin (n : Nat) (ms : List Mt) (j : Nat) (R : List Mt) : Prop where
  sub : R.Sublist (ms.drop j)
  al : Al n ms (ms.take j ++ R)
  need : ∀ k, k < R.length → ¬ Al n (ms.take j ++ R) ((ms.take j ++ R).eraseIdx (j + k))
theorem thin_start (n : Nat) (ms : List Mt) : Thin n ms ms.length [] :=
  ⟨List.nil_sublist _, by rw [List.take_length, List.append_nil]; exact Al.refl n ms, fun k hk => absurd hk (Nat.not_lt_zero k)⟩
theorem take_app {ms R : List Mt} {j : Nat} {m : Mt} (h : ms[j]? = some m) : ms.take (j + 1) ++ R = ms.take j ++ m :: R := by
  rw [List.take_add_one, h]
  simp
theorem take_len {ms : List Mt} {j : Nat} {m : Mt} (h : ms[j]? = some m) : (ms.take j).length = j := by
  have := (List.getElem?_eq_some_iff.mp h).1
  rw [List.length_take]
  omega
theorem erase_at {ms R : List Mt} {j : Nat} {m : Mt} (h : ms[j]? = some m) : (ms.take (j + 1) ++ R).eraseIdx j = ms.take j ++ R := by
  rw [take_app h, List.eraseIdx_append_of_length_le (by rw [take_len h]; exact Nat.le_refl _), take_len h]
  simp
theorem erase_far {ms R : List Mt} {j k : Nat} {m : Mt} (h : ms[j]? = some m) : (ms.take j ++ R).eraseIdx (j + k) = ms.take j ++ R.eraseIdx k := by
  rw [List.eraseIdx_append_of_length_le (by rw [take_len h]; exact Nat.le_add_right _ _), take_len h]
  simp
theorem drop_one {ms : List Mt} {j : Nat} {m : Mt} (h : ms[j]? = some m) : ms.drop j = m :: ms.drop (j + 1) := by
  obtain ⟨h1, h2⟩ := List.getElem?_eq_some_iff.mp h
  rw [List.drop_eq_getElem_cons h1, h2]
theorem Thin.up {n : Nat} {ms R : List Mt} {j : Nat} (t : Thin n ms j R) : (ms.take j ++ R).Sublist ms := by
  have h := List.Sublist.append (List.Sublist.refl (ms.take j)) t.sub
  rwa [List.take_append_drop] at h
theorem thin_drop {n : Nat} {ms R : List Mt} {j : Nat} {m : Mt} (hu : Up ms) (h : ms[j]? = some m) (t : Thin n ms (j + 1) R) (a : Al n (ms.take (j + 1) ++ R) ((ms.take (j + 1) ++ R).eraseIdx j)) : Thin n ms j R := by
  have e := erase_at (R := R) h
  rw [e] at a
  refine ⟨by rw [drop_one h]; exact t.sub.cons m, t.al.trans a, fun k hk q => t.need k hk ?_⟩
  have e2 : j + 1 + k = j + (k + 1) := by omega
  rw [e2]
  have uL : Up (ms.take (j + 1) ++ R) := hu.sub t.up
  rw [take_app h] at a uL ⊢
  rw [erase_far h] at q ⊢
  rw [List.eraseIdx_cons_succ]
  have s1 : (ms.take j ++ m :: R.eraseIdx k).Sublist (ms.take j ++ m :: R) := List.Sublist.append (List.Sublist.refl _) ((List.eraseIdx_sublist R k).cons_cons m)
  have s2 : (ms.take j ++ R.eraseIdx k).Sublist (ms.take j ++ m :: R.eraseIdx k) := List.Sublist.append (List.Sublist.refl _) (List.sublist_cons_self m _)
  exact sandwich uL s1 s2 (a.trans q)
theorem thin_keep {n : Nat} {ms R : List Mt} {j : Nat} {m : Mt} (h : ms[j]? = some m) (t : Thin n ms (j + 1) R) (a : ¬ Al n (ms.take (j + 1) ++ R) ((ms.take (j + 1) ++ R).eraseIdx j)) : Thin n ms j (m :: R) := by
  have e := take_app (R := R) h
  refine ⟨by rw [drop_one h]; exact t.sub.cons_cons m, by rw [← e]; exact t.al, fun k hk q => ?_⟩
  rw [← e] at q
  cases k with
  | zero => exact a q
  | succ k =>
    have e2 : j + (k + 1) = j + 1 + k := by omega
    rw [e2] at q
    exact t.need k (by simpa using hk) q

structure Thinned (n : Nat) (ms L : List Mt) : Prop where
  sub : L.Sublist ms
  al : Al n ms L
  need : ∀ k, k < L.length → ¬ Al n L (L.eraseIdx k)
theorem Thin.done {n : Nat} {ms R : List Mt} (t : Thin n ms 0 R) : Thinned n ms R :=
  ⟨by simpa using t.sub, by simpa using t.al, fun k hk q => t.need k hk (by simpa using q)⟩
theorem sub_strict {α : Type} {L' L : List α} (h : L'.Sublist L) : L' ≠ L → ∃ k, k < L.length ∧ L'.Sublist (L.eraseIdx k) := by
  induction h with
  | slnil => intro h; exact absurd rfl h
  | @cons l1 l2 a h _ => intro _; exact ⟨0, by simp, by simpa using h⟩
  | @cons_cons l1 l2 a h ih =>
    intro hn
    obtain ⟨k, hk, hs⟩ := ih fun e => hn (by rw [e])
    exact ⟨k + 1, by simpa using hk, by simpa using hs.cons_cons a⟩
theorem thinned_again {n : Nat} {ms L L' : List Mt} (hu : Up ms) (t : Thinned n ms L) (t' : Thinned n L L') : L' = L := by
  refine Classical.byContradiction fun hn => ?_
  obtain ⟨k, hk, hs⟩ := sub_strict t'.sub hn
  exact t.need k hk (sandwich (hu.sub t.sub) (List.eraseIdx_sublist L k) hs t'.al)
theorem sub_left_out {α : Type} {L ms : List α} (h : L.Sublist ms) : ∀ {k : Nat} {m : α}, ms[k]? = some m → m ∉ L → L.Sublist (ms.eraseIdx k) := by
  induction h with
  | slnil => intro k m h _; simp at h
  | @cons l1 l2 a h ih =>
    intro k m hk hm
    cases k with
    | zero => simpa using h
    | succ k =>
      rw [List.eraseIdx_cons_succ]
      exact (ih (by simpa using hk) hm).cons a
  | @cons_cons l1 l2 a h ih =>
    intro k m hk hm
    cases k with
    | zero =>
      have e : a = m := by simpa using hk
      exact absurd (by rw [e]; exact List.mem_cons_self) hm
    | succ k =>
      rw [List.eraseIdx_cons_succ]
      exact (ih (by simpa using hk) fun q => hm (List.mem_cons_of_mem _ q)).cons_cons a
theorem left_out {n : Nat} {ms L : List Mt} {k : Nat} {m : Mt} (hu : Up ms) (t : Thinned n ms L) (hk : ms[k]? = some m) (hm : m ∉ L) : Al n ms (ms.eraseIdx k) :=
  sandwich hu (List.eraseIdx_sublist ms k) (sub_left_out t.sub hk hm) t.al

/-! ### letters -/
def comes (ms : List Mt) (s : Nat) (z : Int) (x : Nat) (last : Int) : Bool := match ET ms s z x with
  | some t => decide (t ≤ last)
  | none => false
/-- a letter told by parting -/
structure Tells (n : Nat) (ms ms' : List Mt) (s x : Nat) (t : Int) : Prop where
  s_lt : s < n
  x_lt : x < n
  ne : ET ms s 0 x ≠ ET ms' s 0 x
  one : ET ms s 0 x = some t ∨ ET ms' s 0 x = some t
  least : ∀ u, ET ms s 0 x = some u ∨ ET ms' s 0 x = some u → t ≤ u
theorem Tells.lost {n : Nat} {ms ms' : List Mt} {s x : Nat} {t : Int} (T : Tells n ms ms' s x t) (hu : Up ms) (h : ms'.Sublist ms) : comes ms s 0 x t = true ∧ comes ms' s 0 x t = false := by
  have hl := ET_mono h hu s 0
  unfold comes
  cases e' : ET ms' s 0 x with
  | none =>
    cases e : ET ms s 0 x with
    | none => exact absurd (e.trans e'.symm) T.ne
    | some u =>
      have h1 := T.least u (.inl e)
      have h2 : u = t := by
        rcases T.one with h | h
        · rw [e] at h
          exact Option.some.inj h
        · rw [e'] at h
          cases h
      simp [h2]
  | some u' =>
    obtain ⟨u, e, hle⟩ := hl x u' e'
    have hne : u ≠ u' := fun q => T.ne (by rw [e, e', q])
    have h1 := T.least u (.inl e)
    have h2 : t = u := by
      rcases T.one with h | h
      · rw [e] at h
        exact (Option.some.inj h).symm
      · rw [e'] at h
        have := Option.some.inj h
        omega
    rw [e]
    simp only [decide_eq_true_eq, decide_eq_false_iff_not]
    omega
theorem not_al {n : Nat} {ms ms' : List Mt} (h : ¬ Al n ms ms') : ∃ s x, s < n ∧ x < n ∧ ET ms s 0 x ≠ ET ms' s 0 x := by
  refine Classical.byContradiction fun q => h fun s hs x hx => Classical.byContradiction fun e => q ⟨s, x, hs, hx, e⟩
theorem comes_congr {n : Nat} {ms ms' : List Mt} (h : Al n ms ms') {s x : Nat} (hs : s < n) (hx : x < n) (last : Int) : comes ms s 0 x last = comes ms' s 0 x last := by
  unfold comes
  rw [h s hs x hx]

/-! ### chains -/
structure Good (ms : List Mt) (s : Nat) (z : Int) (i : Nat) (T : Tm) (B : Nat → Option Nat) : Prop where
  own : T s = some z ∧ B s = none
  by_ : ∀ x j, B x = some j → j < i ∧ ∃ m, ms[j]? = some m ∧ T x = some m.w ∧ ∃ y t, (m.a = x ∧ m.b = y ∨ m.b = x ∧ m.a = y) ∧ T y = some t ∧ t < m.w ∧ ∀ j', B y = some j' → j' < j
  has : ∀ x, x ≠ s → T x ≠ none → B x ≠ none
theorem Good.give {ms : List Mt} {s : Nat} {z : Int} {i : Nat} {T : Tm} {B : Nat → Option Nat} {m : Mt} {g o : Nat} (G : Good ms s z (i + 1) T B) (hm : ms[i]? = some m) (hgo : m.a = o ∧ m.b = g ∨ m.b = o ∧ m.a = g) :
    Good ms s z (i + 1) (giveT m.w g o T) (giveB i m.w g o T B) := by
  by_cases hc : can T m.w g o = true
  · obtain ⟨h1, t, h2, h3⟩ := can_iff.mp hc
    have eT : giveT m.w g o T = fun x => if x = o then some m.w else T x := by unfold giveT; rw [if_pos hc]
    have eB : giveB i m.w g o T B = fun x => if x = o then some i else B x := by unfold giveB; rw [if_pos hc]
    have hos : s ≠ o := fun q => by
      have := G.own.1
      rw [q, h1] at this
      cases this
    have hgo' : g ≠ o := fun q => by
      rw [q, h1] at h2
      cases h2
    refine ⟨?_, fun x j hx => ?_, fun x hx hT => ?_⟩
    · rw [eT, eB]
      simp [hos, G.own.1, G.own.2]
    · rw [eB] at hx
      rw [eT, eB]
      by_cases e : x = o
      · subst e
        have ej : i = j := by simpa using hx
        subst ej
        refine ⟨Nat.lt_succ_self _, m, hm, by simp, g, t, hgo, by simp [hgo', h2], h3, fun j' hj' => ?_⟩
        have hj2 : B g = some j' := by simpa [hgo'] using hj'
        obtain ⟨q1, m', q2, q3, _⟩ := G.by_ g j' hj2
        by_cases e2 : j' = i
        · rw [e2, hm] at q2
          have e3 : m = m' := Option.some.inj q2
          rw [← e3, h2] at q3
          have := Option.some.inj q3
          omega
        · omega
      · have hx' : B x = some j := by simpa [e] using hx
        obtain ⟨q1, m', q2, q3, y, t', q4, q5, q6, q7⟩ := G.by_ x j hx'
        have hy : y ≠ o := fun q => by
          rw [q, h1] at q5
          cases q5
        exact ⟨q1, m', q2, by simp [e, q3], y, t', q4, by simp [hy, q5], q6, fun j' hj' => q7 j' (by simpa [hy] using hj')⟩
    · rw [eT] at hT
      rw [eB]
      by_cases e : x = o
      · simp [e]
      · simp [e] at hT ⊢
        exact G.has x hx hT
  · have eT : giveT m.w g o T = T := by unfold giveT; rw [if_neg hc]
    have eB : giveB i m.w g o T B = B := by unfold giveB; rw [if_neg hc]
    rw [eT, eB]
    exact G
theorem Good.succ {ms : List Mt} {s : Nat} {z : Int} {i : Nat} {T : Tm} {B : Nat → Option Nat} (G : Good ms s z i T B) : Good ms s z (i + 1) T B :=
  ⟨G.own, fun x j h => let ⟨h1, h2⟩ := G.by_ x j h; ⟨Nat.lt_succ_of_lt h1, h2⟩, G.has⟩
theorem good_take (ms : List Mt) (s : Nat) (z : Int) : ∀ i, i ≤ ms.length → Good ms s z i (ET (ms.take i) s z) (comB ms s z i)
  | 0, _ => by
    refine ⟨⟨by simp [ET, T0], rfl⟩, fun x j h => ?_, fun x hx h => ?_⟩
    · cases (show (none : Option Nat) = some j from h)
    · simp [ET, T0, hx] at h
  | i + 1, hi => by
    have h : ms[i]? = some (ms[i]'(by omega)) := List.getElem?_eq_getElem (by omega)
    rw [ET_take h, comB_succ h]
    exact ((good_take ms s z i (by omega)).succ.give h (.inr ⟨rfl, rfl⟩)).give h (.inl ⟨rfl, rfl⟩)
theorem good (ms : List Mt) (s : Nat) (z : Int) : Good ms s z ms.length (ET ms s z) (comB ms s z ms.length) := by
  have h := good_take ms s z ms.length (Nat.le_refl _)
  rwa [List.take_length] at h
def go (ms : List Mt) : Nat → Int → List Nat → Option (Nat × Int)
  | y, t, [] => some (y, t)
  | y, t, j :: l => match ms[j]? with
    | some m => if (y = m.a ∨ y = m.b) ∧ t < m.w then go ms (m.a + m.b - y) m.w l else none
    | none => none
theorem go_cons {ms : List Mt} {y : Nat} {t : Int} {j : Nat} {l : List Nat} {r : Nat × Int} (h : go ms y t (j :: l) = some r) :
    ∃ m, ms[j]? = some m ∧ (y = m.a ∨ y = m.b) ∧ t < m.w ∧ go ms (m.a + m.b - y) m.w l = some r := by
  unfold go at h
  split at h
  · rename_i m hm
    split at h
    · rename_i hc
      exact ⟨m, hm, hc.1, hc.2, h⟩
    · cases h
  · cases h
theorem go_mk {ms : List Mt} {y : Nat} {t : Int} {j : Nat} {l : List Nat} {r : Nat × Int} {m : Mt} (hm : ms[j]? = some m) (hy : y = m.a ∨ y = m.b) (ht : t < m.w) (h : go ms (m.a + m.b - y) m.w l = some r) : go ms y t (j :: l) = some r := by
  unfold go
  rw [hm]
  simp only
  rw [if_pos ⟨hy, ht⟩]
  exact h

/-! ### books -/
def NC (x y : Mt) : Prop := x.w = y.w → x.a ≠ y.a ∧ x.a ≠ y.b ∧ x.b ≠ y.a ∧ x.b ≠ y.b
theorem NC.symm {x y : Mt} (h : NC x y) : NC y x := fun e => let ⟨a, b, c, d⟩ := h e.symm; ⟨Ne.symm a, Ne.symm c, Ne.symm b, Ne.symm d⟩
def Lt (x y : Mt) : Prop := x.w < y.w ∨ (x.w = y.w ∧ x.a < y.a)
def Le (x y : Mt) : Prop := x.w < y.w ∨ (x.w = y.w ∧ x.a ≤ y.a)
/-- a meeting as made_book takes it -/
structure Fit (n : Nat) (m : Mt) : Prop where
  ne : m.a ≠ m.b
  a_lt : m.a < n
  b_lt : m.b < n
  w1 : 1 ≤ m.w
  w2 : m.w ≤ 1000000000
  m1 : 1 ≤ m.m
  m2 : m.m ≤ 99
structure Raw (n : Nat) (ms : List Mt) : Prop where
  len : ms.length ≤ 60
  fit : ∀ m ∈ ms, Fit n m
  nc : ms.Pairwise NC
structure WF (n : Nat) (ms : List Mt) : Prop extends Raw n ms where
  lo : ∀ m ∈ ms, m.a < m.b
  srt : ms.Pairwise Lt
theorem WF.up {n : Nat} {ms : List Mt} (h : WF n ms) : Up ms := h.srt.imp fun {x y} (q : Lt x y) => by
  rcases q with q | q
  · exact Int.le_of_lt q
  · exact Int.le_of_eq q.1
theorem Raw.sub {n : Nat} {ms ms' : List Mt} (h : Raw n ms) (s : ms'.Sublist ms) : Raw n ms' :=
  ⟨Nat.le_trans s.length_le h.len, fun m hm => h.fit m (s.subset hm), h.nc.sublist s⟩
theorem WF.sub {n : Nat} {ms ms' : List Mt} (h : WF n ms) (s : ms'.Sublist ms) : WF n ms' :=
  ⟨h.toRaw.sub s, fun m hm => h.lo m (s.subset hm), h.srt.sublist s⟩
def right (m : Mt) : Mt := ⟨min m.a m.b, max m.a m.b, m.w, m.m⟩
theorem right_lo {m : Mt} (h : m.a < m.b) : right m = m := by
  cases m with
  | mk a b w k =>
    have h' : a < b := h
    simp only [right, Mt.mk.injEq, and_true]
    omega
theorem NC.right {x y : Mt} (h : NC x y) : NC (right x) (right y) := fun e => by
  obtain ⟨h1, h2, h3, h4⟩ := h e
  simp only [Sat.right]
  omega
theorem Fit.right {n : Nat} {m : Mt} (h : Fit n m) : Fit n (right m) ∧ (Sat.right m).a < (Sat.right m).b := by
  have := h.ne
  have := h.a_lt
  have := h.b_lt
  refine ⟨⟨?_, ?_, ?_, h.w1, h.w2, h.m1, h.m2⟩, ?_⟩ <;> simp only [Sat.right] <;> omega
theorem unique_sorted {ms ms' : List Mt} (p : ms'.Perm ms) (h : ms.Pairwise Lt) (h' : ms'.Pairwise Le) : ms' = ms := by
  induction ms generalizing ms' with
  | nil => exact p.eq_nil
  | cons m r ih =>
    cases ms' with
    | nil => exact absurd p.symm.eq_nil (by simp)
    | cons x r' =>
      have h1 := List.pairwise_cons.mp h
      have h2 := List.pairwise_cons.mp h'
      have e : x = m := by
        refine Classical.byContradiction fun hn => ?_
        have hx : x ∈ m :: r := p.mem_iff.mp List.mem_cons_self
        have hm : m ∈ x :: r' := p.mem_iff.mpr List.mem_cons_self
        have hx' : x ∈ r := by
          rcases List.mem_cons.mp hx with q | q
          · exact absurd q hn
          · exact q
        have hm' : m ∈ r' := by
          rcases List.mem_cons.mp hm with q | q
          · exact absurd q.symm hn
          · exact q
        have l1 : Lt m x := h1.1 x hx'
        have l2 : Le x m := h2.1 m hm'
        unfold Lt at l1
        unfold Le at l2
        omega
      subst e
      rw [ih (List.perm_cons x |>.mp p) h1.2 h2.2]
/-- what made_book makes of fit meetings -/
theorem made_wf {n : Nat} {ms ms' : List Mt} (h : Raw n ms) (p : ms'.Perm (ms.map right)) (hs : ms'.Pairwise Le) : WF n ms' := by
  have hmem : ∀ m ∈ ms', ∃ m0 ∈ ms, right m0 = m := fun m hm => List.mem_map.mp (p.mem_iff.mp hm)
  have hnc : (ms.map right).Pairwise NC := List.pairwise_map.mpr (h.nc.imp fun {x y} q => NC.right q)
  have hnc' : ms'.Pairwise NC := (List.Perm.pairwise_iff (fun {x y} q => NC.symm q) p).mpr hnc
  refine ⟨⟨by rw [p.length_eq, List.length_map]; exact h.len, fun m hm => ?_, hnc'⟩, fun m hm => ?_, ?_⟩
  · obtain ⟨m0, h0, e⟩ := hmem m hm
    rw [← e]
    exact (h.fit m0 h0).right.1
  · obtain ⟨m0, h0, e⟩ := hmem m hm
    rw [← e]
    exact (h.fit m0 h0).right.2
  · refine List.Pairwise.imp (R := fun x y => Le x y ∧ NC x y) (fun {x y} ⟨l, c⟩ => ?_) (hs.and hnc')
    rcases l with l | l
    · exact .inl l
    · exact .inr ⟨l.1, Nat.lt_of_le_of_ne l.2 (c l.1).1⟩
theorem made_same {n : Nat} {ms ms' : List Mt} (h : WF n ms) (p : ms'.Perm (ms.map right)) (hs : ms'.Pairwise Le) : ms' = ms := by
  have e : ms.map right = ms := by
    have : ms.map right = ms.map id := List.map_congr_left fun m hm => right_lo (h.lo m hm)
    rw [this, List.map_id]
  rw [e] at p
  exact unique_sorted p h.srt hs
/-- the walkers told from the other end -/
def flip (n : Nat) (m : Mt) : Mt := ⟨n - 1 - m.a, n - 1 - m.b, m.w, m.m⟩
theorem flip_raw {n : Nat} {ms : List Mt} (h : WF n ms) : Raw n (ms.map (flip n)) := by
  refine ⟨by rw [List.length_map]; exact h.len, fun m hm => ?_, ?_⟩
  · obtain ⟨m0, h0, e⟩ := List.mem_map.mp hm
    have f := h.fit m0 h0
    have := f.ne
    have := f.a_lt
    have := f.b_lt
    rw [← e]
    refine ⟨?_, ?_, ?_, f.w1, f.w2, f.m1, f.m2⟩ <;> simp only [flip] <;> omega
  · rw [List.pairwise_map]
    have hf : ms.Pairwise fun x y => NC x y ∧ (Fit n x ∧ Fit n y) := by
      refine h.nc.and ?_
      exact List.pairwise_of_forall_mem_list fun x hx y hy => ⟨h.fit x hx, h.fit y hy⟩
    refine hf.imp fun {x y} q e => ?_
    obtain ⟨c, fx, fy⟩ := q
    have := c e
    have := fx.a_lt
    have := fx.b_lt
    have := fy.a_lt
    have := fy.b_lt
    simp only [flip]
    omega
end Sat
end
section
/-! Rules that the hand layer lacks. -/
namespace KX
open PySem PySem.Spec PyProof.Rows L2

/-! ### enumerate(a tuple), by the library's WalksT.enumerateD over Draws.tuple -/
/-- the two cells that enumerate(t) lays: the tuple's iterator, and its own over that -/
def cellIt (t : Addr) : Obj := { cls := .type "tuple_iterator", data := .fields #[.ref t, .int 0 0] }
def cellEn (at_ : Addr) : Obj := { cls := .type "enumerate", data := .fields #[.none, .bool false, .ref at_, rawInt 0, .none, .none] }
def heapEn (h : Heap) (t : Addr) : Heap := (h.push (cellIt t)).push (cellEn h.objs.size)
theorem makes_enT (t : Addr) (its : Array Value) : Meets (Builtin.«enumerate.__new__» ⟨[.type "enumerate", .ref t], []⟩) fun _ R st => st.heap.IsTuple t its ∧ R (.ok (.ret (.ref (st.heap.push (cellIt t)).objs.size))) { st with heap := heapEn st.heap t } := .of_wp fun prog w A R st z => by
  have kind := sub_enumerate
  rcases st with ⟨hp, gs, dr, nt, os⟩
  have goIt : ∀ {A1 : Around} {E1 Q1 : Value → Shared → Prop}, Q1 (.ref hp.objs.size) ⟨hp.push (cellIt t), gs, dr, nt, os⟩ → wpAny (model prog w) A1 (pyIter (.ref t)) Q1 E1 ⟨hp, gs, dr, nt, os⟩ := fun q1 => (begins_tuple t its).iter prog w _ _ ⟨hp, gs, dr, nt, os⟩ _ z.1 q1
  wp_walk using goIt
  refine wpAny_stack_any fun _ => wpAny_pure ?_
  split
  · rename_i cl _ _ _ _ _
    cases (cl == Value.type "enumerate") <;> (wp_walk using goIt; exact ⟨_, rfl, z.2⟩)
  · wp_walk using goIt; exact ⟨_, rfl, z.2⟩
theorem call_enT {prog : Program} {w : World} {A : Around} {E Q : Value → Shared → Prop} {st : Shared} {t : Addr} {its : Array Value} (ht : st.heap.IsTuple t its) (hQ : Q (.ref (st.heap.objs.size + 1)) { st with heap := heapEn st.heap t }) :
    wpAny (model prog w) A (call (.type "enumerate") [.ref t]) Q E st := by
  have e1 : (st.heap.push (cellIt t)).objs.size = st.heap.objs.size + 1 := Heap.size_push ..
  refine callType_new F.called_enumerate (by decide) (F.typeCall_enumerate_1 _) (F.newCall_enumerate_1 _) (fun ob => F.args_object_init_2 ob _) F.entry_enumerate_new (makes_enT t its) ⟨ht, ?_⟩
  rw [← e1] at hQ
  exact ⟨⟨cellEn st.heap.objs.size, Heap.get?_push_size _ rfl, rfl⟩, hQ⟩
theorem heapEn_old {h : Heap} {t b : Addr} {o : Obj} (e : h.get? b = some o) : (heapEn h t).get? b = some o := Heap.get?_push_of_some _ (Heap.get?_push_of_some _ e)
theorem heapEn_it (h : Heap) (t : Addr) : (heapEn h t).get? h.objs.size = some (cellIt t) := Heap.get?_push_of_some _ (Heap.get?_push_size _ rfl)
theorem heapEn_en (h : Heap) (t : Addr) : (heapEn h t).get? (h.objs.size + 1) = some (cellEn h.objs.size) := by
  have e1 : (h.push (cellIt t)).objs.size = h.objs.size + 1 := Heap.size_push ..
  rw [← e1]
  exact (h.push (cellIt t)).get?_push_size rfl
theorem apart_cls {h : Heap} {p q : Addr} {o u : Obj} {x y : String} (hp : h.get? p = some o) (hq : h.get? q = some u) (ho : o.cls = .type x) (hu : u.cls = .type y) (n : x ≠ y) : p ≠ q := fun z => by
  subst z
  rw [hp] at hq
  injection hq with z1
  rw [z1, hu] at ho
  injection ho with z2
  exact n z2.symm
/-- the tuple at a, each item behind its place in a new pair -/
def ItE (K : PySem.W.Frag) (a : Addr) : It where
  go := fun i H => ∃ (xs : List V) (x : V), SqT K H a xs ∧ xs[i]? = some x
  yld := fun i H v H' => ∃ T x, v = .ref T ∧ H T = none ∧ H' = upd H T (.tup [.int (i : Nat), x]) ∧ ∀ xs, SqT K H a xs → xs[i]? = some x
  stop := fun i H => ∃ ys : List V, SqT K H a ys ∧ ys.length = i
def AtE (a e it : Addr) (i : Nat) (h : Heap) : Prop := (∃ u, IsEnum h e it ((i : Nat) : Int) u) ∧ h.IsTupleIter it a i ∧ e ≠ it
theorem AtE.ne {a e it : Addr} {i : Nat} {h : Heap} {its : Array Value} (z : AtE a e it i h) (p : h.IsTuple a its) : a ≠ it ∧ e ≠ a := by
  obtain ⟨⟨u, h1⟩, ⟨o, h2, c2, _⟩, _⟩ := z
  obtain ⟨o3, h3, c3, _⟩ := p
  exact ⟨apart_cls h3 h2 c3 c2 (by decide), apart_cls h1 h3 rfl c3 (by decide)⟩
theorem AtE.walks {X : Cx} {pins : List (Addr × Obj)} {σ : L2.St} {H : Hp} {s : Shared} {a e it : Addr} {i : Nat} {its : Array Value} (I : Inv X pins σ H s) (hc : X.calm = true) (z : AtE a e it i s.heap) (p : s.heap.IsTuple a its) :
    WalksT X.prog X.w X.A e [e, it, a] [e, it] its.size (fun j vs => ∃ t x, its[j]? = some x ∧ vs = #[.int j t, x]) (fun j h => (∃ u, IsEnum h e it j u) ∧ h.IsTupleIter it a j ∧ h.IsTuple a its)
      (fun j T h => (∃ x, IsEnumOut h e it ((j : Int) + 1) x T) ∧ (h.IsTupleIter it a (j + 1) ∧ h.IsTuple a its) ∧ T ≠ e ∧ T ≠ it) :=
  have n := z.ne p
  have hd : X.A.in1.handled = none := I.ok.hd hc
  .enumerateD (Draws.tuple hd it a n.1 its) e z.2.2 (by simp [z.2.2, n.2]) (by simp)
theorem two {β : Type} {b x y : β} (h : b ∈ [x, y]) : b = x ∨ b = y := by simpa using h
theorem turn_enumT {P : Program} {w : World} {K : PySem.W.Frag} {es : List Expr} {n : Nat} {tp : Pos} (a e it : Addr) : Turn P w K (.Tuple es n tp) (ItE K a) [e, it] e (AtE a e it) where
  mem := List.mem_cons_self
  obj := fun i h z b hb => by
    obtain ⟨⟨u, h1⟩, ⟨o, h2, _, d2⟩, _⟩ := z
    rcases two hb with rfl | rfl
    · exact ⟨_, h1, nofun⟩
    · exact ⟨o, h2, fun _ => by simp [d2]⟩
  keep := fun i h h' ⟨⟨u, h1⟩, h2, ne⟩ k => ⟨⟨u, k e List.mem_cons_self _ h1⟩, h2.at (k it (by simp)), ne⟩
  self := fun A i s Q E z h => z.1.elim fun _ h1 => wpAny_pyIter_enum h1 h
  item := by
    rintro X rfl rfl rfl hc i pins s σ H E I fresh z ⟨xs, x, hq, hx⟩
    obtain ⟨ws, rv, p, _⟩ := I.tuple hq
    have W := z.walks I hc (its := ws.toArray) p
    have lt : i < ws.toArray.size := by
      have := (List.getElem?_eq_some_iff.mp hx).1
      rw [rv.length] at this
      simpa using this
    refine W.item i s _ E lt ⟨z.1, z.2.1, p⟩ fun T vs h1 nt ⟨t, y, hy, ev⟩ hT tup mid k1 => ⟨_, rfl, W.go es n tp i T _ _ E mid fun h2 z2 k2 => ?_⟩
    subst ev
    obtain ⟨y', hy', ry⟩ := rv.get hx
    obtain rfl : y' = y := by simpa [hy'] using hy
    have far : ∀ b ∈ [e, it], b ≠ T := fun b hb q => W.apart i T h1 mid (q ▸ hb)
    obtain ⟨o, ho, hcl, hdt⟩ := tup
    have new : ObjOk X.prog X.w (upd H T (.tup [.int (i : Nat), x])) h2 T (.tup [.int (i : Nat), x]) := ⟨(by decide : 2 ≤ sizeLine), [.int i t, y'], .cons ⟨t, rfl⟩ (.cons ry .nil), ⟨o, k2 T o (W.apart i T h1 mid) ho, hcl, hdt⟩⟩
    exact ⟨.ref T, _, I.turnedNew (t' := nt) (ch := [e, it]) (fun b u hb q => k2 b u hb (k1 b u hb q)) fresh hT new, rfl, ⟨T, x, rfl, I.hok.fresh hT, rfl, fun ys hy => (I.tuple_inj hy hq).symm ▸ hx⟩, ⟨z2.1, z2.2.1, z.2.2⟩,
      fun b hb => by rw [upd_ne (far b hb)]; exact (fresh b hb).1⟩
  done := by
    rintro X rfl rfl rfl hc i pins s σ H E I fresh z ⟨xs, hq, hx⟩
    obtain ⟨ws, rv, p, _⟩ := I.tuple hq
    have size : ws.toArray.size = i := by
      rw [← hx, rv.length]
      simp
    obtain ⟨g0, g1, _, g3, g4, g5⟩ := fresh it (by simp)
    obtain ⟨u, h1⟩ := z.1
    have hd : X.A.in1.handled = none := I.ok.hd hc
    have D := Draws.tuple (prog := X.prog) (w := X.w) hd it a (z.ne p).1 ws.toArray
    exact wpAny_pyNext_enum_endD D h1 (size.symm ▸ ⟨z.2.1, p⟩) fun h2 k2 => ⟨rfl, I.turned (t' := s.toks) (fun b o hb q => k2 b o hb q) g0 g1 g3 g4 g5⟩
def iEnumT (K : PySem.W.Frag) (ta : TA) : TI := fun σ H R => ta σ H fun vs H1 => ∃ a xs, vs = [.ref a] ∧ SqT K H1 a xs ∧ R (ItE K a) H1
theorem pi_enumT {X : Cx} {e : Expr} {ta : TA} {p pos tp : Pos} {es : List Expr} {n : Nat} (hg : Gl X "enumerate") (hm : X.mg "enumerate" = none) (ha : PA X [e] ta) (hs : starEach [e] X.env = [(false, eval e X.env)] := by rfl) :
    PI X (.Tuple es n tp) (.Call (.Name "enumerate" p) [e] [] pos) (iEnumT X.K ta) := .mk fun pins s σ H R I h => by
  refine Call_ (ld_blt I hg hm boot_enumerate (PyProof.Rows.callWith_type1 (thn (ha.run pos pins s σ H _ I h) ?_) hs rfl))
  rintro us s1 ⟨vs, H1, I1, r1, a, xs, rfl, hq, q⟩
  obtain rfl := Vals.ref1 r1
  obtain ⟨ws, rv, p1, _⟩ := I1.tuple hq
  have k : ∀ b o, s1.heap.get? b = some o → (heapEn s1.heap a).get? b = some o := fun b o => heapEn_old
  have z : AtE a (s1.heap.objs.size + 1) s1.heap.objs.size 0 (heapEn s1.heap a) := ⟨⟨_, heapEn_en _ _⟩, ⟨_, heapEn_it _ _, rfl, rfl⟩, Nat.succ_ne_self _⟩
  refine call_enT (its := ws.toArray) p1 (wpAny_pyIter_enum (heapEn_en _ _) ⟨_, _, AtE a (s1.heap.objs.size + 1) s1.heap.objs.size, _, H1, rfl, I1.kept (t' := s1.toks) k, turn_enumT a _ s1.heap.objs.size, z, fun b hb => ?_, q⟩)
  have far : s1.heap.objs.size ≤ b := by rcases two hb with rfl | rfl <;> simp
  exact I1.fpOk far (I1.hok.fresh far)
theorem walk_enumT {K : PySem.W.Frag} {a : Addr} {xs : List V} : Walk (ItE K a) xs.length (fun H => SqT K H a xs) (YPair (fun i => some (.int (i : Nat))) (fun i => xs[i]?)) :=
  ⟨fun i _ hi q => ⟨xs, xs[i], q, by simp [hi]⟩, fun _ q => ⟨xs, q, rfl⟩, fun i _ _ _ _ q ⟨T, x, hv, hT, hH, hx⟩ => ⟨T, .int (i : Nat), x, hv, hT, hH, rfl, hx xs q⟩⟩

/-! ### x not in a tuple of tuples -/
section
variable {X : Cx}
def rNotInTD (K : PySem.W.Frag) : R2 := fun x y H Q => ∃ d ds, Dp K H x d ∧ Dp K H y (.tuple ds) ∧ d.plain = true ∧ PyData.plainAll ds = true ∧ PyData.depthAll ds ≤ 8 ∧ Q (.bl (!ds.any fun z => PyData.eqv z d)) H
theorem op_notInTD (hu : X.A.units + 64 < cLine) : OpR X (compareOp .NotIn) (rNotInTD X.K) := by
  rintro pins s σ H x y v u Q inv lx ly ⟨d, ds, dx, dy, px, py, deep, q⟩
  obtain ⟨ax, wx⟩ := Dp.reads inv d x v dx lx
  obtain ⟨ay, wy⟩ := Dp.reads inv (.tuple ds) y u dy ly
  have le : min (PyData.depthAll ds) d.depth ≤ 8 := Nat.le_trans (Nat.min_le_left ..) deep
  exact SeqAt.notIn_tuple_data wy wx py px (by omega) ⟨.bl _, H, inv, rfl, q⟩

/-! ### xs[i] of a list by values (for xs[i] += e) -/
def rGetL : V → V → Hp → VK → Prop := fun o i H Q => ∃ p xs k v, o = .ref p ∧ i = .int ((k : Nat) : Int) ∧ H p = some (.lst xs) ∧ xs[k]? = some v ∧ Q v H
theorem get_list : PGet X rGetL := by
  intro pins s σ H o i ov iv Q I ro ri h
  obtain ⟨p, xs, k, v, rfl, rfl, hq, he, q⟩ := h
  cases ro
  obtain ⟨t, rfl⟩ := ri
  obtain ⟨hz, its, n, r, hl, e⟩ := I.lstM hq
  obtain ⟨u, hu, ru⟩ := r.get he
  have hk := (List.getElem?_eq_some_iff.mp he).1
  have hn := line63
  exact wpAny_getItem_list (items := its.toArray) ⟨_, e, rfl, n, rfl⟩ (by omega) (by omega) (x := u) (by simpa using hu) ⟨v, H, I, ru, q⟩
end

/-! ### sorting -/
open Sat in
/-- a meeting's tuple: low, high, when, many -/
def mv (m : Mt) : List V := [.int m.a, .int m.b, .int m.w, .int m.m]
open Sat in
/-- a meeting's tuple as the law's own list has it: when, low, high, many -/
def mv2 (m : Mt) : List V := [.int m.w, .int m.a, .int m.b, .int m.m]
abbrev rf {β : Type} : Addr × β → V := fun p => .ref p.1
theorem each_refs {β : Type} : ∀ {L : List (Addr × β)} {us : List Value}, Vals (L.map rf) us → PySem.W.EachIs (fun (v : Value) (p : Addr × β) => v = .ref p.1) us L
  | [], _, .nil => .nil
  | p :: L, _, .cons r t => .cons r (each_refs t)
theorem vals_each {β : Type} : ∀ {L : List (Addr × β)} {us : List Value}, PySem.W.EachIs (fun (v : Value) (p : Addr × β) => v = .ref p.1) us L → Vals (L.map rf) us
  | [], _, .nil => .nil
  | p :: L, _, .cons r t => .cons r (vals_each t)
def IsKey (P : Program) (w : World) (K : PySem.W.Frag) (f : Addr) : Prop :=
  ∀ (A : Around) (s : Shared) (t : Addr) (its : Array Value) (n0 n1 n2 n3 : Int), K.In s.heap → s.heap.NoLimit → A.depth < recursionLimit → IsTup s.heap t its → IntsAre its.toList [n0, n1, n2, n3] →
    wpAny (model P w) A (call (.ref f) [.ref t]) (PySem.W.KeyPure (.tuple [.int n2, .int n0]) s) (fun _ _ => False) s
section
open Sat
variable {X : Cx}
def rSortK (f : Addr) (K : PySem.W.Frag) : List V → List V → Hp → VK → Prop := fun vs zs H Q => ∃ (l : Addr) (L : List (Addr × Mt)), vs = [.ref l] ∧ zs = [.ref f] ∧ SqL K H l (L.map rf) ∧ (∀ p ∈ L, SqT K H p.1 (mv p.2)) ∧
  ∀ L' : List (Addr × Mt), L'.Perm L → (L'.map (·.2)).Pairwise Le → ∀ p, H p = none → Q (.ref p) (upd H p (.lst (L'.map rf)))
theorem le_ii : PySem.W.dataLe false (fun b : Addr × Mt => PyData.tuple [.int b.2.w, .int b.2.a]) = fun p q => decide (p.2.w < q.2.w ∨ (p.2.w = q.2.w ∧ (p.2.a : Int) ≤ q.2.a)) :=
  PySem.W.dataLe_ii (fun b : Addr × Mt => b.2.w) (fun b : Addr × Mt => (b.2.a : Int))
theorem merge_le (L : List (Addr × Mt)) : ((L.mergeSort fun p q => decide (p.2.w < q.2.w ∨ (p.2.w = q.2.w ∧ (p.2.a : Int) ≤ q.2.a))).map (·.2)).Pairwise Le := by
  rw [List.pairwise_map]
  refine List.Pairwise.imp (fun {p q} h => ?_) (List.pairwise_mergeSort (le := fun p q : Addr × Mt => decide (p.2.w < q.2.w ∨ (p.2.w = q.2.w ∧ (p.2.a : Int) ≤ q.2.a))) (fun a b c h1 h2 => ?_) (fun a b => ?_) L)
  · have h' := of_decide_eq_true h
    unfold Le
    omega
  · simp only [decide_eq_true_eq] at h1 h2 ⊢
    omega
  · simp only [Bool.or_eq_true, decide_eq_true_eq]
    omega
theorem cr_sortK {f : Addr} {k : Nat} (hr : Room (k + 2) X.A) (hf : IsKey X.prog X.w X.K f) : CallRK X (.builtin "sorted") [Str.ofString "key"] (rSortK f X.K) := by
  rintro pins s σ H _ _ us ws Q I r rz ⟨l, L, rfl, rfl, hl, hm, q⟩
  cases Vals.ref1 r
  cases Vals.ref1 rz
  obtain ⟨its, vals, pl, hz⟩ := I.list hl
  have he := each_refs vals
  have hL : L.length ≤ sizeLine := by simpa using hz
  refine PySem.W.sorted_key_data (R := fun (v : Value) (p : Addr × Mt) => v = .ref p.1) (vs := its) (bs := L) (b := false) (kw := [(Str.ofString "key", .ref f)]) (fun b : Addr × Mt => PyData.tuple [.int b.2.w, .int b.2.a]) pl.isList he
    (PySem.W.AllAlike.of fun b b' => by simp [PySem.W.alike, PySem.W.alikeAll]) (PySem.W.Sortable.tuples fun b => ⟨_, _, rfl⟩) hL (fun x hx => ?_) (PyProof.Rows.ksk_s1 _ _) (fun _ => PyProof.Rows.ksk_l1 _ _) (fun _ => PyProof.Rows.ksk_t1 _ _) (fun v x hv hx h0 tk hk => ?_) fun out c h' tk hk hn ho hlen hout => ?_
  · have := hr.un
    simp only [PyData.depthAll, PyData.depth]
    omega
  · subst hv
    obtain ⟨its2, rv2, pt, _⟩ := I.tuple (hm x hx)
    have pt' : IsTup h0 x.1 its2.toArray := let ⟨o, ho, r⟩ := pt; ⟨o, hk _ _ ho, r⟩
    have hr2 : Room k X.A.in1.in1 := (Room.in1 (Room.in1 hr))
    refine hf X.A.in1.in1 { s with heap := h0, toks := tk } x.1 its2.toArray x.2.a x.2.b x.2.w x.2.m (I.kIn.keeps hk) (I.nolimit.keeps hk) hr2.depth pt' ?_
    rw [List.toList_toArray]
    exact Vals.ints (ns := [(x.2.a : Int), x.2.b, x.2.w, x.2.m]) rv2
  · rw [le_ii] at hout
    have hp := List.mergeSort_perm L fun p q => decide (p.2.w < q.2.w ∨ (p.2.w = q.2.w ∧ (p.2.a : Int) ≤ q.2.a))
    have hv := vals_each hout
    refine ⟨.ref _, upd H (s.heap.objs.size + 1) (.lst _), I.laid (t' := tk) hk (Nat.le_succ _) ⟨?_, out, c, hv, ho⟩, rfl, q _ hp (merge_le L) _ (I.hok.fresh (Nat.le_succ _))⟩
    simpa [hp.length_eq] using hL

/-- sorted(xs), xs a list of tuples (when, low, high, many) -/
def rSort4 (K : PySem.W.Frag) : List V → Hp → VK → Prop := fun vs H Q => ∃ (l : Addr) (L : List (Addr × Mt)), vs = [.ref l] ∧ SqL K H l (L.map rf) ∧ (∀ p ∈ L, SqT K H p.1 (mv2 p.2)) ∧
  ∀ L' : List (Addr × Mt), L'.Perm L → (L'.map (·.2)).Pairwise Le → ∀ p, H p = none → Q (.ref p) (upd H p (.lst (L'.map rf)))
def enc4 (b : Addr × Mt) : PyData := .tuple [.int b.2.w, .int b.2.a, .int b.2.b, .int b.2.m]
theorem enc4_lt (p q : Addr × Mt) : PySem.W.dataLt (enc4 p) (enc4 q) = decide (p.2.w < q.2.w ∨ (p.2.w = q.2.w ∧ ((p.2.a : Int) < q.2.a ∨ ((p.2.a : Int) = q.2.a ∧ ((p.2.b : Int) < q.2.b ∨ ((p.2.b : Int) = q.2.b ∧ p.2.m < q.2.m)))))) := by
  unfold enc4
  rw [PySem.W.dataLt_tuple, PySem.W.dataLt_cons (by simp [PySem.W.alike]), PySem.W.dataLt_cons (by simp [PySem.W.alike]), PySem.W.dataLt_cons (by simp [PySem.W.alike]), PySem.W.dataLt_cons (by simp [PySem.W.alike])]
  have e : PyProof.Rows.lexLt PyProof.Rows.itemOrd (PySem.W.keyToksAll []) (PySem.W.keyToksAll []) = false := PyProof.Rows.lex_irrefl _
  rw [e]
  simp only [PySem.W.dataLt_int, PyData.eqv, beq_iff_eq]
  split
  · split
    · split
      · split
        · symm; rw [decide_eq_false_iff_not]; omega
        · rw [decide_eq_decide]; omega
      · rw [decide_eq_decide]; omega
    · rw [decide_eq_decide]; omega
  · rw [decide_eq_decide]; omega
theorem le_4 : PySem.W.dataLe false enc4 = fun p q => !decide (q.2.w < p.2.w ∨ (q.2.w = p.2.w ∧ ((q.2.a : Int) < p.2.a ∨ ((q.2.a : Int) = p.2.a ∧ ((q.2.b : Int) < p.2.b ∨ ((q.2.b : Int) = p.2.b ∧ q.2.m < p.2.m)))))) := by
  funext p q
  show (!PySem.W.dataLt (enc4 q) (enc4 p)) = _
  rw [enc4_lt]
theorem merge_le4 (L : List (Addr × Mt)) : ((L.mergeSort (PySem.W.dataLe false enc4)).map (·.2)).Pairwise Le := by
  rw [le_4, List.pairwise_map]
  refine List.Pairwise.imp (fun {p q} h => ?_) (List.pairwise_mergeSort (fun a b c h1 h2 => ?_) (fun a b => ?_) L)
  · have h' := of_decide_eq_false (by simpa only [Bool.not_eq_true'] using h)
    unfold Le
    omega
  · simp only [Bool.not_eq_true', decide_eq_false_iff_not] at h1 h2 ⊢
    omega
  · simp only [Bool.or_eq_true, Bool.not_eq_true', decide_eq_false_iff_not]
    omega
theorem cr_sort4 {k : Nat} (hr : Room k X.A) : CallR X (.builtin "sorted") (rSort4 X.K) := by
  rintro pins s σ H _ us Q I r ⟨l, L, rfl, hl, hm, q⟩
  cases Vals.ref1 r
  obtain ⟨its, vals, pl, hz⟩ := I.list hl
  have he := each_refs vals
  have hL : L.length ≤ sizeLine := by simpa using hz
  have her : PySem.W.EachIs (fun v b => ∃ as, Reads s.heap v (enc4 b) as) its L := by
    have : ∀ (L : List (Addr × Mt)) (us : List Value), PySem.W.EachIs (fun (v : Value) (p : Addr × Mt) => v = .ref p.1) us L → (∀ p ∈ L, SqT X.K H p.1 (mv2 p.2)) → PySem.W.EachIs (fun v b => ∃ as, Reads s.heap v (enc4 b) as) us L := by
      intro L
      induction L with
      | nil => intro us h _; cases h; exact .nil
      | cons p L ih =>
        intro us h hs
        cases h with
        | cons h1 h2 =>
          refine .cons ?_ (ih _ h2 fun p hp => hs p (List.mem_cons_of_mem _ hp))
          have hd : Dp X.K H (.ref p.1) (enc4 p) := .tup (hs p List.mem_cons_self) (.cons (.int _) (.cons (.int _) (.cons (.int _) (.cons (.int _) .nil))))
          exact Dp.reads I _ _ _ hd h1
    exact this L its he hm
  refine PySem.W.sorted_data (R := fun (v : Value) (p : Addr × Mt) => v = .ref p.1) (vs := its) (bs := L) (enc := enc4) pl.isList he her
    (PySem.W.AllAlike.of fun b b' => by simp [enc4, PySem.W.alike, PySem.W.alikeAll]) (PySem.W.Sortable.tuples fun b => ⟨_, _, rfl⟩) hL (fun x hx => ?_) fun out hlen hout => ?_
  · have := hr.un
    simp only [enc4, PyData.depth, PyData.depthAll]
    omega
  · have hp := List.mergeSort_perm L (PySem.W.dataLe false enc4)
    have hv := vals_each hout
    have ⟨ep, he'⟩ := PyProof.Rows.sortedAll_at s.heap its (List.toArray out)
    refine ⟨.ref _, upd H (s.heap.objs.size + 1) (.lst _), I.laid (t' := s.toks) (fun _ _ => PyProof.Rows.sortedAll_old) (Nat.le_succ _) ⟨?_, out, ep, hv, he'⟩, rfl, q _ hp (merge_le4 L) _ (I.hok.fresh (Nat.le_succ _))⟩
    simpa [hp.length_eq] using hL
end
end KX
end
section
/-! The text by places, the names of the module, heaps, the promises. -/
namespace K3
open PySem L2 Sat
def topS (i : Nat) : Stmt := PySem.Challenge.pw_satchelmeet_k32_whole_thinned_again.main.body.getD i (.Pass ⟨0, 0, 0, 0⟩)
abbrev s_is_whole : Stmt := topS 6
theorem sc_is_whole : FnScope ["thing"] ["thing"] (defScope s_is_whole) := ⟨rfl, rfl, rfl, by decide +kernel, rfl, by decide +kernel, by decide +kernel⟩
abbrev s_is_within : Stmt := topS 7
theorem sc_is_within : FnScope ["thing", "low", "high"] ["thing", "low", "high"] (defScope s_is_within) := ⟨rfl, rfl, rfl, by decide +kernel, rfl, by decide +kernel, by decide +kernel⟩
abbrev s_are_rooms : Stmt := topS 13
theorem sc_are_rooms : FnScope ["thing", "room"] ["thing"] (defScope s_are_rooms) := ⟨rfl, rfl, rfl, by decide +kernel, rfl, by decide +kernel, by decide +kernel⟩
abbrev s_is_meeting : Stmt := topS 14
theorem sc_is_meeting : FnScope ["thing", "walkers", "one", "other", "when", "many"] ["thing", "walkers"] (defScope s_is_meeting) := ⟨rfl, rfl, rfl, by decide +kernel, rfl, by decide +kernel, by decide +kernel⟩
abbrev s_put_right : Stmt := topS 15
theorem sc_put_right : FnScope ["meeting", "one", "other", "when", "many"] ["meeting"] (defScope s_put_right) := ⟨rfl, rfl, rfl, by decide +kernel, rfl, by decide +kernel, by decide +kernel⟩
abbrev s_meets_two_at_once : Stmt := topS 16
theorem sc_meets_two_at_once : FnScope ["meetings", "known", "one", "other", "when", "many"] ["meetings"] (defScope s_meets_two_at_once) := ⟨rfl, rfl, rfl, by decide +kernel, rfl, by decide +kernel, by decide +kernel⟩
abbrev s_by_when : Stmt := topS 17
theorem sc_by_when : FnScope ["meeting"] ["meeting"] (defScope s_by_when) := ⟨rfl, rfl, rfl, by decide +kernel, rfl, by decide +kernel, by decide +kernel⟩
abbrev s_made_book : Stmt := topS 18
theorem sc_made_book : FnScope ["rooms", "meetings", "meeting"] ["rooms", "meetings"] (defScope s_made_book) := ⟨rfl, rfl, rfl, by decide +kernel, rfl, by decide +kernel, by decide +kernel⟩
abbrev s_is_number_of : Stmt := topS 19
theorem sc_is_number_of : FnScope ["book", "thing"] ["book", "thing"] (defScope s_is_number_of) := ⟨rfl, rfl, rfl, by decide +kernel, rfl, by decide +kernel, by decide +kernel⟩
abbrev s_both_ways : Stmt := topS 20
theorem sc_both_ways : FnScope ["meeting"] ["meeting"] (defScope s_both_ways) := ⟨rfl, rfl, rfl, by decide +kernel, rfl, by decide +kernel, by decide +kernel⟩
abbrev s_need_meeting : Stmt := topS 22
theorem sc_need_meeting : FnScope ["book", "meeting"] ["book", "meeting"] (defScope s_need_meeting) := ⟨rfl, rfl, rfl, by decide +kernel, rfl, by decide +kernel, by decide +kernel⟩
abbrev s_without : Stmt := topS 23
theorem sc_without : FnScope ["book", "meeting", "at", "row"] ["book", "meeting"] (defScope s_without) := ⟨rfl, rfl, rfl, by decide +kernel, rfl, by decide +kernel, by decide +kernel⟩
abbrev s_comings : Stmt := topS 25
theorem sc_comings : FnScope ["book", "sender", "since", "times", "by", "number", "meeting", "giver", "other", "room"] ["book", "sender", "since"] (defScope s_comings) := ⟨rfl, rfl, rfl, by decide +kernel, rfl, by decide +kernel, by decide +kernel⟩
abbrev s_earliest_times : Stmt := topS 26
theorem sc_earliest_times : FnScope ["book", "sender", "since"] ["book", "sender", "since"] (defScope s_earliest_times) := ⟨rfl, rfl, rfl, by decide +kernel, rfl, by decide +kernel, by decide +kernel⟩
abbrev s_chain_by : Stmt := topS 27
theorem sc_chain_by : FnScope ["book", "by", "walker", "found", "number"] ["book", "by", "walker"] (defScope s_chain_by) := ⟨rfl, rfl, rfl, by decide +kernel, rfl, by decide +kernel, by decide +kernel⟩
abbrev s_earliest : Stmt := topS 28
theorem sc_earliest : FnScope ["book", "letter", "sender", "since", "wish", "last", "times", "by"] ["book", "letter"] (defScope s_earliest) := ⟨rfl, rfl, rfl, by decide +kernel, rfl, by decide +kernel, by decide +kernel⟩
abbrev s_unlike_at : Stmt := topS 30
theorem sc_unlike_at : FnScope ["one", "other", "walker", "time"] ["one", "other"] (defScope s_unlike_at) := ⟨rfl, rfl, rfl, by decide +kernel, rfl, by decide +kernel, by decide +kernel⟩
abbrev s_parting : Stmt := topS 31
theorem sc_parting : FnScope ["book", "other", "sender", "told"] ["book", "other"] (defScope s_parting) := ⟨rfl, rfl, rfl, by decide +kernel, rfl, by decide +kernel, by decide +kernel⟩
abbrev s_thinned : Stmt := topS 32
theorem sc_thinned : FnScope ["book", "left", "number", "less"] ["book"] (defScope s_thinned) := ⟨rfl, rfl, rfl, by decide +kernel, rfl, by decide +kernel, by decide +kernel⟩
abbrev s_given_on : Stmt := topS 34
theorem sc_given_on : FnScope ["book", "letter", "numbers", "walker", "since", "wish", "last", "found", "number", "one", "other", "when", "many"] ["book", "letter", "numbers"] (defScope s_given_on) := ⟨rfl, rfl, rfl, by decide +kernel, rfl, by decide +kernel, by decide +kernel⟩
abbrev s_arrival : Stmt := topS 35
theorem sc_arrival : FnScope ["book", "letter", "chain"] ["book", "letter", "chain"] (defScope s_arrival) := ⟨rfl, rfl, rfl, by decide +kernel, rfl, by decide +kernel, by decide +kernel⟩
abbrev s_lost : Stmt := topS 37
theorem sc_lost : FnScope ["book", "letters", "meeting", "left", "found", "number", "letter"] ["book", "letters", "meeting"] (defScope s_lost) := ⟨rfl, rfl, rfl, by decide +kernel, rfl, by decide +kernel, by decide +kernel⟩
abbrev s_purse : Stmt := topS 39
theorem sc_purse : FnScope ["_law_script", "_law_k", "_law_cell", "_law_left"] ["_law_script", "_law_k"] (defScope s_purse) := ⟨rfl, rfl, rfl, by decide +kernel, rfl, by decide +kernel, by decide +kernel⟩
abbrev s_take : Stmt := topS 40
theorem sc_take : FnScope ["_law_purse_here", "_law_many", "_law_digit", "_law_mixed"] ["_law_purse_here", "_law_many"] (defScope s_take) := ⟨rfl, rfl, rfl, by decide +kernel, rfl, by decide +kernel, by decide +kernel⟩
abbrev s_rooms : Stmt := topS 41
theorem sc_rooms : FnScope ["_law_purse_here", "_law_walkers", "_law_rooms_here", "_law_walker", "_law_room"] ["_law_purse_here", "_law_walkers"] (defScope s_rooms) := ⟨rfl, rfl, rfl, by decide +kernel, rfl, by decide +kernel, by decide +kernel⟩
abbrev s_step : Stmt := topS 42
theorem sc_step : FnScope ["_law_purse_here", "_law_way"] ["_law_purse_here"] (defScope s_step) := ⟨rfl, rfl, rfl, by decide +kernel, rfl, by decide +kernel, by decide +kernel⟩
abbrev s_meetings : Stmt := topS 43
theorem sc_meetings : FnScope ["_law_purse_here", "_law_walkers", "_law_most", "_law_found", "_law_when", "_law_busy", "_law_k", "_law_one", "_law_other", "_law_gap", "_law_passed", "_law_late", "_law_then", "_law_low", "_law_high", "_law_room"] ["_law_purse_here", "_law_walkers", "_law_most"] (defScope s_meetings) := ⟨rfl, rfl, rfl, by decide +kernel, rfl, by decide +kernel, by decide +kernel⟩
abbrev s_book : Stmt := topS 44
theorem sc_book : FnScope ["_law_purse_here", "_law_most_walkers", "_law_most_meetings", "_law_walkers", "_law_most"] ["_law_purse_here", "_law_most_walkers", "_law_most_meetings"] (defScope s_book) := ⟨rfl, rfl, rfl, by decide +kernel, rfl, by decide +kernel, by decide +kernel⟩
abbrev s_far : Stmt := topS 45
theorem sc_far : FnScope ["_law_purse_here", "_law_high"] ["_law_purse_here"] (defScope s_far) := ⟨rfl, rfl, rfl, by decide +kernel, rfl, by decide +kernel, by decide +kernel⟩
abbrev s_time : Stmt := topS 46
theorem sc_time : FnScope ["_law_purse_here", "_law_book_here", "_law_later", "_law_way", "_law_at"] ["_law_purse_here", "_law_book_here", "_law_later"] (defScope s_time) := ⟨rfl, rfl, rfl, by decide +kernel, rfl, by decide +kernel, by decide +kernel⟩
abbrev s_letter : Stmt := topS 47
theorem sc_letter : FnScope ["_law_purse_here", "_law_book_here", "_law_walkers", "_law_sender", "_law_wish", "_law_since"] ["_law_purse_here", "_law_book_here"] (defScope s_letter) := ⟨rfl, rfl, rfl, by decide +kernel, rfl, by decide +kernel, by decide +kernel⟩
abbrev s_comes : Stmt := topS 48
theorem sc_comes : FnScope ["_law_book_here", "_law_letter_here", "_law_chain"] ["_law_book_here", "_law_letter_here"] (defScope s_comes) := ⟨rfl, rfl, rfl, by decide +kernel, rfl, by decide +kernel, by decide +kernel⟩
abbrev s_other_end : Stmt := topS 49
theorem sc_other_end : FnScope ["_law_book_here", "_law_most", "_law_some", "_law_meeting"] ["_law_book_here"] (defScope s_other_end) := ⟨rfl, rfl, rfl, by decide +kernel, rfl, by decide +kernel, by decide +kernel⟩
abbrev s_again : Stmt := topS 50
theorem sc_again : FnScope ["_law_book_here", "_law_left", "_law_told"] ["_law_book_here"] (defScope s_again) := ⟨rfl, rfl, rfl, by decide +kernel, rfl, by decide +kernel, by decide +kernel⟩
abbrev s_law : Stmt := topS 51
theorem sc_law : FnScope ["_law_script", "_law_head", "_law_book_here", "_law_left", "_law_letters", "_law_k", "_law_drawn", "_law_sender", "_law_since", "_law_wish", "_law_last", "_law_letter_here"] ["_law_script"] (defScope s_law) := ⟨rfl, rfl, rfl, by decide +kernel, rfl, by decide +kernel, by decide +kernel⟩

/-! ### a def that stands in the module, with its promise -/
structure Cal (P : Program) (w : World) (K : PySem.W.Frag) (mg : Str → Option Value) (base : Heap) (nm : Str) (k : Nat) (ps : List Str) (sp : Sp) : Prop where
  ex : ∃ (f : Addr) (fd : FuncData), FnOk P w K mg base CX0 k f fd ps sp ∧ mg nm = some (.ref f) ∧ PySem.W.keepIn K (.ref f) = true ∧ Binds K fd ps []
theorem pe_cal {X : Cx} {nm : Str} {k j : Nat} {ps : List Str} {sp : Sp} {e : Expr} {es : List Expr} {p pos : Pos} {t : TA} (C : Cal X.prog X.w X.K X.mg X.base nm k ps sp) (hr : Room j X.A) (ha : PA X (e :: es) t) (hj : k ≤ j := by decide) (hg : Gl X nm := by rfl)
    (hdb : (nm == ("__debug__" : Str)) = false := by decide) (he : starEach (e :: es) X.env = (false, eval e X.env) :: starEach es X.env := by rfl) (hpl : (backTo pos (starEach es X.env)).any (·.1) = false := by rfl) :
    PE X (.Call (.Name nm p) (e :: es) [] pos) (tCall sp [] E0 t) := by
  obtain ⟨f, fd, F, hm, hk, hb⟩ := C.ex
  exact pe_call F (hr.mono hj) hg hm hk hb .nil pass0 ha hdb he hpl
theorem pe_cst {X : Cx} {nm : Str} {n : Int} {pos : Pos} (h : ∃ t, X.mg nm = some (.int n t)) (hg : Gl X nm := by rfl) (hd : (nm == ("__debug__" : Str)) = false := by decide) : PE X (.Name nm pos) (tC (.int n)) := by
  obtain ⟨t, h⟩ := h
  exact pe_glob hg h ⟨_, rfl⟩ hd
theorem pg_tupK {X : Cx} {K : PySem.W.Frag} (hK : X.K = K) {es : List Expr} {k : Nat} {pos : Pos} {t : TGs} {n : Nat} (hc : X.calm = true) (h : PGs X es t)
    (hn : (assignEach es X.env).length = n := by rfl) (hst : (assignEach es X.env).findIdx? (·.1) = none := by rfl) : PG X (.Tuple es k pos) (gTup K n t) := hK ▸ pg_tup hc h hn hst
theorem ix_tupK {X : Cx} {K : PySem.W.Frag} (hK : X.K = K) : IxR X (rIxT K) := hK ▸ ix_tup
structure Txt (P : Program) (w : World) (K : PySem.W.Frag) (mg : Str → Option Value) (fk : Addr) : Prop where
  isinstance : mg "isinstance" = none
  int : mg "int" = none
  bool : mg "bool" = none
  list : mg "list" = none
  tuple : mg "tuple" = none
  len : mg "len" = none
  all : mg "all" = none
  min : mg "min" = none
  max : mg "max" = none
  sorted : mg "sorted" = none
  range : mg "range" = none
  enumerate : mg "enumerate" = none
  MOST_TIME : ∃ t, mg "MOST_TIME" = some (.int 1000000000 t)
  MOST_WALKERS : ∃ t, mg "MOST_WALKERS" = some (.int 12 t)
  MOST_ROOM : ∃ t, mg "MOST_ROOM" = some (.int 99 t)
  MOST_MEETINGS : ∃ t, mg "MOST_MEETINGS" = some (.int 60 t)
  MOST_MANY : ∃ t, mg "MOST_MANY" = some (.int 99 t)
  g_by_when : mg "by_when" = some (.ref fk)
  key : KX.IsKey P w K fk

/-! ### heaps -/
/-- all that was tracked but the object at p is as it was -/
def Kp (p : Addr) (H H' : Hp) : Prop := ∀ q o, q ≠ p → H q = some o → H' q = some o
theorem Kp.refl (p : Addr) (H : Hp) : Kp p H H := fun _ _ _ h => h
theorem Kp.trans {p : Addr} {H H1 H2 : Hp} (a : Kp p H H1) (b : Kp p H1 H2) : Kp p H H2 := fun q o n h => b q o n (a q o n h)
theorem Kp.of {p : Addr} {H H' : Hp} (a : Same H H') : Kp p H H' := fun q o _ h => a q o h
theorem Kp.updP {p : Addr} {H H' : Hp} {o : HO} (a : Kp p H H') : Kp p H (upd H' p o) := fun q u n h => by rw [upd_ne n]; exact a q u n h
theorem Kp.new {p q : Addr} {H H' : Hp} {o : HO} (a : Kp p H H') (h : H' q = none) : Kp p H (upd H' q o) := fun r u n e => by
  rw [upd_ne (ne_of_none (a r u n e) h)]
  exact a r u n e
theorem same_new {H H' : Hp} {p : Addr} {o : HO} (s : Same H H') (h : H' p = none) : Same H (upd H' p o) := fun q u e => by
  rw [upd_ne (ne_of_none (s q u e) h)]
  exact s q u e
/-- a new object of ours is changed -/
theorem same_own {H H' : Hp} {p : Addr} {o : HO} (s : Same H H') (h : H p = none) : Same H (upd H' p o) := fun q u e => by
  rw [upd_ne (ne_of_none e h)]
  exact s q u e
theorem same_upd {H : Hp} {p : Addr} {o : HO} (h : H p = none) : Same H (upd H p o) := same_new (Same.refl H) h
theorem up_keep {H : Hp} {p q : Addr} {o u : HO} (e : H q = some u) (h : H p = none) : upd H p o q = some u := by
  rw [upd_ne (ne_of_none e h)]
  exact e
theorem up_oth {H : Hp} {p q : Addr} {o u v : HO} (e : H q = some u) (h : H p = some v) (d : u ≠ v) : upd H p o q = some u := by
  rw [upd_ne (ne_of e h d)]
  exact e
theorem none_upd {H : Hp} {p q : Addr} {o : HO} (h : upd H p o q = none) : H q = none ∧ q ≠ p := by
  unfold upd at h
  by_cases e : q = p
  · rw [if_pos e] at h
    cases h
  · rw [if_neg e] at h
    exact ⟨h, e⟩
theorem Same.tup {K : PySem.W.Frag} {H : Hp} {a : Addr} {xs : List V} (h : H a = some (.tup xs)) : SqT K H a xs := SqT.of h

/-! ### books and letters in the heap -/
abbrev iv (x : Int) : V := .int x
/-- a tuple of meetings -/
def MtsT (H : Hp) (q : Addr) (ms : List Mt) : Prop := ∃ ts : List (Addr × Mt), H q = some (.tup (ts.map KX.rf)) ∧ (∀ p ∈ ts, H p.1 = some (.tup (KX.mv p.2))) ∧ ts.map (·.2) = ms
def BookAt (H : Hp) (b : Addr) (R : List Int) (ms : List Mt) : Prop := ∃ r q : Addr, H b = some (.tup [.ref r, .ref q]) ∧ H r = some (.tup (R.map iv)) ∧ MtsT H q ms
structure RoomsOk (R : List Int) : Prop where
  one : 1 ≤ R.length
  most : R.length ≤ 12
  ok : ∀ r ∈ R, 0 ≤ r ∧ r ≤ 99
/-- tuples are kept -/
def TupKeep (H H' : Hp) : Prop := ∀ q xs, H q = some (.tup xs) → H' q = some (.tup xs)
theorem TupKeep.of {H H' : Hp} (s : Same H H') : TupKeep H H' := fun q xs h => s q _ h
theorem TupKeep.kp {p : Addr} {H H' : Hp} {xs : List V} (k : Kp p H H') (h : H p = some (.lst xs)) : TupKeep H H' := fun q ys e => k q _ (ne_of e h (by intro z; cases z)) e
theorem TupKeep.trans {H H1 H2 : Hp} (a : TupKeep H H1) (b : TupKeep H1 H2) : TupKeep H H2 := fun q xs h => b q xs (a q xs h)
theorem MtsT.keep {H H' : Hp} {q : Addr} {ms : List Mt} (h : MtsT H q ms) (k : TupKeep H H') : MtsT H' q ms :=
  let ⟨ts, h1, h2, h3⟩ := h
  ⟨ts, k _ _ h1, fun p hp => k _ _ (h2 p hp), h3⟩
theorem BookAt.keep {H H' : Hp} {b : Addr} {R : List Int} {ms : List Mt} (h : BookAt H b R ms) (k : TupKeep H H') : BookAt H' b R ms :=
  let ⟨r, q, h1, h2, h3⟩ := h
  ⟨r, q, k _ _ h1, k _ _ h2, h3.keep k⟩
theorem BookAt.same {H H' : Hp} {b : Addr} {R : List Int} {ms : List Mt} (h : BookAt H b R ms) (s : Same H H') : BookAt H' b R ms := h.keep (.of s)
abbrev oi : Option Int → V
  | none => .non
  | some t => .int t
abbrev oj : Option Nat → V
  | none => .non
  | some j => .int ((j : Nat) : Int)
/-- the list of a function of the walkers -/
def tab {α : Type} (n : Nat) (g : α → V) (f : Nat → α) : List V := (List.range n).map fun x => g (f x)
theorem tab_len {α : Type} {n : Nat} {g : α → V} {f : Nat → α} : (tab n g f).length = n := by simp [tab]
theorem tab_get {α : Type} {n x : Nat} {g : α → V} {f : Nat → α} (h : x < n) : (tab n g f)[x]? = some (g (f x)) := by
  simp [tab, h]
theorem tab_set {α : Type} {n x : Nat} {g : α → V} {f : Nat → α} {y : α} (h : x < n) : (tab n g f).set x (g y) = tab n g (fun z => if z = x then y else f z) := by
  apply List.ext_getElem?
  intro i
  by_cases hi : i < n
  · by_cases e : x = i
    · subst e
      rw [List.getElem?_set_self (by rw [tab_len]; exact h), tab_get h]
      simp
    · rw [List.getElem?_set_ne e, tab_get hi, tab_get hi]
      simp [Ne.symm e]
  · rw [List.getElem?_eq_none (by rw [List.length_set, tab_len]; omega), List.getElem?_eq_none (by rw [tab_len]; omega)]
/-- a letter's tuple -/
def lv (s : Nat) (z : Int) (x : Nat) (t : Int) : List V := [.int s, .int z, .int x, .int t]
structure Let where
  s : Nat
  z : Int
  x : Nat
  t : Int
def Let.v (l : Let) : List V := lv l.s l.z l.x l.t
/-- a list of letters -/
def LetsL (H : Hp) (p : Addr) (Ls : List Let) : Prop := ∃ ts : List (Addr × Let), H p = some (.lst (ts.map KX.rf)) ∧ (∀ q ∈ ts, H q.1 = some (.tup q.2.v)) ∧ ts.map (·.2) = Ls
theorem LetsL.same {H H' : Hp} {p : Addr} {Ls : List Let} (h : LetsL H p Ls) (s : Same H H') : LetsL H' p Ls :=
  let ⟨ts, h1, h2, h3⟩ := h
  ⟨ts, s _ _ h1, fun q hq => s _ _ (h2 q hq), h3⟩
def PurseAt (H : Hp) (p : Addr) : Prop := ∃ x y c : Int, H p = some (.lst [.int x, .int y, .int c])

/-! ### the promises -/
def spWhole : Sp := fun vs H Q _ => ∃ n : Int, vs = [.int n] ∧ Q (.bl true) H
def spWithin : Sp := fun vs H Q _ => ∃ x lo hi : Int, vs = [.int x, .int lo, .int hi] ∧ Q (.bl (decide (lo ≤ x ∧ x ≤ hi))) H
def spRoomsOk : Sp := fun vs H Q _ => ∃ (a : Addr) (R : List Int), vs = [.ref a] ∧ H a = some (.lst (R.map iv)) ∧ RoomsOk R ∧ ∀ H', Same H H' → Q (.bl true) H'
def spIsMt : Sp := fun vs H Q _ => ∃ (t : Addr) (n : Nat) (m : Mt), vs = [.ref t, .int ((n : Nat) : Int)] ∧ H t = some (.tup (KX.mv m)) ∧ Fit n m ∧ Q (.bl true) H
def spRight : Sp := fun vs H Q _ => ∃ (t : Addr) (m : Mt), vs = [.ref t] ∧ H t = some (.tup (KX.mv m)) ∧ ∀ p, H p = none → Q (.ref p) (upd H p (.tup (KX.mv (right m))))
def spClash : Sp := fun vs H Q _ => ∃ (l : Addr) (L : List (Addr × Mt)) (n : Nat), vs = [.ref l] ∧ H l = some (.lst (L.map KX.rf)) ∧ (∀ p ∈ L, H p.1 = some (.tup (KX.mv p.2))) ∧ Raw n (L.map (·.2)) ∧ ∀ H', Same H H' → Q (.bl false) H'
def spMade : Sp := fun vs H Q _ => ∃ (r l : Addr) (R : List Int) (L : List (Addr × Mt)), vs = [.ref r, .ref l] ∧ H r = some (.lst (R.map iv)) ∧ RoomsOk R ∧ H l = some (.lst (L.map KX.rf)) ∧ (∀ p ∈ L, H p.1 = some (.tup (KX.mv p.2))) ∧ Raw R.length (L.map (·.2)) ∧
  ∀ H' b ms', Same H H' → ms'.Perm ((L.map (·.2)).map right) → ms'.Pairwise Le → BookAt H' b R ms' → Q (.ref b) H'
def spIsNum : Sp := fun vs H Q _ => ∃ (b : Addr) (R : List Int) (ms : List Mt) (k : Nat), vs = [.ref b, .int ((k : Nat) : Int)] ∧ BookAt H b R ms ∧ k < ms.length ∧ Q (.bl true) H
def spBoth : Sp := fun vs H Q _ => ∃ (t : Addr) (m : Mt), vs = [.ref t] ∧ H t = some (.tup (KX.mv m)) ∧
  ∀ H' l t1 t2, Same H H' → H l = none → H' l = some (.lst [.ref t1, .ref t2]) → H' t1 = some (.tup [.int m.a, .int m.b]) → H' t2 = some (.tup [.int m.b, .int m.a]) → Q (.ref l) H'
def spNeed : Sp := fun vs H Q _ => ∃ (b : Addr) (R : List Int) (ms : List Mt) (k : Nat), vs = [.ref b, .int ((k : Nat) : Int)] ∧ BookAt H b R ms ∧ k < ms.length ∧ Q .non H
def spWithout : Sp := fun vs H Q _ => ∃ (b : Addr) (R : List Int) (ms : List Mt) (k : Nat), vs = [.ref b, .int ((k : Nat) : Int)] ∧ BookAt H b R ms ∧ RoomsOk R ∧ WF R.length ms ∧ k < ms.length ∧ ∀ H' c, Same H H' → BookAt H' c R (ms.eraseIdx k) → Q (.ref c) H'
def spComings : Sp := fun vs H Q _ => ∃ (b : Addr) (R : List Int) (ms : List Mt) (s : Nat) (z : Int), vs = [.ref b, .int ((s : Nat) : Int), .int z] ∧ BookAt H b R ms ∧ R.length ≤ 12 ∧ WF R.length ms ∧ s < R.length ∧
  ∀ H' p t y, Same H H' → H' p = some (.tup [.ref t, .ref y]) → H' t = some (.lst (tab R.length oi (ET ms s z))) → H' y = some (.lst (tab R.length oj (comB ms s z ms.length))) → Q (.ref p) H'
def spTimes : Sp := fun vs H Q _ => ∃ (b : Addr) (R : List Int) (ms : List Mt) (s : Nat) (z : Int), vs = [.ref b, .int ((s : Nat) : Int), .int z] ∧ BookAt H b R ms ∧ R.length ≤ 12 ∧ WF R.length ms ∧ s < R.length ∧
  ∀ H' t, Same H H' → H' t = some (.lst (tab R.length oi (ET ms s z))) → Q (.ref t) H'
def spChainBy : Sp := fun vs H Q _ => ∃ (b y : Addr) (R : List Int) (ms : List Mt) (s x : Nat) (z t : Int), vs = [.ref b, .ref y, .int ((x : Nat) : Int)] ∧ BookAt H b R ms ∧ WF R.length ms ∧ s < R.length ∧ x < R.length ∧
  H y = some (.lst (tab R.length oj (comB ms s z ms.length))) ∧ ET ms s z x = some t ∧ ∀ H' l c, Same H H' → H' l = some (.lst (c.map fun j : Nat => V.int ((j : Nat) : Int))) → c.length ≤ 60 → go ms s z c = some (x, t) → Q (.ref l) H'
def spEarliest : Sp := fun vs H Q _ => ∃ (b a : Addr) (R : List Int) (ms : List Mt) (l : Let), vs = [.ref b, .ref a] ∧ BookAt H b R ms ∧ R.length ≤ 12 ∧ WF R.length ms ∧ l.s < R.length ∧ l.x < R.length ∧ H a = some (.tup l.v) ∧
  (comes ms l.s l.z l.x l.t = false → ∀ H', Same H H' → Q .non H') ∧
  (∀ t H' p c, comes ms l.s l.z l.x l.t = true → ET ms l.s l.z l.x = some t → Same H H' → H' p = some (.lst (c.map fun j : Nat => V.int ((j : Nat) : Int))) → c.length ≤ 60 → go ms l.s l.z c = some (l.x, t) → Q (.ref p) H')
def spUnlike : Sp := fun vs H Q _ => ∃ (p q : Addr) (n : Nat) (f g : Tm), vs = [.ref p, .ref q] ∧ n ≤ 12 ∧ H p = some (.lst (tab n oi f)) ∧ H q = some (.lst (tab n oi g)) ∧
  ((∀ x, x < n → f x = g x) → ∀ H', Same H H' → Q .non H') ∧
  (∀ H' a x t, x < n → f x ≠ g x → (f x = some t ∨ g x = some t) → (∀ u, f x = some u ∨ g x = some u → t ≤ u) → Same H H' → H' a = some (.tup [.int ((x : Nat) : Int), .int t]) → Q (.ref a) H')
def spParting : Sp := fun vs H Q _ => ∃ (b c : Addr) (R : List Int) (ms ms' : List Mt), vs = [.ref b, .ref c] ∧ BookAt H b R ms ∧ BookAt H c R ms' ∧ R.length ≤ 12 ∧ WF R.length ms ∧ WF R.length ms' ∧
  (Al R.length ms ms' → ∀ H', Same H H' → Q .non H') ∧
  (∀ H' a s x t, Tells R.length ms ms' s x t → Same H H' → H' a = some (.tup (lv s 0 x t)) → Q (.ref a) H')
def spThinned : Sp := fun vs H Q _ => ∃ (b : Addr) (R : List Int) (ms : List Mt), vs = [.ref b] ∧ BookAt H b R ms ∧ RoomsOk R ∧ WF R.length ms ∧
  ∀ H' p c l L Ls, Same H H' → H' p = some (.tup [.ref c, .ref l]) → BookAt H' c R L → Thinned R.length ms L → LetsL H' l Ls → Ls.length = L.length →
    (∀ k m, Ls[k]? = some m → m.z = 0 ∧ Tells R.length L (L.eraseIdx k) m.s m.x m.t) → Q (.ref p) H'
def spGiven : Sp := fun vs H Q _ => ∃ (b a p : Addr) (R : List Int) (ms : List Mt) (l : Let) (c : List Nat) (y : Nat) (t : Int), vs = [.ref b, .ref a, .ref p] ∧ BookAt H b R ms ∧ WF R.length ms ∧ H a = some (.tup l.v) ∧ H p = some (.lst (c.map fun j : Nat => V.int ((j : Nat) : Int))) ∧ c.length ≤ 60 ∧
  go ms l.s l.z c = some (y, t) ∧ ∀ H' q r pre, Same H H' → H' q = some (.lst (pre ++ [.ref r])) → H' r = some (.tup [.int ((y : Nat) : Int), .int t]) → Q (.ref q) H'
def spArrival : Sp := fun vs H Q _ => ∃ (b a p : Addr) (R : List Int) (ms : List Mt) (l : Let) (c : List Nat) (y : Nat) (t : Int), vs = [.ref b, .ref a, .ref p] ∧ BookAt H b R ms ∧ WF R.length ms ∧ H a = some (.tup l.v) ∧ H p = some (.lst (c.map fun j : Nat => V.int ((j : Nat) : Int))) ∧ c.length ≤ 60 ∧
  go ms l.s l.z c = some (y, t) ∧ ∀ H', Same H H' → Q (.int t) H'
/-- the letter comes in the book, and not without the k-th meeting -/
def lostB (ms : List Mt) (k : Nat) (l : Let) : Bool := comes ms l.s l.z l.x l.t && !comes (ms.eraseIdx k) l.s l.z l.x l.t
def lostAt (ms : List Mt) (k : Nat) (Ls : List Let) (i : Nat) : Bool := match Ls[i]? with
  | some l => lostB ms k l
  | none => false
def spLost : Sp := fun vs H Q _ => ∃ (b a : Addr) (R : List Int) (ms : List Mt) (Ls : List Let) (k : Nat), vs = [.ref b, .ref a, .int ((k : Nat) : Int)] ∧ BookAt H b R ms ∧ RoomsOk R ∧ WF R.length ms ∧ k < ms.length ∧ LetsL H a Ls ∧ Ls.length ≤ 60 ∧ (∀ l ∈ Ls, l.s < R.length ∧ l.x < R.length) ∧
  ∀ H' p, Same H H' → H' p = some (.lst (((List.range Ls.length).filter (lostAt ms k Ls)).map fun i : Nat => V.int ((i : Nat) : Int))) → Q (.ref p) H'
def spPurse (K : PySem.W.Frag) : Sp := fun vs H Q _ => ∃ (a : Addr) (ns : List Int) (k : Nat), vs = [.ref a, .int ((k : Nat) : Int)] ∧ SqL K H a (ns.map V.int) ∧ ∀ H' p, Same H H' → H p = none → PurseAt H' p → Q (.ref p) H'
def spTake : Sp := fun vs H Q _ => ∃ (p : Addr) (n : Int), vs = [.ref p, .int n] ∧ 0 < n ∧ n < 1073741824 ∧ PurseAt H p ∧ ∀ d H', 0 ≤ d → d < n → Kp p H H' → PurseAt H' p → Q (.int d) H'
def spLRooms : Sp := fun vs H Q _ => ∃ (p : Addr) (n : Nat), vs = [.ref p, .int ((n : Nat) : Int)] ∧ n ≤ 12 ∧ PurseAt H p ∧ ∀ H' r (R : List Int), Kp p H H' → PurseAt H' p → H' r = some (.tup (R.map iv)) → R.length = n → (∀ x ∈ R, 0 ≤ x ∧ x ≤ 99) → Q (.ref r) H'
def spStep : Sp := fun vs H Q _ => ∃ p : Addr, vs = [.ref p] ∧ PurseAt H p ∧ ∀ d H', 0 ≤ d → d ≤ 16000000 → Kp p H H' → PurseAt H' p → Q (.int d) H'
def spLMeet : Sp := fun vs H Q _ => ∃ (p : Addr) (n k : Nat), vs = [.ref p, .int ((n : Nat) : Int), .int ((k : Nat) : Int)] ∧ (2 ≤ n ∨ k = 0) ∧ n ≤ 12 ∧ k ≤ 22 ∧ PurseAt H p ∧ ∀ H' q ms, Kp p H H' → PurseAt H' p → MtsT H' q ms → WF n ms → Q (.ref q) H'
def spLBook : Sp := fun vs H Q _ => ∃ (p : Addr) (k : Nat), vs = [.ref p, .int 8, .int ((k : Nat) : Int)] ∧ k ≤ 22 ∧ PurseAt H p ∧ ∀ H' b R ms, Kp p H H' → PurseAt H' p → BookAt H' b R ms → RoomsOk R → WF R.length ms → Q (.ref b) H'
def spFar : Sp := fun vs H Q _ => ∃ p : Addr, vs = [.ref p] ∧ PurseAt H p ∧ ∀ d H', Kp p H H' → PurseAt H' p → Q (.int d) H'
def spTime : Sp := fun vs H Q _ => ∃ (p b : Addr) (R : List Int) (ms : List Mt) (j : Nat), vs = [.ref p, .ref b, .int ((j : Nat) : Int)] ∧ j < 2 ∧ PurseAt H p ∧ BookAt H b R ms ∧ ms.length ≤ 60 ∧ ∀ d H', Kp p H H' → PurseAt H' p → Q (.int d) H'
def spLetter : Sp := fun vs H Q _ => ∃ (p b : Addr) (R : List Int) (ms : List Mt), vs = [.ref p, .ref b] ∧ PurseAt H p ∧ BookAt H b R ms ∧ 1 ≤ R.length ∧ R.length ≤ 12 ∧ ms.length ≤ 60 ∧ ∀ H' a (l : Let), Kp p H H' → PurseAt H' p → l.s < R.length → l.x < R.length → H' a = some (.tup l.v) → Q (.ref a) H'
def comesI (ms : List Mt) (l : Let) : Int := if comes ms l.s l.z l.x l.t = true then (ET ms l.s l.z l.x).getD 0 else -1
def spComes : Sp := fun vs H Q _ => ∃ (b a : Addr) (R : List Int) (ms : List Mt) (l : Let), vs = [.ref b, .ref a] ∧ BookAt H b R ms ∧ R.length ≤ 12 ∧ WF R.length ms ∧ l.s < R.length ∧ l.x < R.length ∧ H a = some (.tup l.v) ∧ ∀ H', Same H H' → Q (.int (comesI ms l)) H'
def spOther : Sp := fun vs H Q _ => ∃ (b : Addr) (R : List Int) (ms : List Mt), vs = [.ref b] ∧ BookAt H b R ms ∧ RoomsOk R ∧ WF R.length ms ∧ ∀ H' c ms', Same H H' → BookAt H' c R.reverse ms' → WF R.length ms' → Q (.ref c) H'
def spAgain : Sp := fun vs H Q _ => ∃ (b : Addr) (R : List Int) (ms : List Mt), vs = [.ref b] ∧ BookAt H b R ms ∧ RoomsOk R ∧ WF R.length ms ∧ ∀ H', Same H H' → Q (.bl true) H'
def spLaw (K : PySem.W.Frag) : Sp := fun vs H Q _ => ∃ (a : Addr) (ns : List Int), vs = [.ref a] ∧ SqL K H a (ns.map V.int) ∧ ns.length ≤ 63 ∧ ∀ H', Q (.bl true) H'
end K3
end
section
namespace K3
open PySem L2 Sat PyProof.Rows
section
variable {P : Program} {w : World} {K : PySem.W.Frag} {mg : Str → Option Value} {base : Heap} {fk : Addr}
theorem ok_is_whole {f : Addr} {fd : FuncData} (F : Fun K "is_whole" "is_whole" s_is_whole f fd) (T : Txt P w K mg fk) : FnOk P w K mg base CX0 1 f fd ["thing"] spWhole := by
  refine F.ok sc_is_whole (fun vs H Q E h => ?_) (fun cdv A outer s H vs Q E hr h => ?_)
  · obtain ⟨n, rfl, _⟩ := h
    rfl
  · obtain ⟨n, rfl, k⟩ := h
    refine ⟨_, (pss_one (ps_ret (pe_and (pe_callB call_isi (by rfl) T.isinstance boot_isinstance (pa_cons (pv 0) (pa_cons (pe_bltn (v := .ty "int") (by rfl) T.int boot_int rfl) pa_nil))) (pe_one (pe_not (pe_callB call_isi (by rfl) T.isinstance boot_isinstance (pa_cons (pv 0) (pa_cons (pe_bltn (v := .ty "bool") (by rfl) T.bool boot_bool rfl) pa_nil)))))))), ?_⟩
    refine ⟨_, rfl, .int n, .ty "int", .type "int", .type "int", true, rfl, .ty _, .base (.int n), kit_ty (by decide +kernel), true, rfl, iteT ?_⟩
    exact ⟨_, rfl, .int n, .ty "bool", .type "int", .type "bool", false, rfl, .ty _, .base (.int n), kit_ty (by decide +kernel), false, rfl, k⟩
theorem ok_is_within {f : Addr} {fd : FuncData} (F : Fun K "is_within" "is_within" s_is_within f fd) (T : Txt P w K mg fk) (C_is_whole : Cal P w K mg base "is_whole" 1 ["thing"] spWhole) : FnOk P w K mg base CX0 2 f fd ["thing", "low", "high"] spWithin := by
  refine F.ok sc_is_within (fun vs H Q E h => ?_) (fun cdv A outer s H vs Q E hr h => ?_)
  · obtain ⟨x, lo, hi, rfl, _⟩ := h
    rfl
  · obtain ⟨x, lo, hi, rfl, k⟩ := h
    refine ⟨_, (pss_one (ps_ret (pe_and (pe_cal C_is_whole hr (pa_cons (pv 0) pa_nil)) (pe_one (pe_chain op_le op_le (pv 1) (pv 0) (pv 2)))))), ?_⟩
    refine ⟨_, rfl, x, rfl, true, rfl, iteT ?_⟩
    refine ⟨_, rfl, _, rfl, _, _, rfl, rfl, _, rfl, ?_⟩
    by_cases h1 : lo ≤ x
    · rw [decide_eq_true h1]
      refine iteT ⟨_, rfl, _, _, rfl, rfl, ?_⟩
      have e : decide (lo ≤ x ∧ x ≤ hi) = decide (x ≤ hi) := by simp [h1]
      rw [e] at k
      exact k
    · rw [decide_eq_false h1]
      refine iteF ?_
      have e : decide (lo ≤ x ∧ x ≤ hi) = false := by simp [h1]
      rw [e] at k
      exact k
theorem ok_put_right {f : Addr} {fd : FuncData} (F : Fun K "put_right" "put_right" s_put_right f fd) (T : Txt P w K mg fk) : FnOk P w K mg base CX0 1 f fd ["meeting"] spRight := by
  refine F.ok sc_put_right (fun vs H Q E h => ?_) (fun cdv A outer s H vs Q E hr h => ?_)
  · obtain ⟨t, m, rfl, _⟩ := h
    rfl
  · obtain ⟨t, m, rfl, ht, k⟩ := h
    refine ⟨_, (pss_cons (ps_asg (pv 0) (pg_tup rfl (pgs_cons (pg_name (i := 1) sc_put_right.nd rfl (Or.inl rfl)) (pgs_cons (pg_name (i := 2) sc_put_right.nd rfl (Or.inl rfl)) (pgs_cons (pg_name (i := 3) sc_put_right.nd rfl (Or.inl rfl)) (pgs_cons (pg_name (i := 4) sc_put_right.nd rfl (Or.inl rfl)) pgs_nil))))))
      (pss_one (ps_ret (pe_tup (pa_cons (pe_callB (call_min2 rfl) (by rfl) T.min boot_min (pa_cons (pv 1) (pa_cons (pv 2) pa_nil))) (pa_cons (pe_callB (call_max2 rfl) (by rfl) T.max boot_max (pa_cons (pv 1) (pa_cons (pv 2) pa_nil))) (pa_cons (pv 3) (pa_cons (pv 4) pa_nil)))))))), ?_⟩
    refine ⟨_, rfl, t, _, rfl, SqT.of ht, rfl, _, _, rfl, _, _, rfl, _, _, rfl, _, _, rfl, rfl, ?_⟩
    refine ⟨_, rfl, _, rfl, _, _, rfl, _, rfl, _, rfl, _, _, rfl, _, rfl, _, rfl, (by show 4 ≤ sizeLine; decide), fun p hp => ?_⟩
    have e : (KX.mv (right m)) = [V.int (if (m.b : Int) < m.a then (m.b : Int) else m.a), V.int (if (m.b : Int) > m.a then (m.b : Int) else m.a), .int m.w, .int m.m] := by
      have e1 : ((min m.a m.b : Nat) : Int) = if (m.b : Int) < m.a then (m.b : Int) else m.a := by split <;> omega
      have e2 : ((max m.a m.b : Nat) : Int) = if (m.b : Int) > m.a then (m.b : Int) else m.a := by split <;> omega
      rw [← e1, ← e2]
      rfl
    have k' := k p hp
    rw [e] at k'
    exact k'
theorem ok_both_ways {f : Addr} {fd : FuncData} (F : Fun K "both_ways" "both_ways" s_both_ways f fd) (T : Txt P w K mg fk) : FnOk P w K mg base CX0 1 f fd ["meeting"] spBoth := by
  refine F.ok sc_both_ways (fun vs H Q E h => ?_) (fun cdv A outer s H vs Q E hr h => ?_)
  · obtain ⟨t, m, rfl, _⟩ := h
    rfl
  · obtain ⟨t, m, rfl, ht, k⟩ := h
    refine ⟨_, (pss_one (ps_ret (pe_lst (pa_cons (pe_tup (pa_cons (pe_ix ix_tup (pv 0) pe_int (fun _ _ => rfl)) (pa_cons (pe_ix ix_tup (pv 0) pe_int (fun _ _ => rfl)) pa_nil))) (pa_cons (pe_tup (pa_cons (pe_ix ix_tup (pv 0) pe_int (fun _ _ => rfl)) (pa_cons (pe_ix ix_tup (pv 0) pe_int (fun _ _ => rfl)) pa_nil))) pa_nil))))), ?_⟩
    refine ⟨_, rfl, t, _, _, _, rfl, rfl, SqT.of ht, atI_nat (j := 0) rfl, _, rfl, t, _, _, _, rfl, rfl, SqT.of ht, atI_nat (j := 1) rfl, (by show 2 ≤ sizeLine; decide), fun p1 hp1 => ?_⟩
    have ht1 := up_keep (o := .tup [.int m.a, .int m.b]) ht hp1
    refine ⟨_, rfl, t, _, _, _, rfl, rfl, SqT.of ht1, atI_nat (j := 1) rfl, _, rfl, t, _, _, _, rfl, rfl, SqT.of ht1, atI_nat (j := 0) rfl, (by show 2 ≤ sizeLine; decide), fun p2 hp2 => ?_⟩
    refine ⟨by show 2 ≤ sizeLine; decide, fun p3 hp3 => ?_⟩
    have s1 : Same H (upd H p1 (.tup [.int m.a, .int m.b])) := same_upd hp1
    have s2 := same_new (o := .tup [.int m.b, .int m.a]) s1 hp2
    refine k _ p3 p1 p2 (same_new s2 hp3) (s2.free hp3) upd_same (up_keep (up_keep upd_same hp2) hp3) (up_keep upd_same hp3)
theorem ok_is_number_of {f : Addr} {fd : FuncData} (F : Fun K "is_number_of" "is_number_of" s_is_number_of f fd) (T : Txt P w K mg fk) (C_is_within : Cal P w K mg base "is_within" 2 ["thing", "low", "high"] spWithin) : FnOk P w K mg base CX0 3 f fd ["book", "thing"] spIsNum := by
  refine F.ok sc_is_number_of (fun vs H Q E h => ?_) (fun cdv A outer s H vs Q E hr h => ?_)
  · obtain ⟨b, R, ms, n, rfl, _⟩ := h
    rfl
  · obtain ⟨b, R, ms, n, rfl, ⟨r, q, hb, hR, ts, hq, hts, rfl⟩, hn, k⟩ := h
    refine ⟨_, (pss_one (ps_ret (pe_cal C_is_within hr (pa_cons (pv 1) (pa_cons pe_int (pa_cons (pe_op op_sub (pe_callB call_len_seq (by rfl) T.len PySem.boot_len (pa_cons (pe_ix ix_tup (pv 0) pe_int (fun _ _ => rfl)) pa_nil)) pe_int) pa_nil)))))), ?_⟩
    refine ⟨_, rfl, _, rfl, b, _, _, _, rfl, rfl, SqT.of hb, atI_nat (j := 1) rfl, q, _, rfl, .inr (SqT.of hq), _, _, rfl, rfl, _, _, _, rfl, ?_⟩
    have e : decide ((0 : Int) ≤ (n : Int) ∧ (n : Int) ≤ ((List.map KX.rf ts).length : Int) - 1) = true := by
      rw [List.length_map] at hn ⊢
      simp
      omega
    rw [e]
    exact k
theorem ok_need_meeting {f : Addr} {fd : FuncData} (F : Fun K "need_meeting" "need_meeting" s_need_meeting f fd) (T : Txt P w K mg fk) (C_is_number_of : Cal P w K mg base "is_number_of" 3 ["book", "thing"] spIsNum) : FnOk P w K mg base CX0 4 f fd ["book", "meeting"] spNeed := by
  refine F.ok sc_need_meeting (fun vs H Q E h => ?_) (fun cdv A outer s H vs Q E hr h => ?_)
  · obtain ⟨b, R, ms, n, rfl, _⟩ := h
    rfl
  · obtain ⟨b, R, ms, n, rfl, hb, hn, k⟩ := h
    refine ⟨_, (pss_one (ps_if (pt_not (pt_val (pe_cal C_is_number_of hr (pa_cons (pv 0) (pa_cons (pv 1) pa_nil))))) (pss_one ps_never) pss_nil)), ?_⟩
    exact ⟨_, rfl, _, rfl, b, R, ms, n, rfl, hb, hn, true, rfl, iteF k⟩
end
end K3
end
section
namespace K3
open PySem L2 Sat PyProof.Rows
theorem iteD {c A B : Prop} [Decidable c] (hc : c) (h : A) : if decide c = true then A else B := by
  rw [decide_eq_true hc]
  exact iteT h
theorem iteDN {c A B : Prop} [Decidable c] (hc : ¬ c) (h : B) : if decide c = true then A else B := by
  rw [decide_eq_false hc]
  exact iteF h
theorem iteND {c A B : Prop} [Decidable c] (hc : ¬ c) (h : A) : if (!decide c) = true then A else B := by
  rw [decide_eq_false hc]
  exact iteT h
theorem tyes {σ : L2.St} {H : Hp} {Q : Bool → Hp → Prop} (h : Q true H) : tYes σ H Q := h
theorem small {n : Nat} (h : n ≤ 10000) : n < sizeLine := Nat.lt_of_le_of_lt h (by decide)
theorem smallE {n : Nat} (h : n ≤ 10000) : n ≤ sizeLine := Nat.le_of_lt (small h)
theorem map_at {α β : Type} {f : α → β} {l : List α} {i : Nat} {y : β} (h : (l.map f)[i]? = some y) : ∃ x, l[i]? = some x ∧ y = f x := by
  rw [List.getElem?_map] at h
  cases e : l[i]? with
  | none => rw [e] at h; cases h
  | some x => rw [e] at h; exact ⟨x, rfl, (Option.some.inj h).symm⟩
theorem at_lt {α : Type} {l : List α} {i : Nat} {x : α} (h : l[i]? = some x) : i < l.length := (List.getElem?_eq_some_iff.mp h).1
section
variable {P : Program} {w : World} {K : PySem.W.Frag} {mg : Str → Option Value} {base : Heap} {fk : Addr}
theorem ok_are_rooms {f : Addr} {fd : FuncData} (F : Fun K "are_rooms" "are_rooms" s_are_rooms f fd) (T : Txt P w K mg fk) (C_is_within : Cal P w K mg base "is_within" 2 ["thing", "low", "high"] spWithin) : FnOk P w K mg base CX0 3 f fd ["thing"] spRoomsOk := by
  refine F.ok sc_are_rooms (fun vs H Q E h => ?_) (fun cdv A outer s H vs Q E hr h => ?_)
  · obtain ⟨a, R, rfl, _⟩ := h
    rfl
  · obtain ⟨a, R, rfl, ha, ok, k⟩ := h
    have h1 := ok.one
    have h2 := ok.most
    refine ⟨_, (pss_cons (ps_if (pw_or (pt_not (pt_val (pe_callB call_isi (by rfl) T.isinstance boot_isinstance (pa_cons (pv 0) (pa_cons (pe_bltn (v := .ty "list") (by rfl) T.list boot_list rfl) pa_nil))))) (pw_or1 (pt_not (pt_chain op_le op_le pe_int (pe_callB call_len_seq (by rfl) T.len PySem.boot_len (pa_cons (pv 0) pa_nil)) (pe_cst T.MOST_WALKERS))))).pt (pss_one (ps_ret pe_bl)) pss_nil)
      (pss_one (ps_ret (pe_callB (cr_all rfl) (by rfl) T.all boot_all (pa_cons (pe_lc (own := [("room", 1)]) (by rfl) sc_are_rooms.nd (pi_list (pv 0)) (blkOk_by (own := [("room", 1)]) (N := ["thing", "room"]) (sc := defScope s_are_rooms) (by decide +kernel)) (fun _ _ _ _ _ => (pg_name (i := 1) sc_are_rooms.nd rfl (Or.inl rfl))) (fun _ _ _ _ _ => pts_nil) (fun _ _ _ _ _ => (pe_cal C_is_within hr (pa_cons (pv 1) (pa_cons pe_int (pa_cons (pe_cst T.MOST_ROOM) pa_nil)))))) pa_nil))))), ?_⟩
    refine ⟨_, rfl, .ref a, .ty "list", .type "list", .type "list", true, rfl, .ty _, .base (.lst ha), kit_ty (by decide +kernel), true, rfl, iteF ?_⟩
    refine ⟨_, rfl, a, _, rfl, .inl (SqL.of ha), _, _, rfl, rfl, _, rfl, iteD (by rw [List.length_map]; omega) ?_⟩
    refine ⟨_, _, rfl, rfl, _, rfl, iteNS (by rw [List.length_map]; omega) ?_⟩
    refine ⟨_, rfl, a, rfl, ⟨_, SqL.of ha⟩, fun D hD => lc_list (K := K) (a := a) (xs := R.map iv) (fun i H' => Same H H' ∧ H' D = some (.lst ((List.replicate i true).map V.bl))) ⟨same_upd hD, upd_same⟩ (fun i H' _ q => q.1.seq (SqL.of ha)) (fun i x H' hx q => ?_) (fun H' q => ?_)⟩
    · obtain ⟨r, hxr, rfl⟩ := map_at hx
      obtain ⟨s1, hd⟩ := q
      have hb := ok.ok r (List.mem_of_getElem? hxr)
      have hi := at_lt hxr
      refine ⟨rfl, tyes (iteT ⟨_, rfl, _, _, _, rfl, _, hd, ?_, same_own s1 hD, ?_⟩)⟩
      · rw [List.length_map, List.length_replicate]
        exact small (by omega)
      · rw [decide_eq_true hb, upd_same, List.replicate_succ', List.map_append]
        rfl
    · refine ⟨D, _, rfl, SqL.of q.2, ?_⟩
      have e : (List.replicate (R.map iv).length true).all id = true := by simp
      rw [e]
      exact k _ q.1
theorem ok_is_meeting {f : Addr} {fd : FuncData} (F : Fun K "is_meeting" "is_meeting" s_is_meeting f fd) (T : Txt P w K mg fk) (C_is_within : Cal P w K mg base "is_within" 2 ["thing", "low", "high"] spWithin) : FnOk P w K mg base CX0 3 f fd ["thing", "walkers"] spIsMt := by
  refine F.ok sc_is_meeting (fun vs H Q E h => ?_) (fun cdv A outer s H vs Q E hr h => ?_)
  · obtain ⟨t, n, m, rfl, _⟩ := h
    rfl
  · obtain ⟨t, n, m, rfl, ht, ok, k⟩ := h
    have a1 := ok.a_lt
    have b1 := ok.b_lt
    refine ⟨_, (pss_cons (ps_if (pw_or (pt_not (pt_val (pe_callB call_isi (by rfl) T.isinstance boot_isinstance (pa_cons (pv 0) (pa_cons (pe_bltn (v := .ty "tuple") (by rfl) T.tuple boot_tuple rfl) pa_nil))))) (pw_or1 (pt_cmpR op_ne (pe_callB call_len_seq (by rfl) T.len PySem.boot_len (pa_cons (pv 0) pa_nil)) pe_int (nomark _)))).pt (pss_one (ps_ret pe_bl)) pss_nil)
      (pss_cons (ps_asg (pv 0) (pg_tup rfl (pgs_cons (pg_name (i := 2) sc_is_meeting.nd rfl (Or.inl rfl)) (pgs_cons (pg_name (i := 3) sc_is_meeting.nd rfl (Or.inl rfl)) (pgs_cons (pg_name (i := 4) sc_is_meeting.nd rfl (Or.inl rfl)) (pgs_cons (pg_name (i := 5) sc_is_meeting.nd rfl (Or.inl rfl)) pgs_nil))))))
      (pss_cons (ps_if (pw_or (pt_not (pt_val (pe_cal C_is_within hr (pa_cons (pv 2) (pa_cons pe_int (pa_cons (pe_op op_sub (pv 1) pe_int) pa_nil)))))) (pw_or (pt_not (pt_val (pe_cal C_is_within hr (pa_cons (pv 3) (pa_cons pe_int (pa_cons (pe_op op_sub (pv 1) pe_int) pa_nil)))))) (pw_or1 (pt_cmpR op_eq (pv 2) (pv 3) (nomark _))))).pt (pss_one (ps_ret pe_bl)) pss_nil)
      (pss_one (ps_ret (pe_and (pe_cal C_is_within hr (pa_cons (pv 4) (pa_cons pe_int (pa_cons (pe_cst T.MOST_TIME) pa_nil)))) (pe_one (pe_cal C_is_within hr (pa_cons (pv 5) (pa_cons pe_int (pa_cons (pe_cst T.MOST_MANY) pa_nil))))))))))), ?_⟩
    refine ⟨_, rfl, .ref t, .ty "tuple", .type "tuple", .type "tuple", true, rfl, .ty _, .base (.tup ht), kit_ty (by decide +kernel), true, rfl, iteF ?_⟩
    refine ⟨_, rfl, t, _, rfl, .inr (SqT.of ht), rfl, _, rfl, iteNS rfl ?_⟩
    refine ⟨_, rfl, t, _, rfl, SqT.of ht, rfl, _, _, rfl, _, _, rfl, _, _, rfl, _, _, rfl, rfl, ?_⟩
    refine ⟨_, rfl, _, rfl, _, _, rfl, rfl, _, _, _, rfl, _, rfl, ?_⟩
    refine iteNS (by omega) ⟨_, rfl, _, rfl, _, _, rfl, rfl, _, _, _, rfl, _, rfl, ?_⟩
    refine iteNS (by omega) ⟨_, rfl, _, rfl, rfl, _, rfl, ?_⟩
    refine iteDN (fun e => ?_) ?_
    · have e' : (m.a : Int) = m.b := by
        injection e
      exact ok.ne (by omega)
    refine ⟨_, rfl, _, _, _, rfl, _, rfl, iteD ⟨ok.w1, ok.w2⟩ ?_⟩
    refine ⟨_, rfl, _, _, _, rfl, ?_⟩
    rw [decide_eq_true (show (1 : Int) ≤ m.m ∧ m.m ≤ 99 from ⟨ok.m1, ok.m2⟩)]
    exact k
end
end K3
end
section
namespace K3
open PySem L2 Sat PyProof.Rows
section
variable {P : Program} {w : World} {K : PySem.W.Frag} {mg : Str → Option Value} {base : Heap} {fk : Addr}
theorem key_by_when {f : Addr} {fd : FuncData} (F : Fun K "by_when" "by_when" s_by_when f fd) : KX.IsKey P w K f := by
  intro A s t its n0 n1 n2 n3 X lim hdp pt hi
  obtain ⟨_, _, _, _, _, _, cdv, _, _, rfl, lk, hcd⟩ := F.ex
  obtain ⟨l⟩ := its
  have hi' : IntsAre l [n0, n1, n2, n3] := hi
  obtain ⟨t0, t1, t2, t3, rfl⟩ : ∃ t0 t1 t2 t3, l = [Value.int n0 t0, .int n1 t1, .int n2 t2, .int n3 t3] := by
    cases hi' with
    | cons _ _ h1 => cases h1 with
      | cons _ _ h2 => cases h2 with
        | cons _ _ h3 => cases h3 with
          | cons _ _ h4 => cases h4; exact ⟨_, _, _, _, rfl⟩
  refine wpAny_call (Att.call_fn (binds := [("meeting", Value.ref t)]) X lim lk hcd hdp (BindsTo.of_eq (by first | rfl | with_unfolding_all rfl)) (by first | rfl | decide | with_unfolding_all rfl) (fun s₁ IC => ?_) rfl rfl rfl)
  have ⟨h₁, tk₁, same⟩ := IC.toInCall.same
  subst same
  have kp : ∀ b o, s.heap.get? b = some o → h₁.get? b = some o := IC.toInCall.keep
  have hn := IC.toInCall.ns
  have pt1 : IsTup h₁ t [Value.int n0 t0, .int n1 t1, .int n2 t2, .int n3 t3].toArray := let ⟨o, ho, r⟩ := pt; ⟨o, kp _ _ ho, r⟩
  change wpAny (model P w) _ (execs _ _) _ _ _
  refine wpAny_execs_cons (wpAny_Return_some (wpAny_Tuple_spliced ?_))
  show wpAny _ _ (spliced ((false, _) :: (false, _) :: [])) _ _ _
  refine Calls.spliced_cons (Subscript_ ?_)
  refine wpAny_Name (wpAny_loadName_local (by rfl) (by rfl) hn (v := .ref t) (by first | rfl | with_unfolding_all rfl | kernel_rfl) (wpAny_Constant_int ?_)) (by decide)
  refine item_tuple (j := 2) (x := .int n2 t2) pt1 (by decide) (by decide) (by rfl) (by rfl) ?_
  refine Calls.spliced_cons (Subscript_ ?_)
  refine wpAny_Name (wpAny_loadName_local (by rfl) (by rfl) hn (v := .ref t) (by first | rfl | with_unfolding_all rfl | kernel_rfl) (wpAny_Constant_int ?_)) (by decide)
  refine item_tuple (j := 0) (x := .int n0 t0) pt1 (by decide) (by decide) (by rfl) (by rfl) ?_
  refine Calls.spliced_nil ⟨by show 2 ≤ sizeLine; decide, ?_⟩
  refine ⟨_, _, rfl, fun b o e => Heap.get?_push_of_some _ (kp b o e), ?_⟩
  exact Reads.tuple (Heap.get?_push_size _ rfl) rfl rfl (.cons (.int _ _) (.cons (.int _ _) .nil))
end
end K3
end
section
namespace K3
open PySem L2 Sat PyProof.Rows
/-- what is known in meets_two_at_once behind i meetings -/
def Known (ms : List Mt) (i : Nat) (kvs : List (List Key × V)) : Prop := ∀ (a : Nat) (t : Int), valV kvs [Sum.inl (a : Int), Sum.inl t] ≠ none → ∃ j m, j < i ∧ ms[j]? = some m ∧ m.w = t ∧ (m.a = a ∨ m.b = a)
theorem Known.put {ms : List Mt} {i : Nat} {kvs : List (List Key × V)} {m : Mt} {v : V} {c : Nat} (h : Known ms (i + 1) kvs) (hm : ms[i]? = some m) (hc : m.a = c ∨ m.b = c) : Known ms (i + 1) (putK kvs [Sum.inl (c : Int), Sum.inl m.w] v) := by
  intro a t hn
  rw [valV_put] at hn
  by_cases e : ([Sum.inl (a : Int), Sum.inl t] : List Key) = [Sum.inl (c : Int), Sum.inl m.w]
  · simp only [List.cons.injEq, Sum.inl.injEq, and_true] at e
    have ea : c = a := by omega
    exact ⟨i, m, Nat.lt_succ_self i, hm, e.2.symm, ea ▸ hc⟩
  · rw [if_neg e] at hn
    exact h a t hn
theorem Known.none {ms : List Mt} {i : Nat} {kvs : List (List Key × V)} {m : Mt} {c : Nat} (h : Known ms i kvs) (hp : ms.Pairwise NC) (hm : ms[i]? = some m) (hc : m.a = c ∨ m.b = c) : valV kvs [Sum.inl (c : Int), Sum.inl m.w] = none := by
  refine Classical.byContradiction fun hn => ?_
  obtain ⟨j, m', hj, hm', e, hc'⟩ := h c m.w hn
  obtain ⟨l1, e1⟩ := List.getElem?_eq_some_iff.mp hm
  obtain ⟨l2, e2⟩ := List.getElem?_eq_some_iff.mp hm'
  have q := List.pairwise_iff_getElem.mp hp j i l2 l1 hj
  rw [e1, e2] at q
  have := q e
  omega
section
variable {P : Program} {w : World} {K : PySem.W.Frag} {mg : Str → Option Value} {base : Heap} {fk : Addr}
theorem ok_meets_two_at_once {f : Addr} {fd : FuncData} (F : Fun K "meets_two_at_once" "meets_two_at_once" s_meets_two_at_once f fd) (T : Txt P w K mg fk) : FnOk P w K mg base CX0 1 f fd ["meetings"] spClash := by
  refine F.ok sc_meets_two_at_once (fun vs H Q E h => ?_) (fun cdv A outer s H vs Q E hr h => ?_)
  · obtain ⟨l, L, n, rfl, _⟩ := h
    rfl
  · obtain ⟨l, L, n, rfl, hl, hts, raw, k⟩ := h
    have hlen := raw.len
    rw [List.length_map] at hlen
    refine ⟨_, (pss_cons (ps_set (i := 1) sc_meets_two_at_once.nd rfl (Or.inl rfl) pe_dnewT)
      (pss_cons (ps_for PassesOwn.never rfl (pi_list (pv 0)) (pg_tup rfl (pgs_cons (pg_name (i := 2) sc_meets_two_at_once.nd rfl (Or.inl rfl)) (pgs_cons (pg_name (i := 3) sc_meets_two_at_once.nd rfl (Or.inl rfl)) (pgs_cons (pg_name (i := 4) sc_meets_two_at_once.nd rfl (Or.inl rfl)) (pgs_cons (pg_name (i := 5) sc_meets_two_at_once.nd rfl (Or.inl rfl)) pgs_nil))))) (pss_cons (ps_if (pw_or (pt_cmp (pc_din (hu_of hr) (pe_tup (pa_cons (pv 2) (pa_cons (pv 4) pa_nil))) (pv 1))) (pw_or1 (pt_cmp (pc_din (hu_of hr) (pe_tup (pa_cons (pv 3) (pa_cons (pv 4) pa_nil))) (pv 1))))).pt (pss_one (ps_ret pe_bl)) pss_nil)
      (pss_cons (ps_dput (hu_of hr) (pv 1) (pe_tup (pa_cons (pv 2) (pa_cons (pv 4) pa_nil))) pe_bl rfl)
      (pss_one (ps_dput (hu_of hr) (pv 1) (pe_tup (pa_cons (pv 3) (pa_cons (pv 4) pa_nil))) pe_bl rfl)))))
      (pss_one (ps_ret pe_bl)))), ?_⟩
    intro kn hkn
    refine ⟨_, rfl, l, rfl, ⟨_, SqL.of (up_keep hl hkn)⟩, for_list (K := K) (a := l) (xs := L.map KX.rf) (fun i σ H' => ∃ kvs v2 v3 v4 v5, σ = [some (.ref l), some (.ref kn), v2, v3, v4, v5] ∧ Same H H' ∧ H' kn = some (.dT kvs) ∧ kvs.length ≤ 2 * i ∧ Known (L.map (·.2)) i kvs)
      ⟨[], _, _, _, _, rfl, same_upd hkn, upd_same, Nat.le_refl _, fun a t hn => absurd rfl hn⟩ (fun i σ H' _ q => by obtain ⟨kvs, v2, v3, v4, v5, _, s1, _⟩ := q; exact SqL.of (s1 _ _ hl)) (fun i x σ H' hx q => ?_) (fun σ H' q => ?_)⟩
    · obtain ⟨kvs, v2, v3, v4, v5, rfl, s1, hk, hz, kw⟩ := q
      obtain ⟨p, hp, rfl⟩ := map_at hx
      have hi := at_lt hp
      have hm : (L.map (·.2))[i]? = some p.2 := by rw [List.getElem?_map, hp]; rfl
      have ht := s1 _ _ (hts p (List.mem_of_getElem? hp))
      have n1 := kw.none raw.nc hm (.inl rfl)
      have n2 := kw.none raw.nc hm (.inr rfl)
      refine ⟨p.1, _, rfl, SqT.of ht, rfl, _, _, rfl, _, _, rfl, _, _, rfl, _, _, rfl, rfl, ?_⟩
      -- (one, when) in known
      refine ⟨_, rfl, _, rfl, by show 2 ≤ sizeLine; decide, fun a1 h1 => ⟨_, rfl, kn, none, rfl, ?_, _, rfl, iteF ?_⟩⟩
      · rw [← n1]
        exact DGet.t (k := [Sum.inl (p.2.a : Int), Sum.inl p.2.w]) (up_keep hk h1) upd_same
      have k1 := up_keep (o := .tup [.int p.2.a, .int p.2.w]) hk h1
      refine ⟨_, rfl, _, rfl, by show 2 ≤ sizeLine; decide, fun a2 h2 => ⟨_, rfl, kn, none, rfl, ?_, _, rfl, iteF ?_⟩⟩
      · rw [← n2]
        exact DGet.t (k := [Sum.inl (p.2.b : Int), Sum.inl p.2.w]) (up_keep k1 h2) upd_same
      have k2 := up_keep (o := .tup [.int p.2.b, .int p.2.w]) k1 h2
      have s2 := same_new (o := .tup [.int p.2.b, .int p.2.w]) (same_new (o := .tup [.int p.2.a, .int p.2.w]) s1 h1) h2
      -- known[one, when] = True
      refine ⟨_, rfl, _, rfl, _, rfl, by show 2 ≤ sizeLine; decide, fun a3 h3 => ⟨kn, _, rfl, DPut.t (k := [Sum.inl (p.2.a : Int), Sum.inl p.2.w]) (up_keep k2 h3) upd_same (small (by omega)), ?_⟩⟩
      have s3 := same_own (o := .dT (putK kvs [Sum.inl (p.2.a : Int), Sum.inl p.2.w] (.bl true))) (same_new (o := .tup [.int p.2.a, .int p.2.w]) s2 h3) hkn
      have l3 := length_putK kvs ([Sum.inl (p.2.a : Int), Sum.inl p.2.w] : List Key) (.bl true)
      refine ⟨_, rfl, _, rfl, _, rfl, by show 2 ≤ sizeLine; decide, fun a4 h4 => ⟨kn, _, rfl, DPut.t (k := [Sum.inl (p.2.b : Int), Sum.inl p.2.w]) (up_keep upd_same h4) upd_same (small (by omega)), ?_⟩⟩
      have s4 := same_own (o := .dT (putK (putK kvs [Sum.inl (p.2.a : Int), Sum.inl p.2.w] (.bl true)) [Sum.inl (p.2.b : Int), Sum.inl p.2.w] (.bl true))) (same_new (o := .tup [.int p.2.b, .int p.2.w]) s3 h4) hkn
      have l4 := length_putK (putK kvs [Sum.inl (p.2.a : Int), Sum.inl p.2.w] (.bl true)) ([Sum.inl (p.2.b : Int), Sum.inl p.2.w] : List Key) (.bl true)
      have kw1 : Known (L.map (·.2)) (i + 1) kvs := fun a t hn => let ⟨j, m, hj, r⟩ := kw a t hn; ⟨j, m, Nat.lt_succ_of_lt hj, r⟩
      exact ⟨_, _, _, _, _, rfl, s4, upd_same, by omega, (kw1.put hm (.inl rfl)).put hm (.inr rfl)⟩
    · obtain ⟨kvs, v2, v3, v4, v5, rfl, s1, _⟩ := q
      exact k _ s1
theorem ok_made_book {f : Addr} {fd : FuncData} (F : Fun K "made_book" "made_book" s_made_book f fd) (T : Txt P w K mg fk)
    (C_are_rooms : Cal P w K mg base "are_rooms" 3 ["thing"] spRoomsOk) (C_is_meeting : Cal P w K mg base "is_meeting" 3 ["thing", "walkers"] spIsMt) (C_meets_two_at_once : Cal P w K mg base "meets_two_at_once" 1 ["meetings"] spClash)
    (C_put_right : Cal P w K mg base "put_right" 1 ["meeting"] spRight) : FnOk P w K mg base CX0 4 f fd ["rooms", "meetings"] spMade := by
  refine F.ok sc_made_book (fun vs H Q E h => ?_) (fun cdv A outer s H vs Q E hr h => ?_)
  · obtain ⟨r, l, R, L, rfl, _⟩ := h
    rfl
  · obtain ⟨r, l, R, L, rfl, hR, ok, hl, hts, raw, k⟩ := h
    have hlen := raw.len
    rw [List.length_map] at hlen
    have o1 := ok.one
    have o2 := ok.most
    refine ⟨_, (pss_cons (ps_if (pt_not (pt_val (pe_cal C_are_rooms hr (pa_cons (pv 0) pa_nil)))) (pss_one ps_never) pss_nil)
      (pss_cons (ps_if (pw_or (pt_not (pt_val (pe_callB call_isi (by rfl) T.isinstance boot_isinstance (pa_cons (pv 1) (pa_cons (pe_bltn (v := .ty "list") (by rfl) T.list boot_list rfl) pa_nil))))) (pw_or1 (pt_cmpR op_gt (pe_callB call_len_seq (by rfl) T.len PySem.boot_len (pa_cons (pv 1) pa_nil)) (pe_cst T.MOST_MEETINGS) (nomark _)))).pt (pss_one ps_never) pss_nil)
      (pss_cons (ps_for PassesOwn.never rfl (pi_list (pv 1)) (pg_name (i := 2) sc_made_book.nd rfl (Or.inl rfl)) (pss_one (ps_if (pt_not (pt_val (pe_cal C_is_meeting hr (pa_cons (pv 2) (pa_cons (pe_callB call_len_seq (by rfl) T.len PySem.boot_len (pa_cons (pv 0) pa_nil)) pa_nil))))) (pss_one ps_never) pss_nil)))
      (pss_cons (ps_if (pt_val (pe_cal C_meets_two_at_once hr (pa_cons (pv 1) pa_nil))) (pss_one ps_never) pss_nil)
      (pss_one (ps_ret (pe_tup (pa_cons (pe_callTy call_tuple_of (by rfl) T.tuple boot_tuple (pa_cons (pv 0) pa_nil)) (pa_cons (pe_callTy call_tuple_of (by rfl) T.tuple boot_tuple (pa_cons (pe_callBK (KX.cr_sortK (k := 1) (hr.mono (by decide)) T.key) (by rfl) T.sorted boot_sorted (pa_cons (pe_lc (own := [("meeting", 2)]) (by rfl) sc_made_book.nd (pi_list (pv 1)) (blkOk_by (own := [("meeting", 2)]) (N := ["rooms", "meetings", "meeting"]) (sc := defScope s_made_book) (by decide +kernel)) (fun _ _ _ _ _ => (pg_name (i := 2) sc_made_book.nd rfl (Or.inl rfl))) (fun _ _ _ _ _ => pts_nil) (fun _ _ _ _ _ => (pe_cal C_put_right hr (pa_cons (pv 2) pa_nil)))) pa_nil) (pk_cons (pe_glob (v := .ref fk) rfl T.g_by_when rfl) pk_nil)) pa_nil)) pa_nil))))))))), ?_⟩
    refine ⟨_, rfl, r, R, rfl, hR, ok, fun H1 s1 => ⟨true, rfl, iteF ?_⟩⟩
    refine ⟨_, rfl, .ref l, .ty "list", .type "list", .type "list", true, rfl, .ty _, .base (.lst (s1 _ _ hl)), kit_ty (by decide +kernel), true, rfl, iteF ?_⟩
    refine ⟨_, rfl, l, _, rfl, .inl (SqL.of (s1 _ _ hl)), _, _, rfl, rfl, _, rfl, iteDN (by rw [List.length_map]; omega) ?_⟩
    refine ⟨_, rfl, l, rfl, ⟨_, SqL.of (s1 _ _ hl)⟩, for_list (K := K) (a := l) (xs := L.map KX.rf) (fun i σ H' => ∃ v, σ = [some (.ref r), some (.ref l), v] ∧ Same H H')
      ⟨_, rfl, s1⟩ (fun i σ H' _ q => by obtain ⟨v, _, s2⟩ := q; exact SqL.of (s2 _ _ hl)) (fun i x σ H' hx q => ?_) (fun σ H2 q => ?_)⟩
    · obtain ⟨v, rfl, s2⟩ := q
      obtain ⟨p, hp, rfl⟩ := map_at hx
      have hpm := List.mem_of_getElem? hp
      refine ⟨_, rfl, _, rfl, r, _, rfl, .inl (SqL.of (s2 _ _ hR)), p.1, (R.map iv).length, p.2, rfl, s2 _ _ (hts p hpm), ?_, true, rfl, iteF ⟨_, rfl, s2⟩⟩
      rw [List.length_map]
      exact raw.fit p.2 (List.mem_map.mpr ⟨p, hpm, rfl⟩)
    obtain ⟨v, rfl, s2⟩ := q
    refine ⟨_, rfl, l, L, R.length, rfl, s2 _ _ hl, fun p hp => s2 _ _ (hts p hp), raw, fun H3 s3' => ⟨false, rfl, iteF ?_⟩⟩
    have s3 := s2.trans s3'
    refine ⟨_, rfl, r, _, rfl, .inl ⟨SqL.of (s3 _ _ hR), fun r' hr' => ?_⟩⟩
    have s4 := same_new (o := .tup (R.map iv)) s3 hr'
    refine ⟨_, rfl, l, rfl, ⟨_, SqL.of (s4 _ _ hl)⟩, fun D hD => lc_list (K := K) (a := l) (xs := L.map KX.rf) (fun i H' => Same (upd H3 r' (.tup (R.map iv))) H' ∧ ∃ L' : List (Addr × Mt), H' D = some (.lst (L'.map KX.rf)) ∧ (∀ p ∈ L', H' p.1 = some (.tup (KX.mv p.2))) ∧ L'.map (·.2) = ((L.take i).map (·.2)).map right)
      ⟨same_upd hD, [], upd_same, fun p hp => absurd hp (by simp), rfl⟩ (fun i H' _ q => SqL.of (q.1 _ _ (s4 _ _ hl))) (fun i x H' hx q => ?_) (fun H5 q => ?_)⟩
    · obtain ⟨p, hp, rfl⟩ := map_at hx
      obtain ⟨s5, L', hL', hts', eL'⟩ := q
      have hpm := List.mem_of_getElem? hp
      have hi := at_lt hp
      refine ⟨rfl, tyes (iteT ⟨_, rfl, p.1, p.2, rfl, s5 _ _ (s4 _ _ (hts p hpm)), fun t ht => ⟨_, up_keep hL' ht, ?_, ?_, L' ++ [(t, right p.2)], ?_, ?_, ?_⟩⟩)⟩
      · have e := congrArg List.length eL'
        rw [List.length_map, List.length_map, List.length_map, List.length_take] at e
        rw [List.length_map]
        exact small (by omega)
      · exact same_own (same_new s5 ht) hD
      · rw [upd_same, List.map_append]
        rfl
      · intro q hq
        rcases List.mem_append.mp hq with hq | hq
        · exact up_oth (up_keep (hts' q hq) ht) (up_keep hL' ht) (by intro z; cases z)
        · obtain rfl := List.mem_singleton.mp hq
          exact up_oth upd_same (up_keep hL' ht) (by intro z; cases z)
      · rw [List.map_append, eL', List.take_add_one, hp]
        simp
    · obtain ⟨s5, L', hL', hts', eL'⟩ := q
      rw [List.length_map, List.take_length] at eL'
      refine ⟨D, L', rfl, rfl, SqL.of hL', fun p hp => SqT.of (hts' p hp), fun L2 perm le p hp => ?_⟩
      refine ⟨p, _, rfl, .inl ⟨SqL.of upd_same, fun q hq => ⟨by show 2 ≤ sizeLine; decide, fun b hb => ?_⟩⟩⟩
      refine k _ b (L2.map (·.2)) (same_new (same_new (same_new (s4.trans s5) hp) hq) hb) (by rw [← eL']; exact perm.map _) le ⟨r', q, upd_same, up_keep (up_keep (up_keep (s5 _ _ upd_same) hp) hq) hb, L2, up_keep upd_same hb, fun p' hp' => ?_, rfl⟩
      exact up_keep (up_keep (up_keep (hts' p' (perm.mem_iff.mp hp')) hp) hq) hb
end
end K3
end
section
namespace K3
open PySem L2 Sat PyProof.Rows
theorem take_erase {α : Type} {l : List α} {i k : Nat} {x : α} (h : l[i]? = some x) : (l.take (i + 1)).eraseIdx k = (l.take i).eraseIdx k ++ (if i = k then [] else [x]) := by
  have hi := at_lt h
  have hl : (l.take i).length = i := by rw [List.length_take]; omega
  rw [List.take_add_one, h]
  show (l.take i ++ [x]).eraseIdx k = _
  by_cases e : i = k
  · have e0 : k - (l.take i).length = 0 := by omega
    rw [if_pos e, List.append_nil, List.eraseIdx_append_of_length_le (by omega), e0, List.eraseIdx_of_length_le (l := l.take i) (by omega)]
    simp
  · rw [if_neg e]
    by_cases h1 : k < i
    · rw [List.eraseIdx_append_of_lt_length (by omega)]
    · rw [List.eraseIdx_of_length_le (l := l.take i ++ [x]) (by rw [List.length_append, hl, List.length_singleton]; omega), List.eraseIdx_of_length_le (l := l.take i) (by omega)]
theorem map_erase {α β : Type} (f : α → β) : ∀ (l : List α) (k : Nat), (l.eraseIdx k).map f = (l.map f).eraseIdx k
  | [], _ => rfl
  | _ :: _, 0 => rfl
  | a :: l, k + 1 => congrArg (f a :: ·) (map_erase f l k)
theorem ixN_nat {n j : Nat} (h : j < n) : ixN n ((j : Nat) : Int) = some j := by
  unfold ixN
  rw [if_pos (by omega), if_pos (by omega)]
  simp
section
variable {P : Program} {w : World} {K : PySem.W.Frag} {mg : Str → Option Value} {base : Heap} {fk : Addr}
theorem ok_without {f : Addr} {fd : FuncData} (F : Fun K "without" "without" s_without f fd) (T : Txt P w K mg fk)
    (C_need_meeting : Cal P w K mg base "need_meeting" 4 ["book", "meeting"] spNeed) (C_made_book : Cal P w K mg base "made_book" 4 ["rooms", "meetings"] spMade) : FnOk P w K mg base CX0 5 f fd ["book", "meeting"] spWithout := by
  refine F.ok sc_without (fun vs H Q E h => ?_) (fun cdv A outer s H vs Q E hr h => ?_)
  · obtain ⟨b, R, ms, k, rfl, _⟩ := h
    rfl
  · obtain ⟨b, R, ms, n, rfl, hB, ok, wf, hn, k⟩ := h
    obtain ⟨r, q, hb, hR, ts, hq, hts, rfl⟩ := id hB
    have hlen := wf.len
    rw [List.length_map] at hlen
    refine ⟨_, (pss_cons (ps_expr (pe_cal C_need_meeting hr (pa_cons (pv 0) (pa_cons (pv 1) pa_nil))))
      (pss_one (ps_ret (pe_cal C_made_book hr (pa_cons (pe_callTy call_list_of (by rfl) T.list boot_list (pa_cons (pe_ix ix_tup (pv 0) pe_int (fun _ _ => rfl)) pa_nil)) (pa_cons (pe_lc (own := [("at", 2), ("row", 3)]) (by rfl) sc_without.nd (KX.pi_enumT (by rfl) T.enumerate (pa_cons (pe_ix ix_tup (pv 0) pe_int (fun _ _ => rfl)) pa_nil)) (blkOk_by (own := [("at", 2), ("row", 3)]) (N := ["book", "meeting", "at", "row"]) (sc := defScope s_without) (by decide +kernel)) (fun _ _ _ _ _ => (pg_tupK (K := K) (n := 2) rfl rfl (pgs_cons (pg_name (i := 2) sc_without.nd rfl (Or.inl rfl)) (pgs_cons (pg_name (i := 3) sc_without.nd rfl (Or.inl rfl)) pgs_nil)))) (fun _ _ _ _ _ => (pts_one (pt_cmpR op_ne (pv 2) (pv 1) (nomark _)))) (fun _ _ _ _ _ => (pv 3))) pa_nil)))))), ?_⟩
    refine ⟨_, rfl, _, rfl, b, R, _, n, rfl, hB, hn, ?_⟩
    refine ⟨_, rfl, b, _, _, _, rfl, rfl, SqT.of hb, atI_nat (j := 0) rfl, r, _, rfl, .inr (SqT.of hR), fun l hl => ?_⟩
    have s1 : Same H (upd H l (.lst (R.map iv))) := same_upd hl
    refine ⟨_, rfl, b, _, _, _, rfl, rfl, SqT.of (s1 _ _ hb), atI_nat (j := 1) rfl, q, _, rfl, SqT.of (s1 _ _ hq), fun D hD => lc_it (KX.walk_enumT (K := K) (a := q) (xs := ts.map KX.rf)) (fun i H' => Same (upd H l (.lst (R.map iv))) H' ∧ H' D = some (.lst (((ts.take i).eraseIdx n).map KX.rf)))
      ⟨same_upd hD, upd_same⟩ (fun i H' _ z => SqT.of (z.1 _ _ (s1 _ _ hq))) (fun i x H1 H2 hi z y => ?_) (fun H' z => ?_)⟩
    · obtain ⟨s2, hD2⟩ := z
      obtain ⟨t, x1, y1, rfl, ht, rfl, e1, e2⟩ := y
      cases e1
      obtain ⟨p, hp, rfl⟩ := map_at e2
      refine ⟨t, _, rfl, SqT.of upd_same, rfl, _, _, rfl, _, _, rfl, rfl, ?_⟩
      refine ⟨rfl, _, rfl, _, rfl, rfl, _, rfl, ?_⟩
      have te := take_erase (k := n) hp
      by_cases e : i = n
      · rw [decide_eq_true (by rw [e])]
        refine iteF ⟨same_new s2 ht, ?_⟩
        rw [te, if_pos e, List.append_nil]
        exact up_keep hD2 ht
      · rw [decide_eq_false (by intro h; injection h with h; omega)]
        refine iteT ⟨_, rfl, _, up_keep hD2 ht, ?_, same_own (same_new s2 ht) hD, ?_⟩
        · rw [List.length_map]
          have h1 := List.length_eraseIdx_le (ts.take i) n
          rw [List.length_take] at h1
          exact small (by omega)
        · rw [te, if_neg e, upd_same, List.map_append]
          rfl
    · obtain ⟨s2, hD2⟩ := z
      have em : ((ts.eraseIdx n).map (·.2)) = (ts.map (·.2)).eraseIdx n := map_erase _ _ _
      rw [List.length_map, List.take_length] at hD2
      have wf' : WF R.length ((ts.map (·.2)).eraseIdx n) := wf.sub (List.eraseIdx_sublist _ _)
      refine ⟨l, D, R, ts.eraseIdx n, rfl, s2 _ _ upd_same, ok, hD2, fun p hp => s2 _ _ (s1 _ _ (hts p (List.mem_of_mem_eraseIdx hp))), by rw [em]; exact wf'.toRaw, fun H3 c ms' s3 perm le hB3 => ?_⟩
      rw [em] at perm
      rw [made_same wf' perm le] at hB3
      exact k _ c ((s1.trans s2).trans s3) hB3
end
end K3
end
section
namespace K3
open PySem L2 Sat PyProof.Rows
theorem oi_some {t : Int} : oi (some t) = V.int t := rfl
theorem oi_none : oi none = V.non := rfl
theorem tab_rep (n : Nat) {α : Type} (g : α → V) (y : α) : List.replicate n (g y) = tab n g (fun _ => y) := by
  unfold tab
  apply List.ext_getElem?
  intro i
  by_cases h : i < n
  · simp [h]
  · simp [h]
/-- the inner loop's states -/
def stT (m : Mt) (T : Tm) : Nat → Tm
  | 0 => T
  | 1 => giveT m.w m.a m.b T
  | _ => stepT m T
def stB (i : Nat) (m : Mt) (T : Tm) (B : Nat → Option Nat) : Nat → Nat → Option Nat
  | 0 => B
  | 1 => giveB i m.w m.a m.b T B
  | _ => stepB i m T B
section
variable {P : Program} {w : World} {K : PySem.W.Frag} {mg : Str → Option Value} {base : Heap} {fk : Addr}
theorem ok_comings {f : Addr} {fd : FuncData} (F : Fun K "comings" "comings" s_comings f fd) (T : Txt P w K mg fk)
    (C_both_ways : Cal P w K mg base "both_ways" 1 ["meeting"] spBoth) : FnOk P w K mg base CX0 2 f fd ["book", "sender", "since"] spComings := by
  refine F.ok sc_comings (fun vs H Q E h => ?_) (fun cdv A outer s H vs Q E hr h => ?_)
  · obtain ⟨b, R, ms, s, z, rfl, _⟩ := h
    rfl
  · obtain ⟨b, R, ms, s, z, rfl, hB, hn12, wf, hs, k⟩ := h
    obtain ⟨r, q, hb, hR, ts, hq, hts, rfl⟩ := id hB
    have hlen := wf.len
    rw [List.length_map] at hlen
    refine ⟨_, (pss_cons (ps_setLc (i := 3) (own := [("room", 9)]) (by rfl) sc_comings.nd rfl rfl (sw_true rfl rfl rfl (by decide +kernel)) (pi_tup (pe_ix ix_tup (pv 0) pe_int (fun _ _ => rfl))) (blkOk_by (own := [("room", 9)]) (N := ["book", "sender", "since", "times", "by", "number", "meeting", "giver", "other", "room"]) (sc := defScope s_comings) (by decide +kernel)) (fun _ _ _ _ _ => (pg_name (i := 9) sc_comings.nd rfl (Or.inl rfl))) (fun _ _ _ _ _ => pts_nil) (fun _ _ _ _ _ => pe_non))
      (pss_cons (ps_setLc (i := 4) (own := [("room", 9)]) (by rfl) sc_comings.nd rfl rfl (sw_true rfl rfl rfl (by decide +kernel)) (pi_tup (pe_ix ix_tup (pv 0) pe_int (fun _ _ => rfl))) (blkOk_by (own := [("room", 9)]) (N := ["book", "sender", "since", "times", "by", "number", "meeting", "giver", "other", "room"]) (sc := defScope s_comings) (by decide +kernel)) (fun _ _ _ _ _ => (pg_name (i := 9) sc_comings.nd rfl (Or.inl rfl))) (fun _ _ _ _ _ => pts_nil) (fun _ _ _ _ _ => pe_non))
      (pss_cons (ps_asg (pv 2) (pg_sub (pv 3) (pv 1) set_list))
      (pss_cons (ps_for PassesOwn.never rfl (KX.pi_enumT (by rfl) T.enumerate (pa_cons (pe_ix ix_tup (pv 0) pe_int (fun _ _ => rfl)) pa_nil)) (pg_tup rfl (pgs_cons (pg_name (i := 5) sc_comings.nd rfl (Or.inl rfl)) (pgs_cons (pg_name (i := 6) sc_comings.nd rfl (Or.inl rfl)) pgs_nil))) (pss_one (ps_for PassesOwn.never rfl (pi_list (pe_cal C_both_ways hr (pa_cons (pv 6) pa_nil))) (pg_tup rfl (pgs_cons (pg_name (i := 7) sc_comings.nd rfl (Or.inl rfl)) (pgs_cons (pg_name (i := 8) sc_comings.nd rfl (Or.inl rfl)) pgs_nil))) (pss_one (ps_if (pw_and (pt_cmp (pc_isN (pe_ix ix_list (pv 3) (pv 8) (fun _ _ => rfl)))) (pw_and (pt_cmp (pc_notN (pe_ix ix_list (pv 3) (pv 7) (fun _ _ => rfl)))) (pw_and1 (pt_cmpR op_lt (pe_ix ix_list (pv 3) (pv 7) (fun _ _ => rfl)) (pe_ix ix_tup (pv 6) pe_int (fun _ _ => rfl)) (nomark _))))).pt (pss_cons (ps_asg (pe_ix ix_tup (pv 6) pe_int (fun _ _ => rfl)) (pg_sub (pv 3) (pv 8) set_list))
      (pss_one (ps_asg (pv 5) (pg_sub (pv 4) (pv 8) set_list)))) pss_nil)))))
      (pss_one (ps_ret (pe_tup (pa_cons (pv 3) (pa_cons (pv 4) pa_nil))))))))), ?_⟩
    -- times = [None for room in book[0]]
    refine ⟨_, rfl, b, _, _, _, rfl, rfl, SqT.of hb, atI_nat (j := 0) rfl, r, rfl, ⟨_, SqT.of hR⟩, fun D hD => lc_tup (K := K) (a := r) (xs := R.map iv) (fun i H' => Same H H' ∧ H' D = some (.lst (List.replicate i .non)))
      ⟨same_upd hD, upd_same⟩ (fun i H' _ x => SqT.of (x.1 _ _ hR)) (fun i x H' hx y => ?_) (fun H1 y => ?_)⟩
    · obtain ⟨s1, hd⟩ := y
      have hi := at_lt hx
      rw [List.length_map] at hi
      refine ⟨rfl, tyes (iteT ⟨_, hd, ?_, same_own s1 hD, ?_⟩)⟩
      · rw [List.length_replicate]
        exact small (by omega)
      · rw [upd_same, List.replicate_succ']
    obtain ⟨s1, hd1⟩ := y
    rw [List.length_map] at hd1
    -- by = [None for room in book[0]]
    refine ⟨_, rfl, b, _, _, _, rfl, rfl, SqT.of (s1 _ _ hb), atI_nat (j := 0) rfl, r, rfl, ⟨_, SqT.of (s1 _ _ hR)⟩, fun D2 hD2 => lc_tup (K := K) (a := r) (xs := R.map iv) (fun i H' => Same H1 H' ∧ H' D2 = some (.lst (List.replicate i .non)))
      ⟨same_upd hD2, upd_same⟩ (fun i H' _ x => SqT.of (x.1 _ _ (s1 _ _ hR))) (fun i x H' hx y => ?_) (fun H2 y => ?_)⟩
    · obtain ⟨s2, hd⟩ := y
      have hi := at_lt hx
      rw [List.length_map] at hi
      refine ⟨rfl, tyes (iteT ⟨_, hd, ?_, same_own s2 hD2, ?_⟩)⟩
      · rw [List.length_replicate]
        exact small (by omega)
      · rw [upd_same, List.replicate_succ']
    obtain ⟨s2, hd2⟩ := y
    rw [List.length_map] at hd2
    have hD2' : H D2 = none := s1.free hD2
    have hne : D ≠ D2 := ne_of_none hd1 hD2
    have hd1' := s2 _ _ hd1
    -- times[sender] = since
    refine ⟨_, rfl, _, rfl, _, rfl, D, _, _, s, rfl, rfl, hd1', ixN_nat (by rw [List.length_replicate]; exact hs), ?_⟩
    have e0 : (List.replicate R.length V.non).set s (.int z) = tab R.length oi (ET (((ts.map (·.2)).take 0)) s z) := by
      rw [show List.replicate R.length V.non = tab R.length oi (fun _ => none) from tab_rep R.length oi none]
      exact tab_set (g := oi) (y := some z) hs
    have e1 : List.replicate R.length V.non = tab R.length oj (comB (ts.map (·.2)) s z 0) := tab_rep R.length oj none
    rw [e0]
    rw [e1] at hd2
    have s3 : Same H (upd H2 D (.lst (tab R.length oi (ET (((ts.map (·.2)).take 0)) s z)))) := same_own (s1.trans s2) hD
    have hq3 := s3 _ _ hq
    refine ⟨_, rfl, b, _, _, _, rfl, rfl, SqT.of (s3 _ _ hb), atI_nat (j := 1) rfl, q, _, rfl, SqT.of hq3, for_it (KX.walk_enumT (K := K) (a := q) (xs := ts.map KX.rf))
      (fun i σ H' => ∃ v5 v6 v7 v8 v9, σ = [some (.ref b), some (.int s), some (.int z), some (.ref D), some (.ref D2), v5, v6, v7, v8, v9] ∧ Same H H' ∧ H' D = some (.lst (tab R.length oi (ET ((ts.map (·.2)).take i) s z))) ∧ H' D2 = some (.lst (tab R.length oj (comB (ts.map (·.2)) s z i))))
      ⟨_, _, _, _, _, rfl, s3, upd_same, by rw [upd_ne (Ne.symm hne)]; exact hd2⟩ (fun i σ H' _ y => by obtain ⟨_, _, _, _, _, _, s4, _⟩ := y; exact SqT.of (s4 _ _ hq)) (fun i x σ H4 H5 hi y yy => ?_) (fun σ H4 y => ?_)⟩
    · obtain ⟨v5, v6, v7, v8, v9, rfl, s4, hT, hBy⟩ := y
      obtain ⟨t, x1, y1, rfl, ht, rfl, c1, c2⟩ := yy
      cases c1
      obtain ⟨p, hp, rfl⟩ := map_at c2
      have hm : (ts.map (·.2))[i]? = some p.2 := by rw [List.getElem?_map, hp]; rfl
      have hpm := List.mem_of_getElem? hp
      have fit := wf.fit p.2 (List.mem_map.mpr ⟨p, hpm, rfl⟩)
      have s5 := same_new (o := .tup [.int (i : Nat), .ref p.1]) s4 ht
      have hmt := s5 _ _ (hts p hpm)
      refine ⟨t, _, rfl, SqT.of upd_same, rfl, _, _, rfl, _, _, rfl, rfl, ?_⟩
      refine ⟨_, rfl, p.1, p.2, rfl, hmt, fun H6 l t1 t2 s6 hln hl ht1 ht2 => ?_⟩
      have hT6 := s6 _ _ (up_keep (o := .tup [.int (i : Nat), .ref p.1]) hT ht)
      have hB6 := s6 _ _ (up_keep (o := .tup [.int (i : Nat), .ref p.1]) hBy ht)
      have hmt6 := s6 _ _ hmt
      refine ⟨l, rfl, ⟨_, SqL.of hl⟩, for_list (K := K) (a := l) (xs := [.ref t1, .ref t2])
        (fun j σ H' => ∃ v7 v8, σ = [some (.ref b), some (.int s), some (.int z), some (.ref D), some (.ref D2), some (.int (i : Nat)), some (.ref p.1), v7, v8, v9] ∧ Same H H' ∧ H' D = some (.lst (tab R.length oi (stT p.2 (ET ((ts.map (·.2)).take i) s z) j))) ∧
          H' D2 = some (.lst (tab R.length oj (stB i p.2 (ET ((ts.map (·.2)).take i) s z) (comB (ts.map (·.2)) s z i) j))) ∧ H' l = some (.lst [.ref t1, .ref t2]) ∧ H' t1 = some (.tup [.int p.2.a, .int p.2.b]) ∧ H' t2 = some (.tup [.int p.2.b, .int p.2.a]) ∧ H' p.1 = some (.tup (KX.mv p.2)))
        ⟨_, _, rfl, s5.trans s6, hT6, hB6, hl, ht1, ht2, hmt6⟩ (fun j σ H' _ y => by obtain ⟨_, _, _, _, _, _, h7, _⟩ := y; exact SqL.of h7) (fun j x σ H7 hx y => ?_) (fun σ H7 y => ?_)⟩
      · obtain ⟨v7', v8', rfl, s7, h1, h2, h3, h4, h5, h6⟩ := y
        have hlD : l ≠ D := fun e => by rw [e] at hln; exact absurd (up_keep (o := .tup [.int (i : Nat), .ref p.1]) hT ht) (by rw [hln]; intro z; cases z)
        have hlD2 : l ≠ D2 := fun e => by rw [e] at hln; exact absurd (up_keep (o := .tup [.int (i : Nat), .ref p.1]) hBy ht) (by rw [hln]; intro z; cases z)
        obtain ⟨tt, g, o, rfl, htt, hg, ho, eT, eB⟩ : ∃ (tt : Addr) (g o : Nat), x = .ref tt ∧ H7 tt = some (.tup [.int g, .int o]) ∧ g < R.length ∧ o < R.length ∧
            stT p.2 (ET ((ts.map (·.2)).take i) s z) (j + 1) = giveT p.2.w g o (stT p.2 (ET ((ts.map (·.2)).take i) s z) j) ∧
            stB i p.2 (ET ((ts.map (·.2)).take i) s z) (comB (ts.map (·.2)) s z i) (j + 1) = giveB i p.2.w g o (stT p.2 (ET ((ts.map (·.2)).take i) s z) j) (stB i p.2 (ET ((ts.map (·.2)).take i) s z) (comB (ts.map (·.2)) s z i) j) := by
          match j, hx with
          | 0, hx => exact ⟨t1, p.2.a, p.2.b, (Option.some.inj hx).symm, h4, fit.a_lt, fit.b_lt, rfl, rfl⟩
          | 1, hx => exact ⟨t2, p.2.b, p.2.a, (Option.some.inj hx).symm, h5, fit.b_lt, fit.a_lt, rfl, rfl⟩
          | j + 2, hx => simp at hx
        rw [eT, eB]
        generalize stT p.2 (ET ((ts.map (·.2)).take i) s z) j = T1 at h1 ⊢
        generalize stB i p.2 (ET ((ts.map (·.2)).take i) s z) (comB (ts.map (·.2)) s z i) j = B1 at h2 ⊢
        have same : can T1 p.2.w g o = false → giveT p.2.w g o T1 = T1 ∧ giveB i p.2.w g o T1 B1 = B1 := fun hc => by
          unfold giveT giveB
          rw [hc]
          exact ⟨rfl, rfl⟩
        refine ⟨tt, _, rfl, SqT.of htt, rfl, _, _, rfl, _, _, rfl, rfl, ?_⟩
        refine ⟨_, rfl, _, rfl, D, _, _, _, rfl, rfl, SqL.of h1, atI_nat (tab_get ho), _, rfl, ?_⟩
        cases hTo : T1 o with
        | some u =>
          have hc : can T1 p.2.w g o = false := by unfold can; rw [hTo]
          rw [(same hc).1, (same hc).2]
          exact iteDN (fun e => by cases e) (iteF ⟨_, _, rfl, s7, h1, h2, h3, h4, h5, h6⟩)
        | none =>
          refine iteD rfl ?_
          refine ⟨_, rfl, _, rfl, D, _, _, _, rfl, rfl, SqL.of h1, atI_nat (tab_get hg), _, rfl, ?_⟩
          cases hTg : T1 g with
          | none =>
            have hc : can T1 p.2.w g o = false := by unfold can; rw [hTo, hTg]
            rw [(same hc).1, (same hc).2]
            exact iteNS rfl (iteF ⟨_, _, rfl, s7, h1, h2, h3, h4, h5, h6⟩)
          | some u =>
            refine iteND (fun e => by cases e) ?_
            have hgu : (tab R.length oi T1)[g]? = some (.int u) := by rw [tab_get hg, hTg]
            refine ⟨_, rfl, _, rfl, D, _, _, _, rfl, rfl, SqL.of h1, atI_nat hgu, _, rfl, p.1, _, _, _, rfl, rfl, SqT.of h6, atI_nat (j := 2) rfl, _, _, rfl, rfl, _, rfl, ?_⟩
            by_cases hu : u < p.2.w
            · have hc : can T1 p.2.w g o = true := can_iff.mpr ⟨hTo, u, hTg, hu⟩
              have eg : giveT p.2.w g o T1 = fun x => if x = o then some p.2.w else T1 x := by unfold giveT; rw [if_pos hc]
              have eb : giveB i p.2.w g o T1 B1 = fun x => if x = o then some i else B1 x := by unfold giveB; rw [if_pos hc]
              rw [eg, eb, ← tab_set (g := oi) ho, ← tab_set (g := oj) ho]
              refine iteD hu ?_
              refine ⟨_, rfl, p.1, _, _, _, rfl, rfl, SqT.of h6, atI_nat (j := 2) rfl, _, rfl, _, rfl, D, _, _, o, rfl, rfl, h1, ixN_nat (by rw [tab_len]; exact ho), ?_⟩
              refine ⟨_, rfl, _, rfl, _, rfl, D2, _, _, o, rfl, rfl, (by rw [upd_ne (Ne.symm hne)]; exact h2), ixN_nat (by rw [tab_len]; exact ho), ?_⟩
              refine ⟨_, _, rfl, same_own (same_own s7 hD) hD2', by rw [upd_ne hne, upd_same], upd_same, ?_, ?_, ?_, ?_⟩
              · rw [upd_ne hlD2, upd_ne hlD]; exact h3
              · exact up_oth (up_oth h4 h1 (by intro z; cases z)) (by rw [upd_ne (Ne.symm hne)]; exact h2) (by intro z; cases z)
              · exact up_oth (up_oth h5 h1 (by intro z; cases z)) (by rw [upd_ne (Ne.symm hne)]; exact h2) (by intro z; cases z)
              · exact up_oth (up_oth h6 h1 (by intro z; cases z)) (by rw [upd_ne (Ne.symm hne)]; exact h2) (by intro z; cases z)
            · have hc : can T1 p.2.w g o = false := by unfold can; rw [hTo, hTg]; exact decide_eq_false hu
              rw [(same hc).1, (same hc).2]
              exact iteDN hu ⟨_, _, rfl, s7, h1, h2, h3, h4, h5, h6⟩
      · obtain ⟨v7', v8', rfl, s7, h1, h2, _⟩ := y
        refine ⟨_, _, _, _, _, rfl, s7, ?_, ?_⟩
        · rw [ET_take hm]
          exact h1
        · rw [comB_succ hm]
          exact h2
    · obtain ⟨v5, v6, v7, v8, v9, rfl, s4, hT, hBy⟩ := y
      rw [List.length_map] at hT hBy
      have e2 : (ts.map (·.2)).take ts.length = ts.map (·.2) := List.take_of_length_le (by rw [List.length_map]; exact Nat.le_refl _)
      rw [e2] at hT
      refine ⟨_, rfl, _, rfl, by show 2 ≤ sizeLine; decide, fun p hp => k _ p D D2 (same_new s4 hp) upd_same (up_keep hT hp) ?_⟩
      rw [List.length_map]
      exact up_keep hBy hp
theorem ok_earliest_times {f : Addr} {fd : FuncData} (F : Fun K "earliest_times" "earliest_times" s_earliest_times f fd) (T : Txt P w K mg fk)
    (C_comings : Cal P w K mg base "comings" 2 ["book", "sender", "since"] spComings) : FnOk P w K mg base CX0 3 f fd ["book", "sender", "since"] spTimes := by
  refine F.ok sc_earliest_times (fun vs H Q E h => ?_) (fun cdv A outer s H vs Q E hr h => ?_)
  · obtain ⟨b, R, ms, s, z, rfl, _⟩ := h
    rfl
  · obtain ⟨b, R, ms, s, z, rfl, hB, hn12, wf, hs, k⟩ := h
    refine ⟨_, (pss_one (ps_ret (pe_ix ix_tup (pe_cal C_comings hr (pa_cons (pv 0) (pa_cons (pv 1) (pa_cons (pv 2) pa_nil)))) pe_int (fun _ _ => rfl)))), ?_⟩
    exact ⟨_, rfl, _, rfl, _, rfl, b, R, ms, s, z, rfl, hB, hn12, wf, hs, fun H1 p t y s1 hp ht hy => ⟨p, _, _, _, rfl, rfl, SqT.of hp, atI_nat (j := 0) rfl, k _ t s1 ht⟩⟩
end
end K3
end
section
namespace K3
open PySem L2 Sat PyProof.Rows
abbrev nv : Nat → V := fun j => V.int ((j : Nat) : Int)
/-- how far chain_by still goes -/
def left_ (B : Nat → Option Nat) (y : Nat) : Nat := match B y with
  | none => 0
  | some j => j + 1
section
variable {P : Program} {w : World} {K : PySem.W.Frag} {mg : Str → Option Value} {base : Heap} {fk : Addr}
theorem ok_chain_by {f : Addr} {fd : FuncData} (F : Fun K "chain_by" "chain_by" s_chain_by f fd) (T : Txt P w K mg fk) : FnOk P w K mg base CX0 1 f fd ["book", "by", "walker"] spChainBy := by
  refine F.ok sc_chain_by (fun vs H Q E h => ?_) (fun cdv A outer s H vs Q E hr h => ?_)
  · obtain ⟨b, y, R, ms, s, x, z, t, rfl, _⟩ := h
    rfl
  · obtain ⟨b, by_, R, ms, s, x, z, t, rfl, hB, wf, hs, hx, hy, ht, k⟩ := h
    obtain ⟨r, q, hb, hR, ts, hq, hts, rfl⟩ := id hB
    have hlen := wf.len
    have G := good (ts.map (·.2)) s z
    refine ⟨_, (pss_cons (ps_set (i := 3) sc_chain_by.nd rfl (Or.inl rfl) (pe_lst pa_nil))
      (pss_cons (ps_while PassesOwn.never (pt_cmp (pc_notN (pe_ix ix_list (pv 1) (pv 2) (fun _ _ => rfl)))) (pss_cons (ps_set (i := 4) sc_chain_by.nd rfl (Or.inl rfl) (pe_ix ix_list (pv 1) (pv 2) (fun _ _ => rfl)))
      (pss_cons (ps_expr (pe_bm PySem.F.plainAttrs_list PySem.F.slot_list_append PySem.F.type_list_append mt_append (pv 3) (pa_cons (pv 4) pa_nil)))
      (pss_one (ps_set (i := 2) sc_chain_by.nd rfl (Or.inl rfl) (pe_op op_sub (pe_op op_add (pe_ix ix_tup (pe_ix ix_tup (pe_ix ix_tup (pv 0) pe_int (fun _ _ => rfl)) (pv 4) (fun _ _ => rfl)) pe_int (fun _ _ => rfl)) (pe_ix ix_tup (pe_ix ix_tup (pe_ix ix_tup (pv 0) pe_int (fun _ _ => rfl)) (pv 4) (fun _ _ => rfl)) pe_int (fun _ _ => rfl))) (pv 2)))))))
      (pss_one (ps_ret (pe_revL (pv 3)))))), ?_⟩
    refine ⟨Nat.zero_le _, fun D hD => ?_⟩
    refine while_by (fun σ H' => ∃ (y : Nat) (ty : Int) (Fs : List Nat) (v4 : Option V), σ = [some (.ref b), some (.ref by_), some (.int (y : Nat)), some (.ref D), v4] ∧ Same H H' ∧ H' D = some (.lst (Fs.map nv)) ∧ y < R.length ∧
        ET (ts.map (·.2)) s z y = some ty ∧ go (ts.map (·.2)) y ty Fs.reverse = some (x, t) ∧ Fs.length + left_ (comB (ts.map (·.2)) s z (ts.map (·.2)).length) y ≤ (ts.map (·.2)).length)
      (fun (σ : List (Option V)) _ => match σ[2]? with | some (some (V.int i)) => left_ (comB (ts.map (·.2)) s z (ts.map (·.2)).length) i.toNat | _ => 0)
      ⟨x, t, [], _, rfl, same_upd hD, upd_same, hx, ht, rfl, ?_⟩ (fun σ H' y => ?_) (fun σ H' Q1 Q2 hq12 h => ?_)
    · rw [List.length_nil, Nat.zero_add]
      unfold left_
      split
      · exact Nat.zero_le _
      · rename_i j e
        exact (G.by_ x j e).1
    · obtain ⟨y, ty, Fs, v4, rfl, s1, hF, hyl, hty, hgo, hlf⟩ := y
      refine ⟨_, rfl, _, rfl, by_, _, _, _, rfl, rfl, SqL.of (s1 _ _ hy), atI_nat (tab_get hyl), _, rfl, ?_⟩
      cases hBy : comB (ts.map (·.2)) s z (ts.map (·.2)).length y with
      | none =>
        refine iteNS rfl ?_
        have hys : y = s := Classical.byContradiction fun hn => G.has y hn (by rw [hty]; exact Option.some_ne_none _) hBy
        subst hys
        have htz : ty = z := by
          have := G.own.1
          rw [hty] at this
          exact Option.some.inj this
        subst htz
        refine ⟨_, rfl, D, _, rfl, SqL.of hF, fun p hp => ?_⟩
        refine k _ p Fs.reverse (same_new s1 hp) (by rw [List.map_reverse]; exact upd_same) (by rw [List.length_reverse]; omega) hgo
      | some j =>
        refine iteND (fun e => by cases e) ?_
        obtain ⟨hj, m, hm, hTm, y', t', hor, hT', hlt, hdec⟩ := G.by_ y j hBy
        have etm : ty = m.w := by
          rw [hty] at hTm
          exact Option.some.inj hTm
        subst etm
        obtain ⟨p, hp, hpm⟩ : ∃ p, ts[j]? = some p ∧ p.2 = m := by
          obtain ⟨p, h1, h2⟩ := map_at hm
          exact ⟨p, h1, h2.symm⟩
        have hmem := List.mem_of_getElem? hp
        have fit := wf.fit p.2 (List.mem_map.mpr ⟨p, hmem, rfl⟩)
        rw [hpm] at fit
        have hmt := hts p hmem
        rw [hpm] at hmt
        have hqj : (ts.map KX.rf)[j]? = some (.ref p.1) := by rw [List.getElem?_map, hp]; rfl
        have hbj : (tab R.length oj (comB (ts.map (·.2)) s z (ts.map (·.2)).length))[y]? = some (.int ((j : Nat) : Int)) := by rw [tab_get hyl, hBy]
        have hFl : Fs.length + (j + 1) ≤ (ts.map (·.2)).length := by
          have := hlf
          unfold left_ at this
          rw [hBy] at this
          exact this
        -- number = by[walker]; found.append(number)
        refine ⟨_, rfl, _, rfl, by_, _, _, _, rfl, rfl, SqL.of (s1 _ _ hy), atI_nat hbj, ?_⟩
        refine ⟨_, rfl, .inl ⟨rfl, _, SqL.of hF⟩, _, rfl, D, _, _, rfl, rfl, hF, small (by rw [List.length_map]; omega), ?_⟩
        have s2 : Same H (upd H' D (.lst (Fs.map nv ++ [.int ((j : Nat) : Int)]))) := same_own s1 hD
        -- walker = book[1][number][0] + book[1][number][1] - walker
        refine ⟨_, rfl, b, _, _, _, rfl, rfl, SqT.of (s2 _ _ hb), atI_nat (j := 1) rfl, _, rfl, q, _, _, _, rfl, rfl, SqT.of (s2 _ _ hq), atI_nat hqj, p.1, _, _, _, rfl, rfl, SqT.of (s2 _ _ hmt), atI_nat (j := 0) rfl, ?_⟩
        refine ⟨_, rfl, b, _, _, _, rfl, rfl, SqT.of (s2 _ _ hb), atI_nat (j := 1) rfl, _, rfl, q, _, _, _, rfl, rfl, SqT.of (s2 _ _ hq), atI_nat hqj, p.1, _, _, _, rfl, rfl, SqT.of (s2 _ _ hmt), atI_nat (j := 1) rfl, ?_⟩
        refine ⟨_, _, rfl, rfl, _, rfl, _, _, rfl, rfl, ?_⟩
        have ey : ((m.a : Int) + m.b - (y : Int)) = ((y' : Nat) : Int) := by omega
        have hmu : left_ (comB (ts.map (·.2)) s z (ts.map (·.2)).length) y' < j + 1 := by
          unfold left_
          split
          · omega
          · rename_i j' e
            have := hdec j' e
            omega
        have ec : Fs.map nv ++ [V.int ((j : Nat) : Int)] = (Fs ++ [j]).map nv := by rw [List.map_append]; rfl
        refine ⟨⟨y', t', Fs ++ [j], some (.int ((j : Nat) : Int)), ?_, s2, ?_, ?_, hT', ?_, ?_⟩, ?_⟩
        · rw [← ey]
          rfl
        · rw [← ec]
          exact upd_same
        · have := fit.a_lt
          have := fit.b_lt
          omega
        · rw [List.reverse_append]
          refine go_mk hm (by omega) hlt ?_
          have e2 : m.a + m.b - y' = y := by omega
          rw [e2]
          exact hgo
        · rw [List.length_append, List.length_singleton]
          omega
        · show left_ (comB (ts.map (·.2)) s z (ts.map (·.2)).length) ((m.a : Int) + m.b - (y : Int)).toNat < left_ (comB (ts.map (·.2)) s z (ts.map (·.2)).length) ((y : Nat) : Int).toNat
          rw [ey, Int.toNat_natCast, Int.toNat_natCast]
          have e3 : left_ (comB (ts.map (·.2)) s z (ts.map (·.2)).length) y = j + 1 := by unfold left_; rw [hBy]
          rw [e3]
          exact hmu
    · obtain ⟨v, e1, v2, e2, p, xs, i, u, h1, h2, h3, h4, c, h5, h6⟩ := h
      exact ⟨v, e1, v2, e2, p, xs, i, u, h1, h2, h3, h4, c, h5, hq12 _ _ h6⟩
theorem ok_earliest {f : Addr} {fd : FuncData} (F : Fun K "earliest" "earliest" s_earliest f fd) (T : Txt P w K mg fk)
    (C_comings : Cal P w K mg base "comings" 2 ["book", "sender", "since"] spComings) (C_chain_by : Cal P w K mg base "chain_by" 1 ["book", "by", "walker"] spChainBy) : FnOk P w K mg base CX0 3 f fd ["book", "letter"] spEarliest := by
  refine F.ok sc_earliest (fun vs H Q E h => ?_) (fun cdv A outer s H vs Q E hr h => ?_)
  · obtain ⟨b, a, R, ms, l, rfl, _⟩ := h
    rfl
  · obtain ⟨b, a, R, ms, l, rfl, hB, hn12, wf, hs, hx, ha, kn, ky⟩ := h
    refine ⟨_, (pss_cons (ps_asg (pv 1) (pg_tup rfl (pgs_cons (pg_name (i := 2) sc_earliest.nd rfl (Or.inl rfl)) (pgs_cons (pg_name (i := 3) sc_earliest.nd rfl (Or.inl rfl)) (pgs_cons (pg_name (i := 4) sc_earliest.nd rfl (Or.inl rfl)) (pgs_cons (pg_name (i := 5) sc_earliest.nd rfl (Or.inl rfl)) pgs_nil))))))
      (pss_cons (ps_asg (pe_cal C_comings hr (pa_cons (pv 0) (pa_cons (pv 2) (pa_cons (pv 3) pa_nil)))) (pg_tup rfl (pgs_cons (pg_name (i := 6) sc_earliest.nd rfl (Or.inl rfl)) (pgs_cons (pg_name (i := 7) sc_earliest.nd rfl (Or.inl rfl)) pgs_nil))))
      (pss_cons (ps_if (pw_or (pt_cmp (pc_isN (pe_ix ix_list (pv 6) (pv 4) (fun _ _ => rfl)))) (pw_or1 (pt_cmpR op_gt (pe_ix ix_list (pv 6) (pv 4) (fun _ _ => rfl)) (pv 5) (nomark _)))).pt (pss_one (ps_ret pe_non)) pss_nil)
      (pss_one (ps_ret (pe_cal C_chain_by hr (pa_cons (pv 0) (pa_cons (pv 7) (pa_cons (pv 4) pa_nil))))))))), ?_⟩
    refine ⟨_, rfl, a, _, rfl, SqT.of ha, rfl, _, _, rfl, _, _, rfl, _, _, rfl, _, _, rfl, rfl, ?_⟩
    refine ⟨_, rfl, _, rfl, _, rfl, b, R, ms, l.s, l.z, rfl, hB, hn12, wf, hs, fun H1 p t y s1 hp ht hy => ?_⟩
    refine ⟨p, _, rfl, SqT.of hp, rfl, _, _, rfl, _, _, rfl, rfl, ?_⟩
    refine ⟨_, rfl, _, rfl, t, _, _, _, rfl, rfl, SqL.of ht, atI_nat (tab_get hx), _, rfl, ?_⟩
    cases he : ET ms l.s l.z l.x with
    | none =>
      refine iteD rfl (iteT ?_)
      exact kn (by unfold comes; rw [he]) _ s1
    | some u =>
      refine iteDN (fun e => by cases e) ?_
      have hu : (tab R.length oi (ET ms l.s l.z))[l.x]? = some (.int u) := by rw [tab_get hx, he]
      refine ⟨_, rfl, _, rfl, t, _, _, _, rfl, rfl, SqL.of ht, atI_nat hu, _, rfl, _, _, rfl, rfl, _, rfl, ?_⟩
      by_cases hl : l.t < u
      · refine iteD hl ?_
        exact kn (by unfold comes; rw [he]; exact decide_eq_false (by omega)) _ s1
      · refine iteDN hl ?_
        have hc : comes ms l.s l.z l.x l.t = true := by unfold comes; rw [he]; exact decide_eq_true (by omega)
        exact ⟨_, rfl, _, rfl, _, rfl, b, y, R, ms, l.s, l.x, l.z, u, rfl, hB.same s1, wf, hs, hx, hy, he, fun H2 p2 c s2 hp2 hlen hgo => ky u _ p2 c hc he (s1.trans s2) hp2 hlen hgo⟩
end
end K3
end
section
namespace K3
open PySem L2 Sat PyProof.Rows
theorem scal_oi (a b : Option Int) : scal (oi a) (oi b) = true := by cases a <;> cases b <;> rfl
theorem oi_inj {a b : Option Int} (h : oi a = oi b) : a = b := by
  cases a <;> cases b <;> first | rfl | (injection h with h; rw [h]) | exact nomatch h
section
variable {P : Program} {w : World} {K : PySem.W.Frag} {mg : Str → Option Value} {base : Heap} {fk : Addr}
theorem ok_unlike_at {f : Addr} {fd : FuncData} (F : Fun K "unlike_at" "unlike_at" s_unlike_at f fd) (T : Txt P w K mg fk) : FnOk P w K mg base CX0 1 f fd ["one", "other"] spUnlike := by
  refine F.ok sc_unlike_at (fun vs H Q E h => ?_) (fun cdv A outer s H vs Q E hr h => ?_)
  · obtain ⟨p, q, n, f, g, rfl, _⟩ := h
    rfl
  · obtain ⟨p, q, n, f, g, rfl, hn, hp, hq, k1, k2⟩ := h
    have hp' := hp
    have hq' := hq
    refine ⟨_, (pss_cons (ps_for PassesOwn.never rfl (pi_range1 (by rfl) T.range (pa_cons (pe_callB call_len_seq (by rfl) T.len PySem.boot_len (pa_cons (pv 0) pa_nil)) pa_nil)) (pg_name (i := 2) sc_unlike_at.nd rfl (Or.inl rfl)) (pss_one (ps_if (pt_cmpR op_ne (pe_ix ix_list (pv 0) (pv 2) (fun _ _ => rfl)) (pe_ix ix_list (pv 1) (pv 2) (fun _ _ => rfl)) (nomark _)) (pss_one (ps_ret (pe_tup (pa_cons (pv 2) (pa_cons (pe_callB (cr_min rfl) (by rfl) T.min boot_min (pa_cons (pe_lc (own := [("time", 3)]) (by rfl) sc_unlike_at.nd (pi_tup (pe_tup (pa_cons (pe_ix ix_list (pv 0) (pv 2) (fun _ _ => rfl)) (pa_cons (pe_ix ix_list (pv 1) (pv 2) (fun _ _ => rfl)) pa_nil)))) (blkOk_by (own := [("time", 3)]) (N := ["one", "other", "walker", "time"]) (sc := defScope s_unlike_at) (by decide +kernel)) (fun _ _ _ _ _ => (pg_name (i := 3) sc_unlike_at.nd rfl (Or.inl rfl))) (fun _ _ _ _ _ => (pts_one (pt_cmp (pc_notN (pv 3))))) (fun _ _ _ _ _ => (pv 3))) pa_nil)) pa_nil))))) pss_nil)))
      (pss_one (ps_ret pe_non))), ?_⟩
    refine ⟨_, rfl, p, _, rfl, .inl (SqL.of hp), _, rfl, by rw [tab_len]; omega, by rw [tab_len]; omega, ?_⟩
    rw [tab_len, Int.toNat_natCast]
    refine for_range (lo := 0) (n := n) (fun i σ H' => ∃ v, σ = [some (.ref p), some (.ref q), v, none] ∧ H' = H ∧ ∀ x, x < i → f x = g x) ⟨_, rfl, rfl, fun x hx => absurd hx (Nat.not_lt_zero x)⟩ (fun i σ H' hi y => ?_) (fun σ H' y => ?_)
    · obtain ⟨v, rfl, rfl, hall⟩ := y
      have e0 : (0 : Int) + ((i : Nat) : Int) = ((i : Nat) : Int) := Int.zero_add _
      rw [e0]
      refine ⟨_, rfl, _, rfl, p, _, _, _, rfl, rfl, SqL.of hp, atI_nat (tab_get hi), _, rfl, _, rfl, q, _, _, _, rfl, rfl, SqL.of hq, atI_nat (tab_get hi), scal_oi _ _, _, rfl, ?_⟩
      by_cases e : f i = g i
      · refine iteNS (by rw [e]) ⟨_, rfl, rfl, fun x hx => ?_⟩
        by_cases hxi : x = i
        · rw [hxi]; exact e
        · exact hall x (by omega)
      · refine iteND (fun z => e (oi_inj z)) ?_
        refine ⟨_, rfl, _, rfl, _, rfl, p, _, _, _, rfl, rfl, SqL.of hp, atI_nat (tab_get hi), _, rfl, _, rfl, q, _, _, _, rfl, rfl, SqL.of hq, atI_nat (tab_get hi), by show 2 ≤ sizeLine; decide, fun t ht => ?_⟩
        refine ⟨t, rfl, ⟨_, SqT.of upd_same⟩, fun D hD => lc_tup (K := K) (a := t) (xs := [oi (f i), oi (g i)]) (fun j H1 => Same (upd H' t (.tup [oi (f i), oi (g i)])) H1 ∧ H1 D = some (.lst ((([f i, g i].take j).filterMap id).map V.int)))
          ⟨same_upd hD, upd_same⟩ (fun j H1 _ y => SqT.of (y.1 _ _ upd_same)) (fun j x H1 hx y => ?_) (fun H1 y => ?_)⟩
        · obtain ⟨s1, hd⟩ := y
          obtain ⟨o, ho, rfl⟩ : ∃ o, [f i, g i][j]? = some o ∧ x = oi o := map_at (l := [f i, g i]) (f := oi) hx
          have hj := at_lt ho
          have hj2 : j < 2 := hj
          have et : [f i, g i].take (j + 1) = [f i, g i].take j ++ [o] := by rw [List.take_add_one, ho]; rfl
          rw [et, List.filterMap_append]
          refine ⟨rfl, _, rfl, _, rfl, ?_⟩
          cases o with
          | none =>
            refine iteNS rfl ⟨s1, ?_⟩
            simpa using hd
          | some u =>
            refine iteND (fun z => by cases z) ?_
            refine ⟨_, rfl, _, hd, ?_, same_own s1 hD, ?_⟩
            · rw [List.length_map]
              have h1 := List.length_filterMap_le id ([f i, g i].take j)
              rw [List.length_take] at h1
              exact small (by omega)
            · rw [upd_same, List.map_append]
              rfl
        · obtain ⟨s1, hd⟩ := y
          have hmem : ∀ u, u ∈ ([f i, g i].take 2).filterMap id ↔ f i = some u ∨ g i = some u := fun u => by simp [eq_comm]
          have hpos : 0 < (([f i, g i].take 2).filterMap id).length := by
            rcases Option.eq_none_or_eq_some (f i) with hf | ⟨u, hf⟩
            · rcases Option.eq_none_or_eq_some (g i) with hg | ⟨u, hg⟩
              · exact absurd (hf.trans hg.symm) e
              · exact List.length_pos_of_mem ((hmem u).mpr (.inr hg))
            · exact List.length_pos_of_mem ((hmem u).mpr (.inl hf))
          refine ⟨D, _, rfl, SqL.of hd, hpos, fun m hm hle => ⟨by show 2 ≤ sizeLine; decide, fun b hb => ?_⟩⟩
          exact k2 _ b i m hi e ((hmem m).mp hm) (fun u hu => hle u ((hmem u).mpr hu)) (same_new ((same_upd ht).trans s1) hb) upd_same
    · obtain ⟨v, rfl, rfl, hall⟩ := y
      exact k1 hall _ (Same.refl _)
theorem ok_parting {f : Addr} {fd : FuncData} (F : Fun K "parting" "parting" s_parting f fd) (T : Txt P w K mg fk)
    (C_earliest_times : Cal P w K mg base "earliest_times" 3 ["book", "sender", "since"] spTimes) (C_unlike_at : Cal P w K mg base "unlike_at" 1 ["one", "other"] spUnlike) : FnOk P w K mg base CX0 4 f fd ["book", "other"] spParting := by
  refine F.ok sc_parting (fun vs H Q E h => ?_) (fun cdv A outer s H vs Q E hr h => ?_)
  · obtain ⟨b, c, R, ms, ms', rfl, _⟩ := h
    rfl
  · obtain ⟨b, c, R, ms, ms', rfl, hB, hC, hn12, wf, wf', k1, k2⟩ := h
    obtain ⟨r, q, hb, hR, _⟩ := id hB
    obtain ⟨r', q', hc, hR', _⟩ := id hC
    refine ⟨_, (pss_cons (ps_if (pt_cmpR op_ne (pe_callB call_len_seq (by rfl) T.len PySem.boot_len (pa_cons (pe_ix ix_tup (pv 0) pe_int (fun _ _ => rfl)) pa_nil)) (pe_callB call_len_seq (by rfl) T.len PySem.boot_len (pa_cons (pe_ix ix_tup (pv 1) pe_int (fun _ _ => rfl)) pa_nil)) (nomark _)) (pss_one ps_never) pss_nil)
      (pss_cons (ps_for PassesOwn.never rfl (pi_range1 (by rfl) T.range (pa_cons (pe_callB call_len_seq (by rfl) T.len PySem.boot_len (pa_cons (pe_ix ix_tup (pv 0) pe_int (fun _ _ => rfl)) pa_nil)) pa_nil)) (pg_name (i := 2) sc_parting.nd rfl (Or.inl rfl)) (pss_cons (ps_set (i := 3) sc_parting.nd rfl (Or.inl rfl) (pe_cal C_unlike_at hr (pa_cons (pe_cal C_earliest_times hr (pa_cons (pv 0) (pa_cons (pv 2) (pa_cons pe_int pa_nil)))) (pa_cons (pe_cal C_earliest_times hr (pa_cons (pv 1) (pa_cons (pv 2) (pa_cons pe_int pa_nil)))) pa_nil))))
      (pss_one (ps_if (pt_cmp (pc_notN (pv 3))) (pss_one (ps_ret (pe_tup (pa_cons (pv 2) (pa_cons pe_int (pa_cons (pe_ix ix_tup (pv 3) pe_int (fun _ _ => rfl)) (pa_cons (pe_ix ix_tup (pv 3) pe_int (fun _ _ => rfl)) pa_nil))))))) pss_nil))))
      (pss_one (ps_ret pe_non)))), ?_⟩
    refine ⟨_, rfl, b, _, _, _, rfl, rfl, SqT.of hb, atI_nat (j := 0) rfl, r, _, rfl, .inr (SqT.of hR), _, rfl, c, _, _, _, rfl, rfl, SqT.of hc, atI_nat (j := 0) rfl, r', _, rfl, .inr (SqT.of hR'), rfl, _, rfl, iteNS rfl ?_⟩
    refine ⟨_, rfl, b, _, _, _, rfl, rfl, SqT.of hb, atI_nat (j := 0) rfl, r, _, rfl, .inr (SqT.of hR), _, rfl, by rw [List.length_map]; omega, by rw [List.length_map]; omega, ?_⟩
    rw [List.length_map, Int.toNat_natCast]
    refine for_range (lo := 0) (n := R.length) (fun i σ H' => ∃ v2 v3, σ = [some (.ref b), some (.ref c), v2, v3] ∧ Same H H' ∧ ∀ s, s < i → ∀ x, x < R.length → ET ms s 0 x = ET ms' s 0 x) ⟨_, _, rfl, Same.refl _, fun s hs => absurd hs (Nat.not_lt_zero s)⟩ (fun i σ H' hi y => ?_) (fun σ H' y => ?_)
    · obtain ⟨v2, v3, rfl, s1, hall⟩ := y
      have e0 : (0 : Int) + ((i : Nat) : Int) = ((i : Nat) : Int) := Int.zero_add _
      rw [e0]
      refine ⟨_, rfl, _, rfl, b, R, ms, i, 0, rfl, hB.same s1, hn12, wf, hi, fun H1 t1 s2 ht1 => ?_⟩
      refine ⟨_, rfl, _, rfl, c, R, ms', i, 0, rfl, hC.same (s1.trans s2), hn12, wf', hi, fun H2 t2 s3 ht2 => ?_⟩
      refine ⟨t1, t2, R.length, ET ms i 0, ET ms' i 0, rfl, hn12, s3 _ _ ht1, ht2, fun he H3 s4 => ?_, fun H3 a x t hx hne hone hle s4 ha => ?_⟩
      · refine ⟨_, rfl, _, rfl, iteNS rfl ⟨_, _, rfl, ((s1.trans s2).trans s3).trans s4, fun s hs x hx => ?_⟩⟩
        by_cases e : s = i
        · rw [e]; exact he x hx
        · exact hall s (by omega) x hx
      · refine ⟨_, rfl, _, rfl, iteND (fun z => by cases z) ?_⟩
        refine ⟨_, rfl, _, rfl, a, _, _, _, rfl, rfl, SqT.of ha, atI_nat (j := 0) rfl, _, rfl, a, _, _, _, rfl, rfl, SqT.of ha, atI_nat (j := 1) rfl, by show 4 ≤ sizeLine; decide, fun p hp => ?_⟩
        exact k2 _ p i x t ⟨hi, hx, hne, hone, hle⟩ (same_new (((s1.trans s2).trans s3).trans s4) hp) upd_same
    · obtain ⟨v2, v3, rfl, s1, hall⟩ := y
      exact k1 hall _ s1
theorem ok_thinned {f : Addr} {fd : FuncData} (F : Fun K "thinned" "thinned" s_thinned f fd) (T : Txt P w K mg fk)
    (C_without : Cal P w K mg base "without" 5 ["book", "meeting"] spWithout) (C_parting : Cal P w K mg base "parting" 4 ["book", "other"] spParting) : FnOk P w K mg base CX0 6 f fd ["book"] spThinned := by
  refine F.ok sc_thinned (fun vs H Q E h => ?_) (fun cdv A outer s H vs Q E hr h => ?_)
  · obtain ⟨b, R, ms, rfl, _⟩ := h
    rfl
  · obtain ⟨b, R, ms, rfl, hB, ok, wf, k⟩ := h
    obtain ⟨r, q, hb, hR, ts, hq, hts, ets⟩ := id hB
    have o2 := ok.most
    have hlen := wf.len
    have tl : ts.length = ms.length := by rw [← ets, List.length_map]
    refine ⟨_, (pss_cons (ps_set (i := 1) sc_thinned.nd rfl (Or.inr rfl) (pv 0))
      (pss_cons (ps_for PassesOwn.never rfl (pi_range3 (by rfl) T.range (pa_cons (pe_op op_sub (pe_callB call_len_seq (by rfl) T.len PySem.boot_len (pa_cons (pe_ix ix_tup (pv 0) pe_int (fun _ _ => rfl)) pa_nil)) pe_int) (pa_cons (pe_un un_neg pe_int) (pa_cons (pe_un un_neg pe_int) pa_nil)))) (pg_name (i := 2) sc_thinned.nd rfl (Or.inl rfl)) (pss_cons (ps_set (i := 3) sc_thinned.nd rfl (Or.inl rfl) (pe_cal C_without hr (pa_cons (pv 1) (pa_cons (pv 2) pa_nil))))
      (pss_one (ps_if (pt_cmp (pc_isN (pe_cal C_parting hr (pa_cons (pv 1) (pa_cons (pv 3) pa_nil))))) (pss_one (ps_set (i := 1) sc_thinned.nd rfl (Or.inr rfl) (pv 3))) pss_nil))))
      (pss_one (ps_ret (pe_tup (pa_cons (pv 1) (pa_cons (pe_lc (own := [("number", 2)]) (by rfl) sc_thinned.nd (pi_range1 (by rfl) T.range (pa_cons (pe_callB call_len_seq (by rfl) T.len PySem.boot_len (pa_cons (pe_ix ix_tup (pv 1) pe_int (fun _ _ => rfl)) pa_nil)) pa_nil)) (blkOk_by (own := [("number", 2)]) (N := ["book", "left", "number", "less"]) (sc := defScope s_thinned) (by decide +kernel)) (fun _ _ _ _ _ => (pg_name (i := 2) sc_thinned.nd rfl (Or.inl rfl))) (fun _ _ _ _ _ => pts_nil) (fun _ _ _ _ _ => (pe_cal C_parting hr (pa_cons (pv 1) (pa_cons (pe_cal C_without hr (pa_cons (pv 1) (pa_cons (pv 2) pa_nil))) pa_nil))))) pa_nil))))))), ?_⟩
    refine ⟨_, rfl, ?_⟩
    have rg : RgC ((ms.length : Int) - 1) (-1) (-1) ms.length := by
      have h := RgC.neg (i := (ms.length : Int) - 1) (j := -1) (by omega) (by omega) (by omega) (by omega)
      have e : ((ms.length : Int) - 1 - (-1)).toNat = ms.length := by omega
      rw [e] at h
      exact h
    refine ⟨_, rfl, b, _, _, _, rfl, rfl, SqT.of hb, atI_nat (j := 1) rfl, q, _, rfl, .inr (SqT.of hq), _, _, rfl, rfl, _, rfl, _, rfl, (ms.length : Int) - 1, -1, -1, ms.length, (by rw [List.length_map, tl]), rg, ?_⟩
    refine for_rangeC (lo := (ms.length : Int) - 1) (c := -1) (n := ms.length) (fun i σ H' => ∃ c v2 v3 L, σ = [some (.ref b), some (.ref c), v2, v3] ∧ Same H H' ∧ BookAt H' c R (ms.take (ms.length - i) ++ L) ∧ Thin R.length ms (ms.length - i) L)
      ⟨b, _, _, [], rfl, Same.refl _, by simpa using hB, by simpa using thin_start R.length ms⟩ (fun i σ H' hi y => ?_) (fun σ H' y => ?_)
    · obtain ⟨c, v2, v3, L, rfl, s1, hC, th⟩ := y
      obtain ⟨j, hj⟩ : ∃ j, ms.length - i = j + 1 := ⟨ms.length - i - 1, by omega⟩
      rw [hj] at hC th
      have hm : ms[j]? = some (ms[j]'(by omega)) := List.getElem?_eq_getElem (by omega)
      generalize ms[j]'(by omega) = m at hm
      have e0 : (ms.length : Int) - 1 + ((i : Nat) : Int) * -1 = ((j : Nat) : Int) := by omega
      rw [e0]
      have wfL := wf.sub th.up
      have hjl : j < (ms.take (j + 1) ++ L).length := by rw [List.length_append, List.length_take]; omega
      have ej : ms.length - (i + 1) = j := by omega
      rw [ej]
      refine ⟨_, rfl, _, rfl, c, R, _, j, rfl, hC, ok, wfL, hjl, fun H1 d s2 hD => ?_⟩
      refine ⟨_, rfl, _, rfl, c, d, R, _, _, rfl, hC.same s2, hD, o2, wfL, wfL.sub (List.eraseIdx_sublist _ _), fun al H2 s3 => ⟨_, rfl, iteD rfl ⟨_, rfl, d, _, _, L, rfl, (s1.trans s2).trans s3, ?_, thin_drop wf.up hm th al⟩⟩, fun H2 a s x t tl s3 ha => ⟨_, rfl, iteDN (fun z => by cases z) ⟨c, _, _, m :: L, rfl, (s1.trans s2).trans s3, ?_, thin_keep hm th fun al => tl.ne (al s tl.s_lt x tl.x_lt)⟩⟩⟩
      · have h := hD.same s3
        rw [erase_at hm] at h
        exact h
      · have h := (hC.same s2).same s3
        rw [take_app hm] at h
        exact h
    · obtain ⟨c, v2, v3, L, rfl, s1, hC, th⟩ := y
      rw [Nat.sub_self] at hC th
      rw [List.take_zero, List.nil_append] at hC
      have td := th.done
      have wfL := wf.sub td.sub
      obtain ⟨rc, qc, hc, hRc, tc, hqc, htc, etc⟩ := id hC
      have lc : tc.length = L.length := by rw [← etc, List.length_map]
      have hlL := wfL.len
      refine ⟨_, rfl, _, rfl, c, _, _, _, rfl, rfl, SqT.of hc, atI_nat (j := 1) rfl, qc, _, rfl, .inr (SqT.of hqc), _, rfl, by rw [List.length_map]; omega, by rw [List.length_map]; omega, ?_⟩
      rw [List.length_map, Int.toNat_natCast, lc]
      intro D hD
      refine lc_range (lo := 0) (n := L.length) (fun i H1 => Same H' H1 ∧ ∃ ls : List (Addr × Let), H1 D = some (.lst (ls.map KX.rf)) ∧ (∀ p ∈ ls, H1 p.1 = some (.tup p.2.v)) ∧ ls.length = i ∧
          ∀ k m, (ls.map (·.2))[k]? = some m → m.z = 0 ∧ Tells R.length L (L.eraseIdx k) m.s m.x m.t)
        ⟨same_upd hD, [], upd_same, fun p hp => absurd hp (by simp), rfl, fun k m hk => by simp at hk⟩ (fun i H1 hi y => ?_) (fun H1 y => ?_)
      · obtain ⟨s2, ls, hls, hlt, hll, htl⟩ := y
        have e0 : (0 : Int) + ((i : Nat) : Int) = ((i : Nat) : Int) := Int.zero_add _
        rw [e0]
        have hC1 := hC.same s2
        refine ⟨rfl, tyes (iteT ⟨_, rfl, _, rfl, _, rfl, c, R, L, i, rfl, hC1, ok, wfL, hi, fun H2 d s3 hD2 => ?_⟩)⟩
        refine ⟨c, d, R, _, _, rfl, hC1.same s3, hD2, o2, wfL, wfL.sub (List.eraseIdx_sublist _ _), fun al => absurd al (td.need i hi), fun H3 a s x t tll s4 ha => ?_⟩
        have hls3 := s4 _ _ (s3 _ _ hls)
        refine ⟨_, hls3, by rw [List.length_map, hll]; exact small (by omega), same_own ((s2.trans s3).trans s4) hD, ls ++ [(a, ⟨s, 0, x, t⟩)], ?_, fun p hp => ?_, by rw [List.length_append, hll]; rfl, fun k m hk => ?_⟩
        · rw [upd_same, List.map_append]
          rfl
        · rcases List.mem_append.mp hp with hp | hp
          · exact up_oth (s4 _ _ (s3 _ _ (hlt p hp))) hls3 (by intro z; cases z)
          · obtain rfl := List.mem_singleton.mp hp
            exact up_oth ha hls3 (by intro z; cases z)
        · rw [List.map_append] at hk
          by_cases hki : k < i
          · rw [List.getElem?_append_left (by rw [List.length_map, hll]; exact hki)] at hk
            exact htl k m hk
          · have hk2 := at_lt hk
            rw [List.length_append, List.length_map, hll, List.map_cons, List.map_nil, List.length_singleton] at hk2
            have ek : k = i := by omega
            subst ek
            rw [List.getElem?_append_right (by rw [List.length_map, hll]; exact Nat.le_refl _), List.length_map, hll, Nat.sub_self] at hk
            have em : (⟨s, 0, x, t⟩ : Let) = m := Option.some.inj hk
            rw [← em]
            exact ⟨rfl, tll⟩
      · obtain ⟨s2, ls, hls, hlt, hll, htl⟩ := y
        refine ⟨by show 2 ≤ sizeLine; decide, fun p hp => ?_⟩
        refine k _ p c D L (ls.map (·.2)) (same_new (s1.trans s2) hp) upd_same ((hC.same s2).same (same_upd hp)) td ⟨ls, up_keep hls hp, fun q hq => up_keep (hlt q hq) hp, rfl⟩ (by rw [List.length_map]; exact hll) htl
end
end K3
end
section
namespace K3
open PySem L2 Sat PyProof.Rows
theorem iteBF {c : Bool} {A B : Prop} (h : c = false) (x : B) : if c = true then A else B := by
  rw [h]
  exact iteF x
theorem iteBT {c : Bool} {A B : Prop} (h : c = true) (x : A) : if c = true then A else B := by
  rw [h]
  exact iteT x
section
variable {P : Program} {w : World} {K : PySem.W.Frag} {mg : Str → Option Value} {base : Heap} {fk : Addr}
theorem ok_given_on {f : Addr} {fd : FuncData} (F : Fun K "given_on" "given_on" s_given_on f fd) (T : Txt P w K mg fk) : FnOk P w K mg base CX0 1 f fd ["book", "letter", "numbers"] spGiven := by
  refine F.ok sc_given_on (fun vs H Q E h => ?_) (fun cdv A outer s H vs Q E hr h => ?_)
  · obtain ⟨b, a, p, R, ms, l, c, y, t, rfl, _⟩ := h
    rfl
  · obtain ⟨b, a, p, R, ms, l, c, yf, tf, rfl, hB, wf, ha, hp, hlen, hgo, k⟩ := h
    obtain ⟨r, q, hb, hR, ts, hq, hts, rfl⟩ := id hB
    refine ⟨_, (pss_cons (ps_asg (pv 1) (pg_tup rfl (pgs_cons (pg_name (i := 3) sc_given_on.nd rfl (Or.inl rfl)) (pgs_cons (pg_name (i := 4) sc_given_on.nd rfl (Or.inl rfl)) (pgs_cons (pg_name (i := 5) sc_given_on.nd rfl (Or.inl rfl)) (pgs_cons (pg_name (i := 6) sc_given_on.nd rfl (Or.inl rfl)) pgs_nil))))))
      (pss_cons (ps_set (i := 7) sc_given_on.nd rfl (Or.inl rfl) (pe_lst (pa_cons (pe_tup (pa_cons (pv 3) (pa_cons (pv 4) pa_nil))) pa_nil)))
      (pss_cons (ps_for PassesOwn.never rfl (pi_list (pv 2)) (pg_name (i := 8) sc_given_on.nd rfl (Or.inl rfl)) (pss_cons (ps_asg (pe_ix ix_tup (pe_ix ix_tup (pv 0) pe_int (fun _ _ => rfl)) (pv 8) (fun _ _ => rfl)) (pg_tup rfl (pgs_cons (pg_name (i := 9) sc_given_on.nd rfl (Or.inl rfl)) (pgs_cons (pg_name (i := 10) sc_given_on.nd rfl (Or.inl rfl)) (pgs_cons (pg_name (i := 11) sc_given_on.nd rfl (Or.inl rfl)) (pgs_cons (pg_name (i := 12) sc_given_on.nd rfl (Or.inl rfl)) pgs_nil))))))
      (pss_cons (ps_if (pw_or (pt_cmpR op_notIn_seq (pv 3) (pe_tup (pa_cons (pv 9) (pa_cons (pv 10) pa_nil))) (by rfl)) (pw_or1 (pt_cmpR op_ge (pv 4) (pv 11) (nomark _)))).pt (pss_one (ps_ret pe_non)) pss_nil)
      (pss_cons (ps_set (i := 3) sc_given_on.nd rfl (Or.inl rfl) (pe_op op_sub (pe_op op_add (pv 9) (pv 10)) (pv 3)))
      (pss_cons (ps_set (i := 4) sc_given_on.nd rfl (Or.inl rfl) (pv 11))
      (pss_one (ps_expr (pe_bm PySem.F.plainAttrs_list PySem.F.slot_list_append PySem.F.type_list_append mt_append (pv 7) (pa_cons (pe_tup (pa_cons (pv 3) (pa_cons (pv 4) pa_nil))) pa_nil)))))))))
      (pss_one (ps_ret (pv 7)))))), ?_⟩
    refine ⟨_, rfl, a, _, rfl, SqT.of ha, rfl, _, _, rfl, _, _, rfl, _, _, rfl, _, _, rfl, rfl, ?_⟩
    refine ⟨_, rfl, _, rfl, by show 2 ≤ sizeLine; decide, fun r0 hr0 => ⟨by show 1 ≤ sizeLine; decide, fun D hD => ?_⟩⟩
    have s0 : Same H (upd (upd H r0 (.tup [.int l.s, .int l.z])) D (.lst [.ref r0])) := same_new (same_upd hr0) hD
    have hDn : H D = none := (same_upd hr0).free hD
    refine ⟨_, rfl, p, rfl, ⟨_, SqL.of (s0 _ _ hp)⟩, for_list (K := K) (a := p) (xs := c.map nv)
      (fun i σ H' => ∃ (y : Nat) (t : Int) (rw_ : Addr) (pre : List V) (v8 v9 v10 v11 v12 : Option V), σ = [some (.ref b), some (.ref a), some (.ref p), some (.int (y : Nat)), some (.int t), some (.int l.x), some (.int l.t), some (.ref D), v8, v9, v10, v11, v12] ∧ Same H H' ∧
        H' D = some (.lst (pre ++ [.ref rw_])) ∧ H' rw_ = some (.tup [.int (y : Nat), .int t]) ∧ pre.length = i ∧ go (ts.map (·.2)) y t (c.drop i) = some (yf, tf))
      ⟨l.s, l.z, r0, [], _, _, _, _, _, rfl, s0, upd_same, up_keep upd_same hD, rfl, hgo⟩ (fun i σ H' _ z => by obtain ⟨_, _, _, _, _, _, _, _, _, _, s1, _⟩ := z; exact SqL.of (s1 _ _ hp)) (fun i x σ H' hx z => ?_) (fun σ H' z => ?_)⟩
    · obtain ⟨y, t, rw_, pre, v8, v9, v10, v11, v12, rfl, s1, hF, hrw, hpre, hg⟩ := z
      obtain ⟨j, hj, rfl⟩ := map_at hx
      have hi := at_lt hj
      have ed : c.drop i = j :: c.drop (i + 1) := by
        obtain ⟨h1, h2⟩ := List.getElem?_eq_some_iff.mp hj
        rw [List.drop_eq_getElem_cons h1, h2]
      rw [ed] at hg
      obtain ⟨m, hm, hy, ht, hg'⟩ := go_cons hg
      obtain ⟨e, he, rfl⟩ := map_at hm
      have hmt := s1 _ _ (hts e (List.mem_of_getElem? he))
      have hqj : (ts.map KX.rf)[j]? = some (.ref e.1) := by rw [List.getElem?_map, he]; rfl
      refine ⟨_, rfl, b, _, _, _, rfl, rfl, SqT.of (s1 _ _ hb), atI_nat (j := 1) rfl, _, rfl, q, _, _, _, rfl, rfl, SqT.of (s1 _ _ hq), atI_nat hqj, e.1, _, rfl, SqT.of hmt, rfl, _, _, rfl, _, _, rfl, _, _, rfl, _, _, rfl, rfl, ?_⟩
      refine ⟨_, rfl, _, rfl, _, rfl, by show 2 ≤ sizeLine; decide, fun t1 ht1 => ⟨t1, _, rfl, .inr (SqT.of upd_same), rfl, rfl, _, rfl, iteBF ?_ ?_⟩⟩
      · show (!inV (V.int (y : Nat)) [V.int (e.2.a : Nat), V.int (e.2.b : Nat)]) = false
        rcases hy with hy | hy <;> simp [inV, eqV, hy]
      refine ⟨_, rfl, _, rfl, _, _, rfl, rfl, _, rfl, iteDN (by omega) ?_⟩
      refine ⟨_, rfl, _, rfl, _, _, rfl, rfl, _, rfl, _, _, rfl, rfl, ?_⟩
      have ey : ((e.2.a : Int) + e.2.b - (y : Int)) = ((e.2.a + e.2.b - y : Nat) : Int) := by omega
      refine ⟨_, rfl, ?_⟩
      refine ⟨_, rfl, .inl ⟨rfl, _, SqL.of (up_keep hF ht1)⟩, _, rfl, _, rfl, by show 2 ≤ sizeLine; decide, fun t2 ht2 => ⟨D, _, _, rfl, rfl, up_keep (up_keep hF ht1) ht2, ?_, ?_⟩⟩
      · rw [List.length_append, hpre, List.length_singleton]
        exact small (by omega)
      · refine ⟨e.2.a + e.2.b - y, e.2.w, t2, pre ++ [.ref rw_], some (nv j), some (.int (e.2.a : Nat)), some (.int (e.2.b : Nat)), some (.int e.2.w), some (.int e.2.m), ?_, same_own (same_new (same_new s1 ht1) ht2) hDn, upd_same, ?_, ?_, hg'⟩
        · rw [← ey]
          rfl
        · refine up_oth ?_ (up_keep (up_keep hF ht1) ht2) (by intro z; cases z)
          rw [← ey]
          exact upd_same
        · rw [List.length_append, hpre]
          rfl
    · obtain ⟨y, t, rw_, pre, v8, v9, v10, v11, v12, rfl, s1, hF, hrw, hpre, hg⟩ := z
      rw [List.length_map, List.drop_length] at hg
      have e2 := Option.some.inj (show some (y, t) = some (yf, tf) from hg)
      injection e2 with e3 e4
      subst e3 e4
      exact ⟨_, rfl, k _ D rw_ pre s1 hF hrw⟩
theorem ok_arrival {f : Addr} {fd : FuncData} (F : Fun K "arrival" "arrival" s_arrival f fd) (T : Txt P w K mg fk)
    (C_given_on : Cal P w K mg base "given_on" 1 ["book", "letter", "numbers"] spGiven) : FnOk P w K mg base CX0 2 f fd ["book", "letter", "chain"] spArrival := by
  refine F.ok sc_arrival (fun vs H Q E h => ?_) (fun cdv A outer s H vs Q E hr h => ?_)
  · obtain ⟨b, a, p, R, ms, l, c, y, t, rfl, _⟩ := h
    rfl
  · obtain ⟨b, a, p, R, ms, l, c, y, t, rfl, hB, wf, ha, hp, hlen, hgo, k⟩ := h
    refine ⟨_, (pss_one (ps_ret (pe_ix ix_tup (pe_ix ix_list (pe_cal C_given_on hr (pa_cons (pv 0) (pa_cons (pv 1) (pa_cons (pv 2) pa_nil)))) (pe_un un_neg pe_int) (fun _ _ => rfl)) pe_int (fun _ _ => rfl)))), ?_⟩
    exact ⟨_, rfl, _, rfl, _, rfl, b, a, p, R, ms, l, c, y, t, rfl, hB, wf, ha, hp, hlen, hgo, fun H1 q r pre s1 hq hr1 => ⟨1, rfl, q, _, _, _, rfl, rfl, SqL.of hq, atI_last _ _, r, _, _, _, rfl, rfl, SqT.of hr1, atI_nat (j := 1) rfl, k _ s1⟩⟩
theorem ok_lost {f : Addr} {fd : FuncData} (F : Fun K "lost" "lost" s_lost f fd) (T : Txt P w K mg fk)
    (C_without : Cal P w K mg base "without" 5 ["book", "meeting"] spWithout) (C_earliest : Cal P w K mg base "earliest" 3 ["book", "letter"] spEarliest) : FnOk P w K mg base CX0 6 f fd ["book", "letters", "meeting"] spLost := by
  refine F.ok sc_lost (fun vs H Q E h => ?_) (fun cdv A outer s H vs Q E hr h => ?_)
  · obtain ⟨b, a, R, ms, Ls, n, rfl, _⟩ := h
    rfl
  · obtain ⟨b, a, R, ms, Ls, n, rfl, hB, ok, wf, hn, ⟨ls, hls, hlt, rfl⟩, hlen, hval, k⟩ := h
    rw [List.length_map] at hlen
    have o2 := ok.most
    have wfe := wf.sub (List.eraseIdx_sublist ms n)
    refine ⟨_, (pss_cons (ps_set (i := 3) sc_lost.nd rfl (Or.inl rfl) (pe_cal C_without hr (pa_cons (pv 0) (pa_cons (pv 2) pa_nil))))
      (pss_cons (ps_set (i := 4) sc_lost.nd rfl (Or.inl rfl) (pe_lst pa_nil))
      (pss_cons (ps_for PassesOwn.never rfl (pi_enum (by rfl) T.enumerate (pa_cons (pv 1) pa_nil)) (pg_tup rfl (pgs_cons (pg_name (i := 5) sc_lost.nd rfl (Or.inl rfl)) (pgs_cons (pg_name (i := 6) sc_lost.nd rfl (Or.inl rfl)) pgs_nil))) (pss_one (ps_if (pw_and (pt_cmp (pc_notN (pe_cal C_earliest hr (pa_cons (pv 0) (pa_cons (pv 6) pa_nil))))) (pw_and1 (pt_cmp (pc_isN (pe_cal C_earliest hr (pa_cons (pv 3) (pa_cons (pv 6) pa_nil))))))).pt (pss_one (ps_expr (pe_bm PySem.F.plainAttrs_list PySem.F.slot_list_append PySem.F.type_list_append mt_append (pv 4) (pa_cons (pv 5) pa_nil)))) pss_nil)))
      (pss_one (ps_ret (pv 4)))))), ?_⟩
    refine ⟨_, rfl, _, rfl, b, R, ms, n, rfl, hB, ok, wf, hn, fun H1 d s1 hD => ?_⟩
    refine ⟨Nat.zero_le _, fun L hL => ?_⟩
    have hLn : H L = none := s1.free hL
    have s1' := same_new (o := .lst []) s1 hL
    refine ⟨_, rfl, a, _, rfl, SqL.of (s1' _ _ hls), for_it (walk_enum (K := K) (a := a) (xs := ls.map KX.rf))
      (fun i σ H' => ∃ v5 v6, σ = [some (.ref b), some (.ref a), some (.int (n : Nat)), some (.ref d), some (.ref L), v5, v6] ∧ Same H H' ∧ BookAt H' d R (ms.eraseIdx n) ∧ H' L = some (.lst (((List.range i).filter (lostAt ms n (ls.map (·.2)))).map nv)))
      ⟨_, _, rfl, s1', hD.same (same_upd hL), upd_same⟩ (fun i σ H' _ z => by obtain ⟨_, _, _, s2, _⟩ := z; exact SqL.of (s2 _ _ hls)) (fun i x σ H2 H3 hi z zz => ?_) (fun σ H2 z => ?_)⟩
    · obtain ⟨v5, v6, rfl, s2, hD2, hF⟩ := z
      obtain ⟨t, x1, y1, rfl, ht, rfl, c1, c2⟩ := zz
      cases c1
      obtain ⟨p, hp, rfl⟩ := map_at c2
      have hpm := List.mem_of_getElem? hp
      have hil := at_lt hp
      have hm : (ls.map (·.2))[i]? = some p.2 := by rw [List.getElem?_map, hp]; rfl
      obtain ⟨hs, hx⟩ := hval p.2 (List.mem_map.mpr ⟨p, hpm, rfl⟩)
      have s3 := same_new (o := .tup [.int (i : Nat), .ref p.1]) s2 ht
      have hl3 := s3 _ _ (hlt p hpm)
      have ela : lostAt ms n (ls.map (·.2)) i = lostB ms n p.2 := by unfold lostAt; rw [hm]
      have eno : lostB ms n p.2 = false → (List.range (i + 1)).filter (lostAt ms n (ls.map (·.2))) = (List.range i).filter (lostAt ms n (ls.map (·.2))) := fun h => by
        rw [List.range_succ, List.filter_append]
        simp [ela, h]
      have eyes : lostB ms n p.2 = true → (List.range (i + 1)).filter (lostAt ms n (ls.map (·.2))) = (List.range i).filter (lostAt ms n (ls.map (·.2))) ++ [i] := fun h => by
        rw [List.range_succ, List.filter_append]
        simp [ela, h]
      have hLt := up_keep (o := .tup [.int (i : Nat), .ref p.1]) hF ht
      have hD3 := hD2.same (same_upd (o := .tup [.int (i : Nat), .ref p.1]) ht)
      refine ⟨t, _, rfl, SqT.of upd_same, rfl, _, _, rfl, _, _, rfl, rfl, ?_⟩
      refine ⟨_, rfl, _, rfl, b, p.1, R, ms, p.2, rfl, hB.same s3, o2, wf, hs, hx, hl3, fun hc H4 s4 => ⟨_, rfl, iteNS rfl (iteF ?_)⟩, fun u H4 q c hc he s4 hq hcl hgo => ⟨_, rfl, iteND (fun z => by cases z) ?_⟩⟩
      · refine ⟨_, _, rfl, s3.trans s4, hD3.same s4, ?_⟩
        rw [eno (by unfold lostB; rw [hc]; rfl)]
        exact s4 _ _ hLt
      · refine ⟨_, rfl, _, rfl, d, p.1, R, _, p.2, rfl, hD3.same s4, o2, wfe, hs, hx, s4 _ _ hl3, fun hc' H5 s5 => ⟨_, rfl, iteD rfl ?_⟩, fun u' H5 q' c' hc' he' s5 hq' hcl' hgo' => ⟨_, rfl, iteDN (fun z => by cases z) ?_⟩⟩
        · have hL5 := s5 _ _ (s4 _ _ hLt)
          refine ⟨_, rfl, .inl ⟨rfl, _, SqL.of hL5⟩, _, rfl, L, _, _, rfl, rfl, hL5, ?_, ?_⟩
          · rw [List.length_map]
            have h1 := List.length_filter_le (lostAt ms n (ls.map (·.2))) (List.range i)
            rw [List.length_range] at h1
            exact small (by omega)
          · refine ⟨_, _, rfl, same_own ((s3.trans s4).trans s5) hLn, ?_, ?_⟩
            · refine ((hD3.same s4).same s5).keep fun q xs e => up_oth e hL5 (by intro z; cases z)
            · rw [eyes (by unfold lostB; rw [hc, hc']; rfl), upd_same, List.map_append]
              rfl
        · refine ⟨_, _, rfl, (s3.trans s4).trans s5, (hD3.same s4).same s5, ?_⟩
          rw [eno (by unfold lostB; rw [hc, hc']; rfl)]
          exact s5 _ _ (s4 _ _ hLt)
    · obtain ⟨v5, v6, rfl, s2, hD2, hF⟩ := z
      refine ⟨_, rfl, k _ L s2 ?_⟩
      rw [List.length_map] at hF ⊢
      exact hF
end
end K3
end
section
namespace K3
open PySem L2 Sat PyProof.Rows
theorem Kp.own {p L : Addr} {H H' : Hp} {o : HO} (a : Kp p H H') (h : H L = none) : Kp p H (upd H' L o) := fun r u n e => by
  rw [upd_ne (ne_of_none e h)]
  exact a r u n e
theorem PurseAt.ne {H : Hp} {p q : Addr} (h : PurseAt H p) (hq : H q = none) : q ≠ p := fun e => by
  obtain ⟨x, y, c, h⟩ := h
  rw [e, h] at hq
  cases hq
theorem PurseAt.new {H : Hp} {p q : Addr} {o : HO} (h : PurseAt H p) (hq : H q = none) : PurseAt (upd H q o) p :=
  let ⟨x, y, c, h⟩ := h
  ⟨x, y, c, up_keep h hq⟩
theorem PurseAt.oth {H : Hp} {p q : Addr} {o : HO} (h : PurseAt H p) (hq : q ≠ p) : PurseAt (upd H q o) p :=
  let ⟨x, y, c, h⟩ := h
  ⟨x, y, c, by rw [upd_ne (Ne.symm hq)]; exact h⟩
theorem nat_of {d n : Int} (h0 : 0 ≤ d) (h : d < n) : ∃ j : Nat, d = (j : Int) ∧ (j : Int) < n := ⟨d.toNat, by omega, by omega⟩
section
variable {P : Program} {w : World} {K : PySem.W.Frag} {mg : Str → Option Value} {base : Heap} {fk : Addr}
theorem ok_purse {f : Addr} {fd : FuncData} (F : Fun K "_law_purse" "_law_purse" s_purse f fd) (T : Txt P w K mg fk) : FnOk P w K mg base CX0 1 f fd ["_law_script", "_law_k"] (spPurse K) := by
  refine F.ok sc_purse (fun vs H Q E h => ?_) (fun cdv A outer s H vs Q E hr h => ?_)
  · obtain ⟨a, ns, n, rfl, _⟩ := h
    rfl
  · obtain ⟨a, ns, n, rfl, hS, k⟩ := h
    refine ⟨_, (pss_cons (ps_set (i := 2) sc_purse.nd rfl (Or.inl rfl) pe_int)
      (pss_cons (ps_if (pt_cmpR op_lt (pv 1) (pe_callB call_len_seq (by rfl) T.len PySem.boot_len (pa_cons (pv 0) pa_nil)) (nomark _)) (pss_one (ps_set (i := 2) sc_purse.nd rfl (Or.inl rfl) (pe_ix ix_list (pv 0) (pv 1) (fun _ _ => rfl)))) pss_nil)
      (pss_cons (ps_set (i := 3) sc_purse.nd rfl (Or.inl rfl) pe_int)
      (pss_cons (ps_if (pt_cmpR op_lt (pv 2) pe_int (nomark _)) (pss_one (ps_set (i := 3) sc_purse.nd rfl (Or.inl rfl) (pe_op op_sub (pe_un un_neg pe_int) (pv 2)))) pss_nil)
      (pss_cons (ps_if (pt_cmpR op_ge (pv 2) (pe_op op_pow pe_int pe_int) (nomark _)) (pss_one (ps_set (i := 3) sc_purse.nd rfl (Or.inl rfl) (pv 2))) pss_nil)
      (pss_one (ps_ret (pe_lst (pa_cons (pv 3) (pa_cons (pe_op op_mod (pe_op op_add (pe_op op_add (pe_op op_mul (pv 2) pe_int) (pe_op op_mul (pv 1) pe_int)) pe_int) pe_int) (pa_cons pe_int pa_nil))))))))))), ?_⟩
    refine ⟨_, rfl, _, rfl, a, _, rfl, .inl hS, _, _, rfl, rfl, _, rfl, ite2 (fun hk => ?_) (fun hk => ?_)⟩
    · have hk' := of_decide_eq_true hk
      rw [List.length_map] at hk'
      have hn : n < ns.length := by omega
      have hx : (ns.map V.int)[n]? = some (.int ns[n]) := by rw [List.getElem?_map, List.getElem?_eq_getElem hn]; rfl
      refine ⟨_, rfl, _, rfl, a, _, _, _, rfl, rfl, hS, atI_nat hx, ?_⟩
      refine ⟨_, rfl, _, _, rfl, rfl, _, rfl, ite2 (fun _ => ⟨1, rfl, _, rfl, _, _, rfl, rfl, ?_⟩) (fun _ => ?_)⟩ <;>
        refine ⟨_, rfl, _, _, rfl, rfl, ⟨by decide, by decide, by decide⟩, _, _, rfl, rfl, _, rfl, ite2 (fun _ => ⟨_, rfl, ?_⟩) (fun _ => ?_)⟩ <;>
        exact ⟨_, rfl, _, rfl, _, _, rfl, rfl, .inr ⟨by decide, by decide⟩, _, rfl, _, _, rfl, rfl, .inr ⟨by decide, by decide⟩, _, _, rfl, rfl, _, _, rfl, rfl, _, _, rfl, rfl, (by show (0 : Int) < _; decide), by show 3 ≤ sizeLine; decide, fun p hp => k _ p (same_upd hp) hp ⟨_, _, _, upd_same⟩⟩
    · refine ⟨_, rfl, _, _, rfl, rfl, _, rfl, ite2 (fun _ => ⟨1, rfl, _, rfl, _, _, rfl, rfl, ?_⟩) (fun _ => ?_)⟩ <;>
        refine ⟨_, rfl, _, _, rfl, rfl, ⟨by decide, by decide, by decide⟩, _, _, rfl, rfl, _, rfl, ite2 (fun _ => ⟨_, rfl, ?_⟩) (fun _ => ?_)⟩ <;>
        exact ⟨_, rfl, _, rfl, _, _, rfl, rfl, .inr ⟨by decide, by decide⟩, _, rfl, _, _, rfl, rfl, .inr ⟨by decide, by decide⟩, _, _, rfl, rfl, _, _, rfl, rfl, _, _, rfl, rfl, (by show (0 : Int) < _; decide), by show 3 ≤ sizeLine; decide, fun p hp => k _ p (same_upd hp) hp ⟨_, _, _, upd_same⟩⟩
theorem ok_take {f : Addr} {fd : FuncData} (F : Fun K "_law_take" "_law_take" s_take f fd) (T : Txt P w K mg fk) : FnOk P w K mg base CX0 1 f fd ["_law_purse_here", "_law_many"] spTake := by
  refine F.ok sc_take (fun vs H Q E h => ?_) (fun cdv A outer s H vs Q E hr h => ?_)
  · obtain ⟨p, n, rfl, _⟩ := h
    rfl
  · obtain ⟨p, n, rfl, h0, h1, ⟨x, y, c, hp⟩, k⟩ := h
    refine ⟨_, (pss_cons (ps_if (pt_cmpR op_gt (pe_ix ix_list (pv 0) pe_int (fun _ _ => rfl)) pe_int (nomark _)) (pss_cons (ps_set (i := 2) sc_take.nd rfl (Or.inl rfl) (pe_op op_mod (pe_ix ix_list (pv 0) pe_int (fun _ _ => rfl)) (pv 1)))
      (pss_cons (ps_asg (pe_op op_fdiv (pe_ix ix_list (pv 0) pe_int (fun _ _ => rfl)) (pv 1)) (pg_sub (pv 0) pe_int set_list))
      (pss_one (ps_ret (pv 2))))) pss_nil)
      (pss_cons (ps_augS (pv 0) pe_int KX.get_list pe_int ip_add set_list)
      (pss_cons (ps_set (i := 3) sc_take.nd rfl (Or.inl rfl) (pe_op op_mod (pe_op op_mul (pe_op op_add (pe_ix ix_list (pv 0) pe_int (fun _ _ => rfl)) (pe_op op_mul (pe_ix ix_list (pv 0) pe_int (fun _ _ => rfl)) pe_int)) pe_int) pe_int))
      (pss_cons (ps_set (i := 3) sc_take.nd rfl (Or.inl rfl) (pe_op op_mod (pe_op op_add (pe_op op_add (pe_op op_mul (pv 3) (pv 3)) (pe_op op_mul (pe_ix ix_list (pv 0) pe_int (fun _ _ => rfl)) pe_int)) (pe_ix ix_list (pv 0) pe_int (fun _ _ => rfl))) pe_int))
      (pss_one (ps_ret (pe_op op_mod (pe_op op_fdiv (pe_op op_mod (pe_op op_mul (pv 3) pe_int) pe_int) pe_int) (pv 1)))))))), ?_⟩
    refine ⟨_, rfl, p, _, _, _, rfl, rfl, SqL.of hp, atI_nat (j := 0) rfl, _, _, rfl, rfl, _, rfl, ite2 (fun _ => ?_) (fun _ => ?_)⟩
    · refine ⟨_, rfl, p, _, _, _, rfl, rfl, SqL.of hp, atI_nat (j := 0) rfl, _, rfl, _, _, rfl, rfl, h0, ?_⟩
      refine ⟨_, rfl, p, _, _, _, rfl, rfl, SqL.of hp, atI_nat (j := 0) rfl, _, rfl, _, _, rfl, rfl, ⟨h0, h1⟩, ?_⟩
      refine ⟨_, rfl, p, _, _, 0, rfl, rfl, hp, rfl, ?_⟩
      exact ⟨_, rfl, k _ _ (Int.emod_nonneg _ (by omega)) (Int.emod_lt_of_pos _ h0) ((Kp.refl p H).updP) ⟨_, _, _, upd_same⟩⟩
    · refine ⟨_, rfl, p, _, 2, _, rfl, rfl, hp, rfl, _, _, rfl, rfl, p, _, _, 2, rfl, rfl, hp, rfl, ?_⟩
      have hp2 : upd H p (.lst [.int x, .int y, .int (c + 1)]) p = some (.lst [.int x, .int y, .int (c + 1)]) := upd_same
      refine ⟨_, rfl, p, _, _, _, rfl, rfl, SqL.of hp2, atI_nat (j := 1) rfl, _, rfl, p, _, _, _, rfl, rfl, SqL.of hp2, atI_nat (j := 2) rfl, _, _, rfl, rfl, .inr ⟨by decide, by decide⟩, _, _, rfl, rfl, _, _, rfl, rfl, .inr ⟨by decide, by decide⟩, _, _, rfl, rfl, (by show (0 : Int) < _; decide), ?_⟩
      have b0 := Int.emod_nonneg ((y + (c + 1) * 362437) * 48271) (b := 2147483647) (by decide)
      have b1 := Int.emod_lt_of_pos ((y + (c + 1) * 362437) * 48271) (b := 2147483647) (by decide)
      refine ⟨_, rfl, _, rfl, _, _, rfl, rfl, .inl ⟨by omega, by omega⟩, _, rfl, p, _, _, _, rfl, rfl, SqL.of hp2, atI_nat (j := 2) rfl, _, _, rfl, rfl, .inr ⟨by decide, by decide⟩, _, _, rfl, rfl, _, rfl, p, _, _, _, rfl, rfl, SqL.of hp2, atI_nat (j := 1) rfl, _, _, rfl, rfl, _, _, rfl, rfl, (by show (0 : Int) < _; decide), ?_⟩
      exact ⟨_, rfl, _, _, rfl, rfl, .inr ⟨by decide, by decide⟩, _, _, rfl, rfl, (by show (0 : Int) < _; decide), _, _, rfl, rfl, ⟨by decide, by decide⟩, _, rfl, _, _, rfl, rfl, h0, k _ _ (Int.emod_nonneg _ (by omega)) (Int.emod_lt_of_pos _ h0) ((Kp.refl p H).updP) ⟨_, _, _, upd_same⟩⟩
theorem ok_rooms {f : Addr} {fd : FuncData} (F : Fun K "_law_rooms" "_law_rooms" s_rooms f fd) (T : Txt P w K mg fk)
    (C_take : Cal P w K mg base "_law_take" 1 ["_law_purse_here", "_law_many"] spTake) : FnOk P w K mg base CX0 2 f fd ["_law_purse_here", "_law_walkers"] spLRooms := by
  refine F.ok sc_rooms (fun vs H Q E h => ?_) (fun cdv A outer s H vs Q E hr h => ?_)
  · obtain ⟨p, n, rfl, _⟩ := h
    rfl
  · obtain ⟨p, n, rfl, hn, hp, k⟩ := h
    refine ⟨_, (pss_cons (ps_set (i := 2) sc_rooms.nd rfl (Or.inl rfl) (pe_lst pa_nil))
      (pss_cons (ps_for PassesOwn.never rfl (pi_range1 (by rfl) T.range (pa_cons (pv 1) pa_nil)) (pg_name (i := 3) sc_rooms.nd rfl (Or.inl rfl)) (pss_cons (ps_set (i := 4) sc_rooms.nd rfl (Or.inl rfl) (pe_op op_fdiv (pe_cal C_take hr (pa_cons (pv 0) (pa_cons pe_int pa_nil))) pe_int))
      (pss_cons (ps_if (pt_cmpR op_eq (pv 4) pe_int (nomark _)) (pss_one (ps_set (i := 4) sc_rooms.nd rfl (Or.inl rfl) (pe_cal C_take hr (pa_cons (pv 0) (pa_cons pe_int pa_nil))))) pss_nil)
      (pss_one (ps_expr (pe_bm PySem.F.plainAttrs_list PySem.F.slot_list_append PySem.F.type_list_append mt_append (pv 2) (pa_cons (pv 4) pa_nil)))))))
      (pss_one (ps_ret (pe_callTy call_tuple_of (by rfl) T.tuple boot_tuple (pa_cons (pv 2) pa_nil)))))), ?_⟩
    refine ⟨Nat.zero_le _, fun L hL => ?_⟩
    have hLp := hp.ne hL
    refine ⟨_, rfl, _, rfl, by omega, by omega, ?_⟩
    rw [Int.toNat_natCast]
    refine for_range (lo := 0) (n := n) (fun i σ H' => ∃ v3 v4 R, σ = [some (.ref p), some (.int (n : Nat)), some (.ref L), v3, v4] ∧ Kp p H H' ∧ PurseAt H' p ∧ H' L = some (.lst (R.map iv)) ∧ R.length = i ∧ ∀ x ∈ R, 0 ≤ x ∧ x ≤ 99)
      ⟨_, _, [], rfl, (Kp.refl p H).new hL, hp.new hL, upd_same, rfl, fun x hx => absurd hx (by simp)⟩ (fun i σ H' hi z => ?_) (fun σ H' z => ?_)
    · obtain ⟨v3, v4, R, rfl, kp, hpu, hR, hlen, hok⟩ := z
      have fin : ∀ (x : Int) (H2 : Hp), 0 ≤ x → x ≤ 99 → Kp p H' H2 → PurseAt H2 p → H2 L = some (.lst (R.map iv)) ∧ R.length < sizeLine ∧ Kp p H (upd H2 L (.lst (R.map iv ++ [.int x]))) ∧ PurseAt (upd H2 L (.lst (R.map iv ++ [.int x]))) p ∧ upd H2 L (.lst (R.map iv ++ [.int x])) L = some (.lst ((R ++ [x]).map iv)) ∧ (R ++ [x]).length = i + 1 ∧ ∀ y ∈ R ++ [x], 0 ≤ y ∧ y ≤ 99 := fun x H2 h0 h1 kp2 hp2 => by
        refine ⟨kp2 _ _ hLp hR, small (by omega), (kp.trans kp2).own hL, hp2.oth hLp, ?_, by rw [List.length_append, hlen]; rfl, fun y hy => ?_⟩
        · rw [upd_same, List.map_append]
          rfl
        · rcases List.mem_append.mp hy with hy | hy
          · exact hok y hy
          · obtain rfl := List.mem_singleton.mp hy
            exact ⟨h0, h1⟩
      refine ⟨_, rfl, p, 8, rfl, by decide, by decide, hpu, fun d H1 d0 d1 kp1 hp1 => ?_⟩
      refine ⟨_, _, rfl, rfl, ⟨by decide, by decide⟩, ?_⟩
      refine ⟨_, rfl, rfl, _, rfl, ite2 (fun _ => ?_) (fun _ => ?_)⟩
      · refine ⟨_, rfl, p, 100, rfl, by decide, by decide, hp1, fun d2 H2 e0 e1 kp2 hp2 => ?_⟩
        obtain ⟨a1, a2, a3, a4, a5, a6, a7⟩ := fin d2 H2 e0 (by omega) (kp1.trans kp2) hp2
        exact ⟨_, rfl, .inl ⟨rfl, _, SqL.of a1⟩, _, rfl, L, _, _, rfl, rfl, a1, by rw [List.length_map]; exact a2, _, _, R ++ [d2], rfl, a3, a4, a5, a6, a7⟩
      · have q0 : 0 ≤ d / 2 := by omega
        have q1 : d / 2 ≤ 99 := by omega
        obtain ⟨a1, a2, a3, a4, a5, a6, a7⟩ := fin (d / 2) H1 q0 q1 kp1 hp1
        exact ⟨_, rfl, .inl ⟨rfl, _, SqL.of a1⟩, _, rfl, L, _, _, rfl, rfl, a1, by rw [List.length_map]; exact a2, _, _, R ++ [d / 2], rfl, a3, a4, a5, a6, a7⟩
    · obtain ⟨v3, v4, R, rfl, kp, hpu, hR, hlen, hok⟩ := z
      exact ⟨_, rfl, L, _, rfl, .inl ⟨SqL.of hR, fun t ht => k _ t R (kp.new ht) (hpu.new ht) upd_same hlen hok⟩⟩
theorem ok_step {f : Addr} {fd : FuncData} (F : Fun K "_law_step" "_law_step" s_step f fd) (T : Txt P w K mg fk)
    (C_take : Cal P w K mg base "_law_take" 1 ["_law_purse_here", "_law_many"] spTake) : FnOk P w K mg base CX0 2 f fd ["_law_purse_here"] spStep := by
  refine F.ok sc_step (fun vs H Q E h => ?_) (fun cdv A outer s H vs Q E hr h => ?_)
  · obtain ⟨p, rfl, _⟩ := h
    rfl
  · obtain ⟨p, rfl, hp, k⟩ := h
    refine ⟨_, (pss_cons (ps_set (i := 1) sc_step.nd rfl (Or.inl rfl) (pe_cal C_take hr (pa_cons (pv 0) (pa_cons pe_int pa_nil))))
      (pss_cons (ps_if (pt_cmpR op_lt (pv 1) pe_int (nomark _)) (pss_one (ps_ret (pe_ix ix_list (pe_lst (pa_cons pe_int (pa_cons pe_int (pa_cons pe_int pa_nil)))) (pv 1) (fun _ _ => rfl)))) pss_nil)
      (pss_cons (ps_if (pt_cmpR op_eq (pv 1) pe_int (nomark _)) (pss_one (ps_ret (pe_op op_add pe_int (pe_cal C_take hr (pa_cons (pv 0) (pa_cons pe_int pa_nil)))))) pss_nil)
      (pss_one (ps_ret (pe_op op_add pe_int (pe_cal C_take hr (pa_cons (pv 0) (pa_cons (pe_op op_mul pe_int (pe_op op_pow pe_int pe_int)) pa_nil))))))))), ?_⟩
    refine ⟨_, rfl, p, 5, rfl, by decide, by decide, hp, fun d H1 d0 d1 kp1 hp1 => ?_⟩
    refine ⟨_, rfl, _, _, rfl, rfl, _, rfl, ite2 (fun h3 => ?_) (fun _ => ?_)⟩
    · have h3' := of_decide_eq_true h3
      refine ⟨by show 3 ≤ sizeLine; decide, fun l hl => ?_⟩
      obtain ⟨j, rfl, hj⟩ := nat_of d0 h3'
      have hj3 : j < 3 := by omega
      match j, hj3 with
      | 0, _ => exact ⟨_, rfl, l, _, _, _, rfl, rfl, SqL.of upd_same, atI_nat (j := 0) rfl, k 0 _ (by decide) (by decide) (kp1.trans ((Kp.refl p H1).new hl)) (hp1.new hl)⟩
      | 1, _ => exact ⟨_, rfl, l, _, _, _, rfl, rfl, SqL.of upd_same, atI_nat (j := 1) rfl, k 1 _ (by decide) (by decide) (kp1.trans ((Kp.refl p H1).new hl)) (hp1.new hl)⟩
      | 2, _ => exact ⟨_, rfl, l, _, _, _, rfl, rfl, SqL.of upd_same, atI_nat (j := 2) rfl, k 1 _ (by decide) (by decide) (kp1.trans ((Kp.refl p H1).new hl)) (hp1.new hl)⟩
    · refine ⟨_, rfl, rfl, _, rfl, ite2 (fun _ => ?_) (fun _ => ?_)⟩
      · exact ⟨_, rfl, p, 9, rfl, by decide, by decide, hp1, fun d2 H2 e0 e1 kp2 hp2 => ⟨_, _, rfl, rfl, k _ _ (by omega) (by omega) (kp1.trans kp2) hp2⟩⟩
      · exact ⟨_, rfl, _, _, rfl, rfl, ⟨by decide, by decide, by decide⟩, _, _, rfl, rfl, .inl ⟨by decide, by decide⟩, p, 16000000, rfl, by decide, by decide, hp1, fun d2 H2 e0 e1 kp2 hp2 => ⟨_, _, rfl, rfl, k _ _ (by omega) (by omega) (kp1.trans kp2) hp2⟩⟩
theorem ok_far {f : Addr} {fd : FuncData} (F : Fun K "_law_far" "_law_far" s_far f fd) (T : Txt P w K mg fk)
    (C_take : Cal P w K mg base "_law_take" 1 ["_law_purse_here", "_law_many"] spTake) : FnOk P w K mg base CX0 2 f fd ["_law_purse_here"] spFar := by
  refine F.ok sc_far (fun vs H Q E h => ?_) (fun cdv A outer s H vs Q E hr h => ?_)
  · obtain ⟨p, rfl, _⟩ := h
    rfl
  · obtain ⟨p, rfl, hp, k⟩ := h
    refine ⟨_, (pss_cons (ps_set (i := 1) sc_far.nd rfl (Or.inl rfl) (pe_cal C_take hr (pa_cons (pv 0) (pa_cons pe_int pa_nil))))
      (pss_one (ps_ret (pe_op op_mod (pe_op op_add (pe_op op_mul (pv 1) pe_int) (pe_cal C_take hr (pa_cons (pv 0) (pa_cons pe_int pa_nil)))) (pe_op op_add (pe_op op_pow pe_int pe_int) pe_int))))), ?_⟩
    refine ⟨_, rfl, p, 32768, rfl, by decide, by decide, hp, fun d H1 d0 d1 kp1 hp1 => ?_⟩
    refine ⟨_, rfl, _, _, rfl, rfl, .inr ⟨by decide, by decide⟩, _, rfl, p, 32768, rfl, by decide, by decide, hp1, fun d2 H2 e0 e1 kp2 hp2 => ?_⟩
    exact ⟨_, _, rfl, rfl, _, _, rfl, rfl, ⟨by decide, by decide, by decide⟩, _, _, rfl, rfl, _, _, rfl, rfl, (by show (0 : Int) < _; decide), k _ _ (kp1.trans kp2) hp2⟩
end
end K3
end
section
namespace K3
open PySem L2 Sat PyProof.Rows
/-! ### the law's own book -/
/-- what holds of the meetings drawn so far: at time W, walkers that are busy then in bz -/
structure MInv (n i : Nat) (W : Int) (bz : List Int) (ms : List Mt) : Prop where
  len : ms.length = i
  w1 : 1 ≤ W
  w2 : W ≤ 10000000 + (i : Int) * 16000000
  fit : ∀ m ∈ ms, Fit n m ∧ m.a < m.b ∧ m.w ≤ W
  nc : ms.Pairwise NC
  busy : ∀ m ∈ ms, m.w = W → (m.a : Int) ∈ bz ∧ (m.b : Int) ∈ bz
  blen : bz.length ≤ 2 * i
theorem MInv.step {n i : Nat} {W : Int} {bz : List Int} {ms : List Mt} (h : MInv n i W bz ms) {one oth : Nat} {gap passed : Int} (hi : i < 22) (h1 : one < n) (h2 : oth < n) (hne : one ≠ oth) (g0 : 0 ≤ gap) (g1 : gap ≤ 16000000)
    (hg : gap = 0 → (one : Int) ∉ bz ∧ (oth : Int) ∉ bz) (p1 : 1 ≤ passed) (p2 : passed ≤ 99) :
    MInv n (i + 1) (W + gap) ((if 0 < gap then [] else bz) ++ [(one : Int), (oth : Int)]) (ms ++ [⟨min one oth, max one oth, W + gap, passed⟩]) := by
  have hw1 := h.w1
  have hw2 := h.w2
  have hbl := h.blen
  refine ⟨by rw [List.length_append, h.len]; rfl, by omega, by omega, fun m hm => ?_, ?_, fun m hm hw => ?_, ?_⟩
  · rcases List.mem_append.mp hm with hm | hm
    · obtain ⟨a, b, c⟩ := h.fit m hm
      exact ⟨a, b, by omega⟩
    · obtain rfl := List.mem_singleton.mp hm
      refine ⟨⟨?_, ?_, ?_, ?_, ?_, p1, p2⟩, ?_, Int.le_refl _⟩ <;> simp only <;> omega
  · refine List.pairwise_append.mpr ⟨h.nc, List.pairwise_singleton _ _, fun m hm m' hm' e => ?_⟩
    obtain rfl := List.mem_singleton.mp hm'
    have e' : m.w = W + gap := e
    have hle := (h.fit m hm).2.2
    have hg0 : gap = 0 := by omega
    obtain ⟨b1, b2⟩ := h.busy m hm (by omega)
    obtain ⟨n1, n2⟩ := hg hg0
    have q1 : m.a ≠ one := fun e => n1 (e ▸ b1)
    have q2 : m.a ≠ oth := fun e => n2 (e ▸ b1)
    have q3 : m.b ≠ one := fun e => n1 (e ▸ b2)
    have q4 : m.b ≠ oth := fun e => n2 (e ▸ b2)
    simp only
    omega
  · rcases List.mem_append.mp hm with hm | hm
    · have hle := (h.fit m hm).2.2
      have hg0 : gap = 0 := by omega
      obtain ⟨b1, b2⟩ := h.busy m hm (by omega)
      have : ¬ 0 < gap := by omega
      rw [if_neg this]
      exact ⟨List.mem_append_left _ b1, List.mem_append_left _ b2⟩
    · obtain rfl := List.mem_singleton.mp hm
      have hin : ∀ x : Nat, x = one ∨ x = oth → (x : Int) ∈ ((if 0 < gap then [] else bz) ++ [(one : Int), (oth : Int)]) := fun x hx => by
        refine List.mem_append_right _ ?_
        rcases hx with rfl | rfl <;> simp
      exact ⟨hin _ (by simp only; omega), hin _ (by simp only; omega)⟩
  · rw [List.length_append]
    have h3 : (if 0 < gap then [] else bz).length ≤ 2 * i := by
      split
      · exact Nat.zero_le _
      · exact hbl
    have h4 : [(one : Int), (oth : Int)].length = 2 := rfl
    omega
def shift (late : Int) (m : Mt) : Mt := ⟨m.a, m.b, m.w + late, m.m⟩
theorem shift_wf {n i : Nat} {W late : Int} {bz : List Int} {ms ms' : List Mt} (h : MInv n i W bz ms) (hi : i ≤ 22) (p : ms'.Perm ms) (hs : ms'.Pairwise Le) (l0 : 0 ≤ late) (l1 : late ≤ 1000000000 - W) : WF n (ms'.map (shift late)) := by
  have hfit : ∀ m ∈ ms', Fit n m ∧ m.a < m.b ∧ m.w ≤ W := fun m hm => h.fit m (p.mem_iff.mp hm)
  have hnc : ms'.Pairwise NC := (List.Perm.pairwise_iff (fun {x y} q => NC.symm q) p).mpr h.nc
  refine ⟨⟨by rw [List.length_map, p.length_eq, h.len]; omega, fun m hm => ?_, ?_⟩, fun m hm => ?_, ?_⟩
  · obtain ⟨m0, h0, e⟩ := List.mem_map.mp hm
    obtain ⟨f, lt, le⟩ := hfit m0 h0
    have := f.w1
    rw [← e]
    exact ⟨f.ne, f.a_lt, f.b_lt, by show 1 ≤ m0.w + late; omega, by show m0.w + late ≤ 1000000000; omega, f.m1, f.m2⟩
  · rw [List.pairwise_map]
    refine hnc.imp fun {x y} q e => q ?_
    have e' : x.w + late = y.w + late := e
    omega
  · obtain ⟨m0, h0, e⟩ := List.mem_map.mp hm
    rw [← e]
    exact (hfit m0 h0).2.1
  · rw [List.pairwise_map]
    refine List.Pairwise.imp (R := fun x y => Le x y ∧ NC x y) (fun {x y} ⟨l, c⟩ => ?_) (hs.and hnc)
    show x.w + late < y.w + late ∨ (x.w + late = y.w + late ∧ x.a < y.a)
    rcases l with l | l
    · exact .inl (by omega)
    · exact .inr ⟨by omega, Nat.lt_of_le_of_ne l.2 (c l.1).1⟩
theorem inV_int (x : Int) (l : List Int) : inV (V.int x) (l.map iv) = true ↔ x ∈ l := by
  unfold inV
  rw [List.any_map]
  simp only [List.any_eq_true, Function.comp]
  constructor
  · rintro ⟨y, h1, h2⟩
    have : (y == x) = true := h2
    have e : y = x := by simpa using this
    exact e ▸ h1
  · intro h
    exact ⟨x, h, show (x == x) = true by simp⟩
theorem flat_ints (l : List Int) : (l.map iv).all flatV = true := by
  rw [List.all_map]
  exact List.all_eq_true.mpr fun _ _ => rfl
/-- the list of drawn meetings stands at L, beside the purse at p -/
structure MSt (p L : Addr) (H : Hp) (Ls : List (Addr × Mt)) (H' : Hp) : Prop where
  kp : Kp p H H'
  pu : PurseAt H' p
  li : H' L = some (.lst (Ls.map KX.rf))
  it : ∀ q ∈ Ls, H' q.1 = some (.tup (KX.mv2 q.2))
theorem MSt.on {p L : Addr} {H H1 H2 : Hp} {Ls : List (Addr × Mt)} (h : MSt p L H Ls H1) (hL : L ≠ p) (k : Kp p H1 H2) (u : PurseAt H2 p) : MSt p L H Ls H2 := by
  obtain ⟨x, y, c, hp⟩ := h.pu
  exact ⟨h.kp.trans k, u, k _ _ hL h.li, fun q hq => k _ _ (ne_of (h.it q hq) hp (by intro z; cases z)) (h.it q hq)⟩
theorem MSt.new {p L q : Addr} {H H1 : Hp} {Ls : List (Addr × Mt)} {o : HO} (h : MSt p L H Ls H1) (hq : H1 q = none) : MSt p L H Ls (upd H1 q o) :=
  ⟨h.kp.new hq, h.pu.new hq, up_keep h.li hq, fun r hr => up_keep (h.it r hr) hq⟩
def mD2 (m : Mt) : PyData := .tuple [.int m.w, .int m.a, .int m.b, .int m.m]
theorem dp_mts2 {K : PySem.W.Frag} {H : Hp} : ∀ {Ls : List (Addr × Mt)}, (∀ q ∈ Ls, H q.1 = some (.tup (KX.mv2 q.2))) → DpAll K H (Ls.map KX.rf) (Ls.map fun q => mD2 q.2)
  | [], _ => .nil
  | q :: Ls, h => .cons (.tup (SqT.of (h q List.mem_cons_self)) (.cons (.int _) (.cons (.int _) (.cons (.int _) (.cons (.int _) .nil))))) (dp_mts2 fun r hr => h r (List.mem_cons_of_mem _ hr))
theorem mD2_lay : ∀ Ls : List (Addr × Mt), PyData.canLayAll0 (Ls.map fun q => mD2 q.2) = true
  | [] => by simp [PyData.canLayAll0]
  | q :: Ls => by
    have h := mD2_lay Ls
    simp only [List.map_cons, PyData.canLayAll0, h]
    simp [mD2, PyData.canLay0, PyData.canLayAll0]
theorem mD2_depth : ∀ Ls : List (Addr × Mt), PyData.depthAll (Ls.map fun q => mD2 q.2) ≤ 2
  | [] => by simp [PyData.depthAll]
  | q :: Ls => by
    have h := mD2_depth Ls
    have h2 : (mD2 q.2).depth = 1 := by simp [mD2, PyData.depth, PyData.depthAll]
    simp only [List.map_cons, PyData.depthAll]
    omega
theorem mD2_shaped (Ls : List (Addr × Mt)) : SeqAt.shaped (.list (Ls.map fun q => mD2 q.2)) = true := by
  have h1 := mD2_depth Ls
  have h2 : PyData.depth (.list (Ls.map fun q => mD2 q.2)) ≤ 64 := by
    simp only [PyData.depth]
    omega
  show (PyData.canLay0 (.list (Ls.map fun q => mD2 q.2)) && decide (PyData.depth (.list (Ls.map fun q => mD2 q.2)) ≤ 64)) = true
  rw [Bool.and_eq_true]
  exact ⟨by simp only [PyData.canLay0]; exact mD2_lay Ls, decide_eq_true h2⟩
section
variable {P : Program} {w : World} {K : PySem.W.Frag} {mg : Str → Option Value} {base : Heap} {fk : Addr}
theorem ok_meetings {f : Addr} {fd : FuncData} (F : Fun K "_law_meetings" "_law_meetings" s_meetings f fd) (T : Txt P w K mg fk)
    (C_take : Cal P w K mg base "_law_take" 1 ["_law_purse_here", "_law_many"] spTake) (C_step : Cal P w K mg base "_law_step" 2 ["_law_purse_here"] spStep) : FnOk P w K mg base CX0 3 f fd ["_law_purse_here", "_law_walkers", "_law_most"] spLMeet := by
  refine F.ok sc_meetings (fun vs H Q E h => ?_) (fun cdv A outer s H vs Q E hr h => ?_)
  · obtain ⟨p, n, k, rfl, _⟩ := h
    rfl
  · obtain ⟨p, n, k, rfl, hnk, hn, hk, hp, q0⟩ := h
    refine ⟨_, (pss_cons (ps_set (i := 3) sc_meetings.nd rfl (Or.inl rfl) (pe_lst pa_nil))
      (pss_cons (ps_set (i := 4) sc_meetings.nd rfl (Or.inl rfl) (pe_op op_add pe_int (pe_op op_mul (pe_op op_fdiv (pe_cal C_take hr (pa_cons (pv 0) (pa_cons pe_int pa_nil))) pe_int) (pe_cal C_take hr (pa_cons (pv 0) (pa_cons (pe_op op_pow pe_int pe_int) pa_nil))))))
      (pss_cons (ps_set (i := 5) sc_meetings.nd rfl (Or.inl rfl) (pe_lst pa_nil))
      (pss_cons (ps_for PassesOwn.never rfl (pi_range1 (by rfl) T.range (pa_cons (pv 2) pa_nil)) (pg_name (i := 6) sc_meetings.nd rfl (Or.inl rfl)) (pss_cons (ps_set (i := 7) sc_meetings.nd rfl (Or.inl rfl) (pe_cal C_take hr (pa_cons (pv 0) (pa_cons (pv 1) pa_nil))))
      (pss_cons (ps_set (i := 8) sc_meetings.nd rfl (Or.inl rfl) (pe_op op_mod (pe_op op_add (pe_op op_add (pv 7) pe_int) (pe_cal C_take hr (pa_cons (pv 0) (pa_cons (pe_op op_sub (pv 1) pe_int) pa_nil)))) (pv 1)))
      (pss_cons (ps_set (i := 9) sc_meetings.nd rfl (Or.inl rfl) (pe_cal C_step hr (pa_cons (pv 0) pa_nil)))
      (C8.pss_cut (ps_if (pw_or (pt_cmpR op_in_seq (pv 7) (pv 5) (by rfl)) (pw_or1 (pt_cmpR op_in_seq (pv 8) (pv 5) (by rfl)))).pt (pss_one (ps_set (i := 9) sc_meetings.nd rfl (Or.inl rfl) (pe_callB (call_max2 rfl) (by rfl) T.max boot_max (pa_cons pe_int (pa_cons (pv 9) pa_nil))))) pss_nil)
      (C8.pss_cut (ps_if (pt_cmpR op_gt (pv 9) pe_int (nomark _)) (pss_one (ps_set (i := 5) sc_meetings.nd rfl (Or.inl rfl) (pe_lst pa_nil))) pss_nil)
      (pss_cons (ps_set (i := 4) sc_meetings.nd rfl (Or.inl rfl) (pe_op op_add (pv 4) (pv 9)))
      (pss_cons (ps_set (i := 5) sc_meetings.nd rfl (Or.inl rfl) (pe_op op_cat (pv 5) (pe_lst (pa_cons (pv 7) (pa_cons (pv 8) pa_nil)))))
      (pss_cons (ps_set (i := 10) sc_meetings.nd rfl (Or.inl rfl) (pe_op op_add pe_int (pe_op op_fdiv (pe_cal C_take hr (pa_cons (pv 0) (pa_cons pe_int pa_nil))) pe_int)))
      (C8.pss_cut (ps_if (pt_cmpR op_eq (pe_cal C_take hr (pa_cons (pv 0) (pa_cons pe_int pa_nil))) pe_int (nomark _)) (pss_one (ps_set (i := 10) sc_meetings.nd rfl (Or.inl rfl) (pe_op op_add pe_int (pe_cal C_take hr (pa_cons (pv 0) (pa_cons pe_int pa_nil)))))) pss_nil)
      (pss_one (ps_expr (pe_bm PySem.F.plainAttrs_list PySem.F.slot_list_append PySem.F.type_list_append mt_append (pv 3) (pa_cons (pe_tup (pa_cons (pv 4) (pa_cons (pe_callB (call_min2 rfl) (by rfl) T.min boot_min (pa_cons (pv 7) (pa_cons (pv 8) pa_nil))) (pa_cons (pe_callB (call_max2 rfl) (by rfl) T.max boot_max (pa_cons (pv 7) (pa_cons (pv 8) pa_nil))) (pa_cons (pv 10) pa_nil))))) pa_nil))))))))))))))
      (pss_cons (ps_set (i := 11) sc_meetings.nd rfl (Or.inr rfl) pe_int)
      (C8.pss_cut (ps_if (pw_and (pt_cmpR op_eq (pe_cal C_take hr (pa_cons (pv 0) (pa_cons pe_int pa_nil))) pe_int (nomark _)) (pw_and1 (pt_cmpR (op_neD hr.units) (pv 3) (pe_lst pa_nil) (nomark _)))).pt (pss_one (ps_set (i := 11) sc_meetings.nd rfl (Or.inr rfl) (pe_op op_sub (pe_op op_pow pe_int pe_int) (pv 4)))) pss_nil)
      (pss_one (ps_ret (pe_callTy call_tuple_of (by rfl) T.tuple boot_tuple (pa_cons (pe_lc (own := [("_law_then", 12), ("_law_low", 13), ("_law_high", 14), ("_law_room", 15)]) (by rfl) sc_meetings.nd (pi_list (pe_callB (KX.cr_sort4 hr) (by rfl) T.sorted boot_sorted (pa_cons (pv 3) pa_nil))) (blkOk_by (own := [("_law_then", 12), ("_law_low", 13), ("_law_high", 14), ("_law_room", 15)]) (N := ["_law_purse_here", "_law_walkers", "_law_most", "_law_found", "_law_when", "_law_busy", "_law_k", "_law_one", "_law_other", "_law_gap", "_law_passed", "_law_late", "_law_then", "_law_low", "_law_high", "_law_room"]) (sc := defScope s_meetings) (by decide +kernel)) (fun _ _ _ _ _ => (pg_tupK (K := K) (n := 4) rfl rfl (pgs_cons (pg_name (i := 12) sc_meetings.nd rfl (Or.inl rfl)) (pgs_cons (pg_name (i := 13) sc_meetings.nd rfl (Or.inl rfl)) (pgs_cons (pg_name (i := 14) sc_meetings.nd rfl (Or.inl rfl)) (pgs_cons (pg_name (i := 15) sc_meetings.nd rfl (Or.inl rfl)) pgs_nil)))))) (fun _ _ _ _ _ => pts_nil) (fun _ _ _ _ _ => (pe_tup (pa_cons (pv 13) (pa_cons (pv 14) (pa_cons (pe_op op_add (pv 12) (pv 11)) (pa_cons (pv 15) pa_nil))))))) pa_nil)))))))))), ?_⟩
    -- found = []
    refine ⟨Nat.zero_le _, fun L hL => ?_⟩
    have hLp := hp.ne hL
    have m0 : MSt p L H [] (upd H L (.lst [])) := ⟨(Kp.refl p H).new hL, hp.new hL, upd_same, fun q hq => absurd hq (by simp)⟩
    -- when = 1 + take(3) // 2 * take(10 ** 7)
    refine ⟨_, rfl, p, 3, rfl, by decide, by decide, m0.pu, fun d1 H1 a0 a1 kp1 pu1 => ?_⟩
    have m1 := m0.on hLp kp1 pu1
    refine ⟨_, _, rfl, rfl, ⟨by decide, by decide⟩, _, rfl, _, _, rfl, rfl, ⟨by decide, by decide, by decide⟩, p, 10000000, rfl, by decide, by decide, pu1, fun d2 H2 b0 b1 kp2 pu2 => ?_⟩
    have m2 := m1.on hLp kp2 pu2
    have hq1 : d1 / 2 = 0 ∨ d1 / 2 = 1 := by omega
    refine ⟨_, _, rfl, rfl, .inl ⟨by omega, by omega⟩, _, _, rfl, rfl, ?_⟩
    have hW : 1 ≤ 1 + d1 / 2 * d2 ∧ 1 + d1 / 2 * d2 ≤ 10000000 := by
      rcases hq1 with e | e <;> rw [e] <;> omega
    -- busy = []
    refine ⟨Nat.zero_le _, fun B0 hB0 => ?_⟩
    have hB0L : B0 ≠ L := fun e => by rw [e, m2.li] at hB0; cases hB0
    have m3 := m2.new (o := .lst []) hB0
    refine ⟨_, rfl, _, rfl, by omega, by omega, ?_⟩
    rw [Int.toNat_natCast]
    refine for_range (lo := 0) (n := k) (fun i σ H' => ∃ (W : Int) (Bz : Addr) (bz : List Int) (Ls : List (Addr × Mt)) (v6 v7 v8 v9 v10 : Option V),
        σ = [some (.ref p), some (.int (n : Nat)), some (.int (k : Nat)), some (.ref L), some (.int W), some (.ref Bz), v6, v7, v8, v9, v10, none, none, none, none, none] ∧ MSt p L H Ls H' ∧ H' Bz = some (.lst (bz.map iv)) ∧ Bz ≠ L ∧ Bz ≠ p ∧ MInv n i W bz (Ls.map (·.2)))
      ⟨1 + d1 / 2 * d2, B0, [], [], _, _, _, _, _, rfl, m3, upd_same, hB0L, m2.pu.ne hB0, ⟨rfl, hW.1, by omega, fun m hm => absurd hm (by simp), List.Pairwise.nil, fun m hm => absurd hm (by simp), Nat.le_refl _⟩⟩ (fun i σ H' hi z => ?_) (fun σ H' z => ?_)
    · obtain ⟨W, Bz, bz, Ls, v6, v7, v8, v9, v10, rfl, ms, hB, hBL, hBp, mi⟩ := z
      have hn2 : 2 ≤ n := by omega
      -- one, other, gap
      refine ⟨_, rfl, _, rfl, p, (n : Int), rfl, by omega, by omega, ms.pu, fun c1 G1 c10 c11 kp1 pu1 => ?_⟩
      have ms1 := ms.on hLp kp1 pu1
      have hB1 := kp1 _ _ hBp hB
      obtain ⟨one, rfl, h1⟩ := nat_of c10 c11
      refine ⟨_, rfl, _, _, rfl, rfl, _, rfl, _, rfl, _, _, rfl, rfl, p, (n : Int) - 1, rfl, by omega, by omega, pu1, fun c2 G2 c20 c21 kp2 pu2 => ?_⟩
      have ms2 := ms1.on hLp kp2 pu2
      have hB2 := kp2 _ _ hBp hB1
      refine ⟨_, _, rfl, rfl, _, rfl, _, _, rfl, rfl, (by show (0 : Int) < (n : Int); omega), ?_⟩
      obtain ⟨oth, eo, h2⟩ := nat_of (Int.emod_nonneg ((one : Int) + 1 + c2) (b := (n : Int)) (by omega)) (Int.emod_lt_of_pos ((one : Int) + 1 + c2) (b := (n : Int)) (by omega))
      have hne : one ≠ oth := by
        intro e
        have hd := Int.emod_add_mul_ediv ((one : Int) + 1 + c2) (n : Int)
        rw [eo, ← e] at hd
        have e1 : (n : Int) * (((one : Int) + 1 + c2) / (n : Int)) = 1 + c2 := by omega
        have e2 : 0 < ((one : Int) + 1 + c2) / (n : Int) := by
          refine Classical.byContradiction fun hneg => ?_
          have h3 : ((one : Int) + 1 + c2) / (n : Int) ≤ 0 := by omega
          have h4 : (n : Int) * (((one : Int) + 1 + c2) / (n : Int)) ≤ 0 := Int.mul_nonpos_of_nonneg_of_nonpos (by omega) h3
          omega
        have e3 : (n : Int) * 1 ≤ (n : Int) * (((one : Int) + 1 + c2) / (n : Int)) := Int.mul_le_mul_of_nonneg_left (by omega) (by omega)
        omega
      show gName 8 (V.int (((one : Int) + 1 + c2) % (n : Int))) _ _ _
      rw [eo]
      refine ⟨_, rfl, p, rfl, pu2, fun gap G3 g0 g1 kp3 pu3 => ?_⟩
      have ms3 := ms2.on hLp kp3 pu3
      have hB3 := kp3 _ _ hBp hB2
      -- if one in busy or other in busy: gap = max(1, gap)
      refine ⟨fun σ' H' => ∃ g : Int, σ' = [some (.ref p), some (.int (n : Nat)), some (.int (k : Nat)), some (.ref L), some (.int W), some (.ref Bz), some (.int (0 + (i : Nat))), some (.int (one : Nat)), some (.int (oth : Nat)), some (.int g), v10, none, none, none, none, none] ∧ H' = G3 ∧
        0 ≤ g ∧ g ≤ 16000000 ∧ (g = 0 → (one : Int) ∉ bz ∧ (oth : Int) ∉ bz), ?_, fun σ' H' z => ?_⟩
      · have hmax : 0 ≤ (if gap > 1 then gap else 1) ∧ (if gap > 1 then gap else 1) ≤ 16000000 ∧ (if gap > 1 then gap else 1) ≠ 0 := by
          split <;> omega
        refine ⟨_, rfl, _, rfl, Bz, _, rfl, .inl (SqL.of hB3), rfl, flat_ints bz, _, rfl, ?_⟩
        by_cases in1 : (one : Int) ∈ bz
        · refine iteBT ((inV_int _ _).mpr in1) (iteT ?_)
          exact ⟨_, rfl, 1, gap, rfl, _, rfl, rfl, hmax.1, hmax.2.1, fun e => absurd e hmax.2.2⟩
        · refine iteBF (Bool.eq_false_iff.mpr fun e => in1 ((inV_int _ _).mp e)) ?_
          refine ⟨_, rfl, _, rfl, Bz, _, rfl, .inl (SqL.of hB3), rfl, flat_ints bz, _, rfl, ?_⟩
          by_cases in2 : (oth : Int) ∈ bz
          · refine iteBT ((inV_int _ _).mpr in2) ?_
            exact ⟨_, rfl, 1, gap, rfl, _, rfl, rfl, hmax.1, hmax.2.1, fun e => absurd e hmax.2.2⟩
          · refine iteBF (Bool.eq_false_iff.mpr fun e => in2 ((inV_int _ _).mp e)) ?_
            exact ⟨gap, rfl, rfl, g0, g1, fun _ => ⟨in1, in2⟩⟩
      obtain ⟨g, rfl, rfl, gg0, gg1, hgz⟩ := z
      -- if gap > 0: busy = []
      refine ⟨fun σ' G4 => ∃ B' : Addr, σ' = [some (.ref p), some (.int (n : Nat)), some (.int (k : Nat)), some (.ref L), some (.int W), some (.ref B'), some (.int (0 + (i : Nat))), some (.int (one : Nat)), some (.int (oth : Nat)), some (.int g), v10, none, none, none, none, none] ∧
        MSt p L H Ls G4 ∧ G4 B' = some (.lst ((if 0 < g then [] else bz).map iv)) ∧ B' ≠ L ∧ B' ≠ p, ?_, fun σ' G4 z => ?_⟩
      · refine ⟨_, rfl, _, _, rfl, rfl, _, rfl, ?_⟩
        by_cases hg : 0 < g
        · refine iteD hg ⟨Nat.zero_le _, fun b hb => ⟨b, rfl, ms3.new hb, ?_, fun e => ?_, ms3.pu.ne hb⟩⟩
          · rw [if_pos hg]
            exact upd_same
          · rw [e, ms3.li] at hb
            cases hb
        · refine iteDN hg ⟨Bz, rfl, ms3, ?_, hBL, hBp⟩
          rw [if_neg hg]
          exact hB3
      obtain ⟨B', rfl, ms4, hB4, hBL', hBp'⟩ := z
      -- when = when + gap; busy = busy + [one, other]
      refine ⟨_, rfl, _, rfl, _, _, rfl, rfl, ?_⟩
      have hst := mi.step (passed := 1) (by omega : i < 22) (by omega) (by omega) hne gg0 gg1 hgz (by decide) (by decide)
      have hbl := hst.blen
      refine ⟨_, rfl, _, rfl, _, rfl, by show 2 ≤ sizeLine; decide, fun b5 hb5 => ⟨B', b5, _, _, rfl, rfl, up_keep hB4 hb5, upd_same, ?_, fun b6 hb6 => ?_⟩⟩
      · rw [List.length_append] at hbl
        have h4 : [(one : Int), (oth : Int)].length = 2 := rfl
        rw [List.length_map]
        show (if 0 < g then [] else bz).length + 2 ≤ sizeLine
        exact smallE (by omega)
      have ms6 := (ms4.new (o := .lst [.int (one : Nat), .int (oth : Nat)]) hb5).new (o := .lst ((if 0 < g then [] else bz).map iv ++ [.int (one : Nat), .int (oth : Nat)])) hb6
      have hB6L : b6 ≠ L := fun e => by rw [e, (ms4.new (o := .lst [.int (one : Nat), .int (oth : Nat)]) hb5).li] at hb6; cases hb6
      have hB6p := (ms4.new (o := .lst [.int (one : Nat), .int (oth : Nat)]) hb5).pu.ne hb6
      have hB6 : upd (upd G4 b5 (.lst [.int (one : Nat), .int (oth : Nat)])) b6 (.lst ((if 0 < g then [] else bz).map iv ++ [.int (one : Nat), .int (oth : Nat)])) b6 = some (.lst (((if 0 < g then [] else bz) ++ [(one : Int), (oth : Int)]).map iv)) := by
        rw [upd_same, List.map_append]
        rfl
      -- passed = 1 + take(4) // 2
      refine ⟨_, rfl, p, 4, rfl, by decide, by decide, ms6.pu, fun d7 G7 e70 e71 kp7 pu7 => ?_⟩
      have ms7 := ms6.on hLp kp7 pu7
      have hB7 := kp7 _ _ hB6p hB6
      refine ⟨_, _, rfl, rfl, ⟨by decide, by decide⟩, _, _, rfl, rfl, ?_⟩
      -- if take(6) == 3: passed = 1 + take(99)
      refine ⟨fun σ' G8 => ∃ pa : Int, σ' = [some (.ref p), some (.int (n : Nat)), some (.int (k : Nat)), some (.ref L), some (.int (W + g)), some (.ref b6), some (.int (0 + (i : Nat))), some (.int (one : Nat)), some (.int (oth : Nat)), some (.int g), some (.int pa), none, none, none, none, none] ∧
        1 ≤ pa ∧ pa ≤ 99 ∧ MSt p L H Ls G8 ∧ G8 b6 = some (.lst (((if 0 < g then [] else bz) ++ [(one : Int), (oth : Int)]).map iv)), ?_, fun σ' G8 z => ?_⟩
      · refine ⟨_, rfl, p, 6, rfl, by decide, by decide, pu7, fun d8 G8 e80 e81 kp8 pu8 => ?_⟩
        have ms8 := ms7.on hLp kp8 pu8
        have hB8 := kp8 _ _ hB6p hB7
        refine ⟨rfl, _, rfl, ite2 (fun _ => ?_) (fun _ => ?_)⟩
        · exact ⟨_, rfl, p, 99, rfl, by decide, by decide, pu8, fun d9 G9 e90 e91 kp9 pu9 => ⟨_, _, rfl, rfl, 1 + d9, rfl, by omega, by omega, ms8.on hLp kp9 pu9, kp9 _ _ hB6p hB8⟩⟩
        · exact ⟨1 + d7 / 2, rfl, by omega, by omega, ms8, hB8⟩
      obtain ⟨pa, rfl, pa1, pa2, ms8, hB8⟩ := z
      -- found.append((when, min(one, other), max(one, other), passed))
      refine ⟨_, rfl, .inl ⟨rfl, _, SqL.of ms8.li⟩, _, rfl, _, rfl, _, rfl, _, _, rfl, _, rfl, _, rfl, _, _, rfl, _, rfl, by show 4 ≤ sizeLine; decide, fun t ht => ⟨L, _, _, rfl, rfl, up_keep ms8.li ht, ?_, ?_⟩⟩
      · have := mi.len
        rw [List.length_map] at this ⊢
        exact small (by omega)
      have hst2 := mi.step (passed := pa) (by omega : i < 22) (by omega) (by omega) hne gg0 gg1 hgz pa1 pa2
      have em : [V.int (W + g), V.int (if (oth : Int) < one then (oth : Int) else one), V.int (if (oth : Int) > one then (oth : Int) else one), V.int pa] = KX.mv2 ⟨min one oth, max one oth, W + g, pa⟩ := by
        have e1 : ((min one oth : Nat) : Int) = if (oth : Int) < one then (oth : Int) else one := by split <;> omega
        have e2 : ((max one oth : Nat) : Int) = if (oth : Int) > one then (oth : Int) else one := by split <;> omega
        rw [← e1, ← e2]
        rfl
      rw [em]
      have ms9 := ms8.new (o := .tup (KX.mv2 ⟨min one oth, max one oth, W + g, pa⟩)) ht
      refine ⟨W + g, b6, (if 0 < g then [] else bz) ++ [(one : Int), (oth : Int)], Ls ++ [(t, ⟨min one oth, max one oth, W + g, pa⟩)], _, _, _, _, _, rfl, ⟨ms9.kp.own hL, ms9.pu.oth hLp, ?_, fun q hq => ?_⟩, ?_, hB6L, hB6p, ?_⟩
      · rw [upd_same, List.map_append]
        rfl
      · rcases List.mem_append.mp hq with hq | hq
        · exact up_oth (ms9.it q hq) ms9.li (by intro z; cases z)
        · obtain rfl := List.mem_singleton.mp hq
          exact up_oth upd_same ms9.li (by intro z; cases z)
      · rw [upd_ne hB6L]
        exact up_keep hB8 ht
      · rw [List.map_append]
        exact hst2
    · obtain ⟨W, Bz, bz, Ls, v6, v7, v8, v9, v10, rfl, ms, hB, hBL, hBp, mi⟩ := z
      have hw1 := mi.w1
      have hw2 := mi.w2
      have hW9 : W ≤ 1000000000 := by omega
      have p9 : (10 : Int) ^ (9 : Int).toNat = 1000000000 := by decide
      have hll := mi.len
      rw [List.length_map] at hll
      -- late = 0; if take(8) == 3 and found != []: late = 10 ** 9 - when
      refine ⟨fun σ' G => ∃ late : Int, σ' = [some (.ref p), some (.int (n : Nat)), some (.int (k : Nat)), some (.ref L), some (.int W), some (.ref Bz), v6, v7, v8, v9, v10, some (.int late), none, none, none, none] ∧ MSt p L H Ls G ∧ 0 ≤ late ∧ late ≤ 1000000000 - W, ?_, fun σ' G z => ?_⟩
      · refine ⟨_, rfl, p, 8, rfl, by decide, by decide, ms.pu, fun d G a0 a1 kp1 pu1 => ?_⟩
        have ms1 := ms.on hLp kp1 pu1
        refine ⟨rfl, _, rfl, ite2 (fun _ => ?_) (fun _ => ?_)⟩
        · refine ⟨_, rfl, Nat.zero_le _, fun l hl => ?_⟩
          have ms2 := ms1.new (o := .lst []) hl
          refine ⟨_, _, .lst (SqL.of ms2.li) (dp_mts2 ms2.it), .lst (SqL.of upd_same) .nil, mD2_shaped Ls, by decide, _, rfl, ite2 (fun _ => ?_) (fun _ => ?_)⟩
          · exact ⟨_, _, rfl, rfl, ⟨by decide, by decide, by decide⟩, _, rfl, _, _, rfl, rfl, _, rfl, ms2, by rw [p9]; omega, by rw [p9]; omega⟩
          · exact ⟨0, rfl, ms2, by decide, by omega⟩
        · exact iteF ⟨0, rfl, ms1, by decide, by omega⟩
      obtain ⟨late, rfl, ms1, l0, l1⟩ := z
      refine ⟨_, rfl, L, Ls, rfl, SqL.of ms1.li, fun q hq => SqT.of (ms1.it q hq), fun L' perm le q hq => ?_⟩
      have ms2 := ms1.new (o := .lst (L'.map KX.rf)) hq
      have hit : ∀ r ∈ L', upd G q (.lst (L'.map KX.rf)) r.1 = some (.tup (KX.mv2 r.2)) := fun r hr => ms2.it r (perm.mem_iff.mp hr)
      refine ⟨q, rfl, ⟨_, SqL.of upd_same⟩, fun D hD => lc_list (K := K) (a := q) (xs := L'.map KX.rf) (fun i H1 => Same (upd G q (.lst (L'.map KX.rf))) H1 ∧ ∃ ts : List (Addr × Mt), H1 D = some (.lst (ts.map KX.rf)) ∧ (∀ r ∈ ts, H1 r.1 = some (.tup (KX.mv r.2))) ∧ ts.map (·.2) = ((L'.take i).map (·.2)).map (shift late))
        ⟨same_upd hD, [], upd_same, fun r hr => absurd hr (by simp), rfl⟩ (fun i H1 _ z => SqL.of (z.1 _ _ upd_same)) (fun i x H1 hx z => ?_) (fun H1 z => ?_)⟩
      · obtain ⟨s1, ts, hts, hti, ets⟩ := z
        obtain ⟨r, hr1, rfl⟩ := map_at hx
        have hrm := List.mem_of_getElem? hr1
        have hil := at_lt hr1
        have hpl := perm.length_eq
        refine ⟨r.1, _, rfl, SqT.of (s1 _ _ (hit r hrm)), rfl, _, _, rfl, _, _, rfl, _, _, rfl, _, _, rfl, rfl, ?_⟩
        refine ⟨rfl, tyes (iteT ⟨_, rfl, _, rfl, _, rfl, _, rfl, _, _, rfl, rfl, _, rfl, by show 4 ≤ sizeLine; decide, fun t ht => ⟨_, up_keep hts ht, ?_, same_own (same_new s1 ht) hD, ts ++ [(t, shift late r.2)], ?_, fun u hu => ?_, ?_⟩⟩)⟩
        · have e := congrArg List.length ets
          rw [List.length_map, List.length_map, List.length_map, List.length_take] at e
          rw [List.length_map]
          exact small (by omega)
        · rw [upd_same, List.map_append]
          rfl
        · rcases List.mem_append.mp hu with hu | hu
          · exact up_oth (up_keep (hti u hu) ht) (up_keep hts ht) (by intro z; cases z)
          · obtain rfl := List.mem_singleton.mp hu
            exact up_oth upd_same (up_keep hts ht) (by intro z; cases z)
        · rw [List.map_append, ets, List.take_add_one, hr1]
          simp
      · obtain ⟨s1, ts, hts, hti, ets⟩ := z
        rw [List.length_map, List.take_length] at ets
        refine ⟨D, _, rfl, .inl ⟨SqL.of hts, fun t ht => ?_⟩⟩
        have wf := shift_wf (ms' := L'.map (·.2)) mi hk (perm.map _) le l0 l1
        rw [← ets] at wf
        refine q0 _ t _ ((ms2.kp.trans (Kp.of s1)).new ht) (PurseAt.new ?_ ht) ⟨ts, upd_same, fun u hu => up_keep (hti u hu) ht, rfl⟩ wf
        obtain ⟨x, y, c, hh⟩ := ms2.pu
        exact ⟨x, y, c, s1 _ _ hh⟩
end
end K3
end
section
namespace K3
open PySem L2 Sat PyProof.Rows
/-! ### books as data -/
def mD (m : Mt) : PyData := .tuple [.int m.a, .int m.b, .int m.w, .int m.m]
def bookD (R : List Int) (ms : List Mt) : PyData := .tuple [.tuple (R.map .int), .tuple (ms.map mD)]
theorem dp_ints {K : PySem.W.Frag} {H : Hp} : ∀ R : List Int, DpAll K H (R.map iv) (R.map .int)
  | [] => .nil
  | r :: R => .cons (.int r) (dp_ints R)
theorem dp_mt {K : PySem.W.Frag} {H : Hp} {a : Addr} {m : Mt} (h : H a = some (.tup (KX.mv m))) : Dp K H (.ref a) (mD m) :=
  .tup (SqT.of h) (.cons (.int _) (.cons (.int _) (.cons (.int _) (.cons (.int _) .nil))))
theorem dp_mts {K : PySem.W.Frag} {H : Hp} : ∀ {ts : List (Addr × Mt)}, (∀ q ∈ ts, H q.1 = some (.tup (KX.mv q.2))) → DpAll K H (ts.map KX.rf) ((ts.map (·.2)).map mD)
  | [], _ => .nil
  | q :: ts, h => .cons (dp_mt (h q List.mem_cons_self)) (dp_mts fun r hr => h r (List.mem_cons_of_mem _ hr))
theorem dp_book {K : PySem.W.Frag} {H : Hp} {b : Addr} {R : List Int} {ms : List Mt} (h : BookAt H b R ms) : Dp K H (.ref b) (bookD R ms) := by
  obtain ⟨r, q, hb, hR, ts, hq, hts, rfl⟩ := h
  exact .tup (SqT.of hb) (.cons (.tup (SqT.of hR) (dp_ints R)) (.cons (.tup (SqT.of hq) (dp_mts hts)) .nil))
theorem ints_lay : ∀ R : List Int, PyData.canLayAll0 (R.map .int) = true
  | [] => by simp [PyData.canLayAll0]
  | r :: R => by
    have h := ints_lay R
    show PyData.canLayAll0 (.int r :: R.map .int) = true
    simp [PyData.canLayAll0, PyData.canLay0, h]
theorem mD_lay : ∀ ms : List Mt, PyData.canLayAll0 (ms.map mD) = true
  | [] => by simp [PyData.canLayAll0]
  | m :: ms => by
    have h := mD_lay ms
    simp only [List.map_cons, PyData.canLayAll0, h]
    simp [mD, PyData.canLay0, PyData.canLayAll0]
theorem mD_depth : ∀ ms : List Mt, PyData.depthAll (ms.map mD) ≤ 2
  | [] => by simp [PyData.depthAll]
  | m :: ms => by
    have h := mD_depth ms
    have h2 : (mD m).depth = 1 := by simp [mD, PyData.depth, PyData.depthAll]
    simp only [List.map_cons, PyData.depthAll]
    omega
theorem bookD_shaped (R : List Int) (ms : List Mt) : SeqAt.shaped (bookD R ms) = true := by
  have h1 := mD_depth ms
  have h3 := PySem.W.depth_ints R
  have h2 : PyData.depth (bookD R ms) ≤ 64 := by
    simp only [bookD, PyData.depth, PyData.depthAll]
    omega
  show (PyData.canLay0 (bookD R ms) && decide (PyData.depth (bookD R ms) ≤ 64)) = true
  rw [Bool.and_eq_true]
  refine ⟨?_, decide_eq_true h2⟩
  simp only [bookD, PyData.canLay0, PyData.canLayAll0, ints_lay, mD_lay]
  rfl
theorem mts_shaped (ms : List Mt) : SeqAt.shaped (.tuple (ms.map mD)) = true := by
  have h1 := mD_depth ms
  have h2 : PyData.depth (.tuple (ms.map mD)) ≤ 64 := by
    simp only [PyData.depth]
    omega
  show (PyData.canLay0 (.tuple (ms.map mD)) && decide (PyData.depth (.tuple (ms.map mD)) ≤ 64)) = true
  rw [Bool.and_eq_true]
  exact ⟨by simp only [PyData.canLay0]; exact mD_lay ms, decide_eq_true h2⟩
theorem eqv_nil (ms : List Mt) : PyData.eqv (.tuple (ms.map mD)) (.tuple []) = ms.isEmpty := by
  cases ms <;> simp [PyData.eqv, PyData.eqvAll]
section
variable {P : Program} {w : World} {K : PySem.W.Frag} {mg : Str → Option Value} {base : Heap} {fk : Addr}
theorem ok_book {f : Addr} {fd : FuncData} (F : Fun K "_law_book" "_law_book" s_book f fd) (T : Txt P w K mg fk)
    (C_take : Cal P w K mg base "_law_take" 1 ["_law_purse_here", "_law_many"] spTake) (C_rooms : Cal P w K mg base "_law_rooms" 2 ["_law_purse_here", "_law_walkers"] spLRooms) (C_meetings : Cal P w K mg base "_law_meetings" 3 ["_law_purse_here", "_law_walkers", "_law_most"] spLMeet) : FnOk P w K mg base CX0 4 f fd ["_law_purse_here", "_law_most_walkers", "_law_most_meetings"] spLBook := by
  refine F.ok sc_book (fun vs H Q E h => ?_) (fun cdv A outer s H vs Q E hr h => ?_)
  · obtain ⟨p, k, rfl, _⟩ := h
    rfl
  · obtain ⟨p, k, rfl, hk, hp, q0⟩ := h
    refine ⟨_, (pss_cons (ps_set (i := 3) sc_book.nd rfl (Or.inl rfl) (pe_op op_add pe_int (pe_cal C_take hr (pa_cons (pv 0) (pa_cons (pv 1) pa_nil)))))
      (pss_cons (ps_set (i := 4) sc_book.nd rfl (Or.inl rfl) (pe_callB (call_min2 rfl) (by rfl) T.min boot_min (pa_cons (pv 2) (pa_cons (pe_cal C_take hr (pa_cons (pv 0) (pa_cons (pe_op op_add (pv 2) pe_int) pa_nil))) pa_nil))))
      (C8.pss_cut (ps_if (pt_cmpR op_eq (pv 3) pe_int (nomark _)) (pss_one (ps_set (i := 4) sc_book.nd rfl (Or.inl rfl) pe_int)) pss_nil)
      (pss_one (ps_ret (pe_tup (pa_cons (pe_cal C_rooms hr (pa_cons (pv 0) (pa_cons (pv 3) pa_nil))) (pa_cons (pe_cal C_meetings hr (pa_cons (pv 0) (pa_cons (pv 3) (pa_cons (pv 4) pa_nil)))) pa_nil)))))))), ?_⟩
    refine ⟨_, rfl, _, rfl, p, 8, rfl, by decide, by decide, hp, fun d H1 a0 a1 kp1 pu1 => ?_⟩
    obtain ⟨d, rfl, hd⟩ := nat_of a0 a1
    refine ⟨_, _, rfl, rfl, ?_⟩
    refine ⟨_, rfl, _, rfl, _, rfl, _, _, rfl, rfl, p, (k : Int) + 3, rfl, by omega, by omega, pu1, fun e H2 b0 b1 kp2 pu2 => ⟨_, _, rfl, ?_⟩⟩
    refine ⟨fun σ' H' => ∃ j : Nat, σ' = [some (.ref p), some (.int 8), some (.int (k : Nat)), some (.int ((1 + d : Nat) : Int)), some (.int (j : Nat))] ∧ H' = H2 ∧ j ≤ 22 ∧ (2 ≤ 1 + d ∨ j = 0), ?_, fun σ' H' z => ?_⟩
    · have e1 : (1 : Int) + ((d : Nat) : Int) = ((1 + d : Nat) : Int) := by omega
      have e2 : (if e < (k : Int) then e else (k : Int)) = (((if e < (k : Int) then e else (k : Int)).toNat : Nat) : Int) := by split <;> omega
      have e3 : (if e < (k : Int) then e else (k : Int)).toNat ≤ 22 := by split <;> omega
      refine ⟨_, rfl, rfl, _, rfl, ite2 (fun h => ?_) (fun h => ?_)⟩
      · exact ⟨0, by rw [← e1]; rfl, rfl, by decide, .inr rfl⟩
      · refine ⟨_, by rw [← e1, ← e2]; rfl, rfl, e3, .inl ?_⟩
        have h' : ¬ (V.int (1 + (d : Int)) = V.int 1) := fun q => h (decide_eq_true q)
        refine Classical.byContradiction fun hn => h' ?_
        have : (d : Int) = 0 := by omega
        rw [this]
        rfl
    · obtain ⟨j, rfl, rfl, hj, hor⟩ := z
      refine ⟨_, rfl, _, rfl, p, 1 + d, rfl, by omega, pu2, fun H3 r R kp3 pu3 hR hRl hRb => ?_⟩
      refine ⟨_, rfl, _, rfl, _, rfl, p, 1 + d, j, rfl, hor, by omega, hj, pu3, fun H4 q ms kp4 pu4 hq wf => ⟨by show 2 ≤ sizeLine; decide, fun b hb => ?_⟩⟩
      obtain ⟨x, y, c, hp3⟩ := pu3
      have hR4 := kp4 _ _ (ne_of hR hp3 (by intro z; cases z)) hR
      refine q0 _ b R ms ((((kp1.trans kp2).trans kp3).trans kp4).new hb) (pu4.new hb) ⟨r, q, upd_same, up_keep hR4 hb, hq.keep (.of (same_upd hb))⟩ ⟨by omega, by omega, hRb⟩ (by rw [hRl]; exact wf)
theorem ok_time {f : Addr} {fd : FuncData} (F : Fun K "_law_time" "_law_time" s_time f fd) (T : Txt P w K mg fk)
    (C_take : Cal P w K mg base "_law_take" 1 ["_law_purse_here", "_law_many"] spTake) (C_far : Cal P w K mg base "_law_far" 2 ["_law_purse_here"] spFar) : FnOk P w K mg base CX0 3 f fd ["_law_purse_here", "_law_book_here", "_law_later"] spTime := by
  refine F.ok sc_time (fun vs H Q E h => ?_) (fun cdv A outer s H vs Q E hr h => ?_)
  · obtain ⟨p, b, R, ms, j, rfl, _⟩ := h
    rfl
  · obtain ⟨p, b, R, ms, j, rfl, hj, hp, hB, hlen, q0⟩ := h
    have tk : ∀ {H' : Hp}, Kp p H H' → TupKeep H H' := fun k => by
      obtain ⟨x, y, c, hp⟩ := hp
      exact .kp k hp
    have pick : ∀ (u v : V), ∃ x, [u, v][j]? = some x := fun u v => by
      match j, hj with
      | 0, _ => exact ⟨u, rfl⟩
      | 1, _ => exact ⟨v, rfl⟩
    have pickI : ∀ (u v : Int), ∃ x, ([V.int u, V.int v] : List V)[j]? = some (.int x) ∧ (x = u ∨ x = v) := fun u v => by
      match j, hj with
      | 0, _ => exact ⟨u, rfl, .inl rfl⟩
      | 1, _ => exact ⟨v, rfl, .inr rfl⟩
    refine ⟨_, (pss_cons (ps_set (i := 3) sc_time.nd rfl (Or.inl rfl) (pe_cal C_take hr (pa_cons (pv 0) (pa_cons pe_int pa_nil))))
      (pss_cons (ps_if (pt_cmpR op_eq (pv 3) pe_int (nomark _)) (pss_one (ps_ret (pe_ix ix_list (pe_lst (pa_cons pe_int (pa_cons (pe_op op_pow pe_int pe_int) pa_nil))) (pv 2) (fun _ _ => rfl)))) pss_nil)
      (pss_cons (ps_if (pt_cmpR op_eq (pv 3) pe_int (nomark _)) (pss_one (ps_ret (pe_cal C_far hr (pa_cons (pv 0) pa_nil)))) pss_nil)
      (pss_cons (ps_if (pt_cmpR (op_eqD hr.units) (pe_ix ix_tup (pv 1) pe_int (fun _ _ => rfl)) (pe_tup pa_nil) (nomark _)) (pss_one (ps_ret (pe_cal C_take hr (pa_cons (pv 0) (pa_cons pe_int pa_nil))))) pss_nil)
      (pss_cons (ps_set (i := 4) sc_time.nd rfl (Or.inl rfl) (pe_cal C_take hr (pa_cons (pv 0) (pa_cons (pe_callB call_len_seq (by rfl) T.len PySem.boot_len (pa_cons (pe_ix ix_tup (pv 1) pe_int (fun _ _ => rfl)) pa_nil)) pa_nil))))
      (pss_cons (ps_if (pt_cmpR op_gt (pv 3) pe_int (nomark _)) (pss_one (ps_set (i := 4) sc_time.nd rfl (Or.inl rfl) (pe_ix ix_list (pe_lst (pa_cons (pe_op op_fdiv (pv 4) pe_int) (pa_cons (pe_op op_fdiv (pe_op op_add (pv 4) (pe_callB call_len_seq (by rfl) T.len PySem.boot_len (pa_cons (pe_ix ix_tup (pv 1) pe_int (fun _ _ => rfl)) pa_nil))) pe_int) pa_nil))) (pv 2) (fun _ _ => rfl)))) pss_nil)
      (pss_one (ps_ret (pe_op op_sub (pe_ix ix_tup (pe_ix ix_tup (pe_ix ix_tup (pv 1) pe_int (fun _ _ => rfl)) (pv 4) (fun _ _ => rfl)) pe_int (fun _ _ => rfl)) (pe_ix ix_list (pe_lst (pa_cons pe_int (pa_cons pe_int pa_nil))) (pe_op op_xor (pe_op op_fdiv (pe_cal C_take hr (pa_cons (pv 0) (pa_cons pe_int pa_nil))) pe_int) (pv 2)) (fun _ _ => rfl))))))))))), ?_⟩
    refine ⟨_, rfl, p, 6, rfl, by decide, by decide, hp, fun way H1 a0 a1 kp1 pu1 => ?_⟩
    refine ⟨_, rfl, rfl, _, rfl, ite2 (fun _ => ?_) (fun _ => ?_)⟩
    · refine ⟨_, _, rfl, rfl, ⟨by decide, by decide, by decide⟩, by show 2 ≤ sizeLine; decide, fun l hl => ?_⟩
      obtain ⟨x, hx, _⟩ := pickI 0 (10 ^ (9 : Int).toNat)
      exact ⟨_, rfl, l, _, _, _, rfl, rfl, SqL.of upd_same, atI_nat hx, q0 _ _ (kp1.new hl) (pu1.new hl)⟩
    refine ⟨_, rfl, rfl, _, rfl, ite2 (fun _ => ?_) (fun _ => ?_)⟩
    · exact ⟨_, rfl, p, rfl, pu1, fun d H2 kp2 pu2 => q0 _ _ (kp1.trans kp2) pu2⟩
    have hB1 := hB.keep (tk kp1)
    obtain ⟨r, q, hb, hR, ts, hq, hts, rfl⟩ := id hB1
    refine ⟨_, rfl, b, _, _, _, rfl, rfl, SqT.of hb, atI_nat (j := 1) rfl, Nat.zero_le _, fun e he => ?_⟩
    have hB2 := hB1.same (same_upd (o := .tup []) he)
    have hq2 := up_keep (o := .tup []) hq he
    refine ⟨_, _, .tup (SqT.of hq2) (dp_mts fun u hu => up_keep (hts u hu) he), .tup (SqT.of upd_same) .nil, mts_shaped _, by decide, _, rfl, ?_⟩
    rw [eqv_nil]
    have kp2 := kp1.new (o := .tup []) he
    have pu2 := pu1.new (o := .tup []) he
    cases hms : ts.map (·.2) with
    | nil => exact iteT ⟨_, rfl, p, 9, rfl, by decide, by decide, pu2, fun d H3 _ _ kp3 pu3 => q0 _ _ (kp2.trans kp3) pu3⟩
    | cons m0 ms0 =>
      have hpos : 0 < ts.length := by
        have := congrArg List.length hms
        rw [List.length_map, List.length_cons] at this
        omega
      rw [List.length_map] at hlen
      refine iteF ?_
      have hb2 := up_keep (o := .tup []) hb he
      refine ⟨_, rfl, _, rfl, b, _, _, _, rfl, rfl, SqT.of hb2, atI_nat (j := 1) rfl, q, _, rfl, .inr (SqT.of hq2), p, (ts.length : Int), (by rw [List.length_map]; rfl), by omega, by omega, pu2, fun at_ H3 c0 c1 kp3 pu3 => ?_⟩
      have kp13 := kp2.trans kp3
      have hB3 := hB.keep (tk kp13)
      obtain ⟨x2, y2, c2, hpp2⟩ := pu2
      have tk3 : TupKeep (upd H1 e (.tup [])) H3 := .kp kp3 hpp2
      have hb3 := tk3 _ _ hb2
      have hq3 := tk3 _ _ hq2
      have hts3 : ∀ u ∈ ts, H3 u.1 = some (.tup (KX.mv u.2)) := fun u hu => tk3 _ _ (up_keep (hts u hu) he)
      have last : ∀ (a : Int) (H4 : Hp), 0 ≤ a → a < (ts.length : Int) → Kp p H H4 → PurseAt H4 p → H4 b = some (.tup [.ref r, .ref q]) → H4 q = some (.tup (ts.map KX.rf)) → (∀ u ∈ ts, H4 u.1 = some (.tup (KX.mv u.2))) →
          ∃ u, (ts.map KX.rf)[a.toNat]? = some (.ref u) ∧ a = ((a.toNat : Nat) : Int) ∧ ∃ m : Mt, H4 u = some (.tup (KX.mv m)) := fun a H4 h0 h1 _ _ _ _ h5 => by
        have hl : a.toNat < ts.length := by omega
        refine ⟨(ts[a.toNat]).1, ?_, by omega, (ts[a.toNat]).2, h5 _ (List.getElem_mem hl)⟩
        rw [List.getElem?_map, List.getElem?_eq_getElem hl]
        rfl
      have fin : ∀ (x : Nat), ∃ y : Int, ([V.int 1, V.int 0] : List V)[x % 2]? = some (.int y) := fun x => by
        have : x % 2 = 0 ∨ x % 2 = 1 := by omega
        rcases this with h | h <;> rw [h]
        · exact ⟨1, rfl⟩
        · exact ⟨0, rfl⟩
      have xor : ∀ d : Int, 0 ≤ d → d < 4 → ∃ x y : Nat, Builtin.bitXor (d / 3) ((j : Nat) : Int) = ((x : Nat) : Int) ∧ x < 2 ∧ ([V.int 1, V.int 0] : List V)[x]? = some (.int ((y : Nat) : Int)) := fun d d0 d1 => by
        have hd : d / 3 = 0 ∨ d / 3 = 1 := by omega
        match j, hj with
        | 0, _ => rcases hd with h | h <;> rw [h]; exact ⟨0, 1, by decide, by decide, rfl⟩; exact ⟨1, 0, by decide, by decide, rfl⟩
        | 1, _ => rcases hd with h | h <;> rw [h]; exact ⟨1, 0, by decide, by decide, rfl⟩; exact ⟨0, 1, by decide, by decide, rfl⟩
      refine ⟨_, rfl, _, _, rfl, rfl, _, rfl, ite2 (fun _ => ?_) (fun _ => ?_)⟩
      · refine ⟨_, rfl, _, _, rfl, rfl, ⟨by decide, by decide⟩, _, rfl, _, rfl, b, _, _, _, rfl, rfl, SqT.of hb3, atI_nat (j := 1) rfl, q, _, rfl, .inr (SqT.of hq3), _, _, rfl, rfl, _, _, rfl, rfl, ⟨by decide, by decide⟩, by show 2 ≤ sizeLine; decide, fun l hl => ?_⟩
        obtain ⟨x, hx, hxor⟩ := pickI (at_ / 2) ((at_ + ((ts.map KX.rf).length : Int)) / 2)
        have hx0 : 0 ≤ x ∧ x < (ts.length : Int) := by
          rw [List.length_map] at hxor
          rcases hxor with h | h <;> rw [h] <;> omega
        refine ⟨_, rfl, l, _, _, _, rfl, rfl, SqL.of upd_same, atI_nat hx, ?_⟩
        have hb4 := up_keep (o := .lst [.int (at_ / 2), .int ((at_ + ((ts.map KX.rf).length : Int)) / 2)]) hb3 hl
        have hq4 := up_keep (o := .lst [.int (at_ / 2), .int ((at_ + ((ts.map KX.rf).length : Int)) / 2)]) hq3 hl
        have kp4 := kp13.new (o := .lst [.int (at_ / 2), .int ((at_ + ((ts.map KX.rf).length : Int)) / 2)]) hl
        have pu4 := pu3.new (o := .lst [.int (at_ / 2), .int ((at_ + ((ts.map KX.rf).length : Int)) / 2)]) hl
        obtain ⟨u, hu, eu, m, hm⟩ := last x _ hx0.1 hx0.2 kp4 pu4 hb4 hq4 (fun u hu => up_keep (hts3 u hu) hl)
        refine ⟨_, rfl, b, _, _, _, rfl, rfl, SqT.of hb4, atI_nat (j := 1) rfl, _, rfl, q, _, _, _, rfl, rfl, SqT.of hq4, at_of eu hu, u, _, _, _, rfl, rfl, SqT.of hm, atI_nat (j := 2) rfl, by show 2 ≤ sizeLine; decide, fun l2 hl2 => ?_⟩
        refine ⟨_, rfl, p, 4, rfl, by decide, by decide, pu4.new hl2, fun d H5 d0 d1 kp5 pu5 => ?_⟩
        obtain ⟨xx, yy, e1, e2, e3⟩ := xor d d0 d1
        have hl25 := kp5 _ _ (pu4.ne hl2) upd_same
        refine ⟨_, _, rfl, rfl, ⟨by decide, by decide⟩, _, rfl, _, _, rfl, rfl, l2, _, _, _, rfl, rfl, SqL.of hl25, at_of e1 e3, _, _, rfl, rfl, q0 _ _ ((kp4.new hl2).trans kp5) pu5⟩
      · obtain ⟨u, hu, eu, m, hm⟩ := last at_ _ c0 c1 kp13 pu3 hb3 hq3 hts3
        refine ⟨_, rfl, b, _, _, _, rfl, rfl, SqT.of hb3, atI_nat (j := 1) rfl, _, rfl, q, _, _, _, rfl, rfl, SqT.of hq3, at_of eu hu, u, _, _, _, rfl, rfl, SqT.of hm, atI_nat (j := 2) rfl, by show 2 ≤ sizeLine; decide, fun l2 hl2 => ?_⟩
        refine ⟨_, rfl, p, 4, rfl, by decide, by decide, pu3.new hl2, fun d H5 d0 d1 kp5 pu5 => ?_⟩
        obtain ⟨xx, yy, e1, e2, e3⟩ := xor d d0 d1
        have hl25 := kp5 _ _ (pu3.ne hl2) upd_same
        refine ⟨_, _, rfl, rfl, ⟨by decide, by decide⟩, _, rfl, _, _, rfl, rfl, l2, _, _, _, rfl, rfl, SqL.of hl25, at_of e1 e3, _, _, rfl, rfl, q0 _ _ ((kp13.new hl2).trans kp5) pu5⟩
end
end K3
end
section
namespace K3
open PySem L2 Sat PyProof.Rows
section
variable {P : Program} {w : World} {K : PySem.W.Frag} {mg : Str → Option Value} {base : Heap} {fk : Addr}
theorem ok_letter {f : Addr} {fd : FuncData} (F : Fun K "_law_letter" "_law_letter" s_letter f fd) (T : Txt P w K mg fk)
    (C_take : Cal P w K mg base "_law_take" 1 ["_law_purse_here", "_law_many"] spTake) (C_time : Cal P w K mg base "_law_time" 3 ["_law_purse_here", "_law_book_here", "_law_later"] spTime) : FnOk P w K mg base CX0 4 f fd ["_law_purse_here", "_law_book_here"] spLetter := by
  refine F.ok sc_letter (fun vs H Q E h => ?_) (fun cdv A outer s H vs Q E hr h => ?_)
  · obtain ⟨p, b, R, ms, rfl, _⟩ := h
    rfl
  · obtain ⟨p, b, R, ms, rfl, hp, hB, o1, o2, hlen, q0⟩ := h
    have tk : ∀ {H' : Hp}, Kp p H H' → TupKeep H H' := fun k => by
      obtain ⟨x, y, c, hp⟩ := hp
      exact .kp k hp
    obtain ⟨r, q, hb, hR, _⟩ := id hB
    refine ⟨_, (pss_cons (ps_set (i := 2) sc_letter.nd rfl (Or.inl rfl) (pe_callB call_len_seq (by rfl) T.len PySem.boot_len (pa_cons (pe_ix ix_tup (pv 1) pe_int (fun _ _ => rfl)) pa_nil)))
      (pss_cons (ps_set (i := 3) sc_letter.nd rfl (Or.inl rfl) (pe_cal C_take hr (pa_cons (pv 0) (pa_cons (pv 2) pa_nil))))
      (pss_cons (ps_set (i := 4) sc_letter.nd rfl (Or.inl rfl) (pe_cal C_take hr (pa_cons (pv 0) (pa_cons (pv 2) pa_nil))))
      (C8.pss_cut (ps_if (pw_and (pt_cmpR op_eq (pv 3) (pv 4) (nomark _)) (pw_and1 (pt_cmpR op_gt (pe_cal C_take hr (pa_cons (pv 0) (pa_cons pe_int pa_nil))) pe_int (nomark _)))).pt (pss_one (ps_set (i := 4) sc_letter.nd rfl (Or.inl rfl) (pe_op op_mod (pe_op op_add (pv 4) pe_int) (pv 2)))) pss_nil)
      (pss_cons (ps_set (i := 5) sc_letter.nd rfl (Or.inl rfl) (pe_cal C_time hr (pa_cons (pv 0) (pa_cons (pv 1) (pa_cons pe_int pa_nil)))))
      (pss_one (ps_ret (pe_tup (pa_cons (pv 3) (pa_cons (pv 5) (pa_cons (pv 4) (pa_cons (pe_cal C_time hr (pa_cons (pv 0) (pa_cons (pv 1) (pa_cons pe_int pa_nil)))) pa_nil)))))))))))), ?_⟩
    refine ⟨_, rfl, b, _, _, _, rfl, rfl, SqT.of hb, atI_nat (j := 0) rfl, r, _, rfl, .inr (SqT.of hR), ?_⟩
    rw [List.length_map]
    refine ⟨_, rfl, _, rfl, p, (R.length : Int), rfl, by omega, by omega, hp, fun d1 H1 a0 a1 kp1 pu1 => ?_⟩
    obtain ⟨sn, rfl, hs⟩ := nat_of a0 a1
    refine ⟨_, rfl, _, rfl, p, (R.length : Int), rfl, by omega, by omega, pu1, fun d2 H2 b0 b1 kp2 pu2 => ?_⟩
    obtain ⟨wi, rfl, hw⟩ := nat_of b0 b1
    have kp12 := kp1.trans kp2
    refine ⟨fun σ' H' => ∃ x : Nat, σ' = [some (.ref p), some (.ref b), some (.int (R.length : Nat)), some (.int (sn : Nat)), some (.int (x : Nat)), none] ∧ x < R.length ∧ Kp p H H' ∧ PurseAt H' p, ?_, fun σ' H3 z => ?_⟩
    · have nxt : ∀ H3 : Hp, Kp p H H3 → PurseAt H3 p → ∃ x : Nat, ((wi : Int) + 1) % (R.length : Int) = (x : Int) ∧ x < R.length := fun H3 _ _ => by
        obtain ⟨x, h1, h2⟩ := nat_of (Int.emod_nonneg ((wi : Int) + 1) (b := (R.length : Int)) (by omega)) (Int.emod_lt_of_pos ((wi : Int) + 1) (b := (R.length : Int)) (by omega))
        exact ⟨x, h1, by omega⟩
      refine ⟨_, rfl, _, rfl, rfl, _, rfl, ite2 (fun _ => ?_) (fun _ => ?_)⟩
      · refine ⟨_, rfl, p, 3, rfl, by decide, by decide, pu2, fun d3 H3 c0 c1 kp3 pu3 => ?_⟩
        refine ⟨_, _, rfl, rfl, _, rfl, ite2 (fun _ => ?_) (fun _ => ?_)⟩
        · obtain ⟨x, hx1, hx2⟩ := nxt H3 (kp12.trans kp3) pu3
          refine ⟨_, rfl, _, _, rfl, rfl, _, rfl, _, _, rfl, rfl, (by show (0 : Int) < (R.length : Int); omega), x, ?_, hx2, kp12.trans kp3, pu3⟩
          rw [← hx1]
          rfl
        · exact ⟨wi, rfl, by omega, kp12.trans kp3, pu3⟩
      · exact iteF ⟨wi, rfl, by omega, kp12, pu2⟩
    · obtain ⟨x, rfl, hx, kp3, pu3⟩ := z
      refine ⟨_, rfl, _, rfl, p, b, R, ms, 0, rfl, by decide, pu3, hB.keep (tk kp3), hlen, fun z H4 kp4 pu4 => ?_⟩
      refine ⟨_, rfl, _, rfl, _, rfl, _, rfl, _, rfl, p, b, R, ms, 1, rfl, by decide, pu4, hB.keep (tk (kp3.trans kp4)), hlen, fun t H5 kp5 pu5 => ⟨by show 4 ≤ sizeLine; decide, fun a ha => ?_⟩⟩
      exact q0 _ a ⟨sn, z, x, t⟩ (((kp3.trans kp4).trans kp5).new ha) (pu5.new ha) (by show sn < R.length; omega) hx upd_same
theorem ok_comes {f : Addr} {fd : FuncData} (F : Fun K "_law_comes" "_law_comes" s_comes f fd) (T : Txt P w K mg fk)
    (C_earliest : Cal P w K mg base "earliest" 3 ["book", "letter"] spEarliest) (C_arrival : Cal P w K mg base "arrival" 2 ["book", "letter", "chain"] spArrival) : FnOk P w K mg base CX0 4 f fd ["_law_book_here", "_law_letter_here"] spComes := by
  refine F.ok sc_comes (fun vs H Q E h => ?_) (fun cdv A outer s H vs Q E hr h => ?_)
  · obtain ⟨b, a, R, ms, l, rfl, _⟩ := h
    rfl
  · obtain ⟨b, a, R, ms, l, rfl, hB, o2, wf, hs, hx, ha, k⟩ := h
    refine ⟨_, (pss_cons (ps_set (i := 2) sc_comes.nd rfl (Or.inl rfl) (pe_cal C_earliest hr (pa_cons (pv 0) (pa_cons (pv 1) pa_nil))))
      (pss_cons (ps_if (pt_cmp (pc_isN (pv 2))) (pss_one (ps_ret (pe_un un_neg pe_int))) pss_nil)
      (pss_one (ps_ret (pe_cal C_arrival hr (pa_cons (pv 0) (pa_cons (pv 1) (pa_cons (pv 2) pa_nil)))))))), ?_⟩
    refine ⟨_, rfl, _, rfl, b, a, R, ms, l, rfl, hB, o2, wf, hs, hx, ha, fun hc H1 s1 => ?_, fun t H1 p c hc he s1 hp hcl hgo => ?_⟩
    · refine ⟨_, rfl, _, rfl, iteD rfl ⟨1, rfl, ?_⟩⟩
      have e : comesI ms l = -1 := by unfold comesI; rw [hc]; rfl
      have k' := k _ s1
      rw [e] at k'
      exact k'
    · refine ⟨_, rfl, _, rfl, iteDN (fun z => by cases z) ?_⟩
      refine ⟨_, rfl, _, rfl, _, rfl, b, a, p, R, ms, l, c, l.x, t, rfl, hB.same s1, wf, s1 _ _ ha, hp, hcl, hgo, fun H2 s2 => ?_⟩
      have e : comesI ms l = t := by unfold comesI; rw [hc, he]; rfl
      have k' := k _ (s1.trans s2)
      rw [e] at k'
      exact k'
theorem ok_other_end {f : Addr} {fd : FuncData} (F : Fun K "_law_other_end" "_law_other_end" s_other_end f fd) (T : Txt P w K mg fk)
    (C_made_book : Cal P w K mg base "made_book" 4 ["rooms", "meetings"] spMade) : FnOk P w K mg base CX0 5 f fd ["_law_book_here"] spOther := by
  refine F.ok sc_other_end (fun vs H Q E h => ?_) (fun cdv A outer s H vs Q E hr h => ?_)
  · obtain ⟨b, R, ms, rfl, _⟩ := h
    rfl
  · obtain ⟨b, R, ms, rfl, hB, ok, wf, k⟩ := h
    obtain ⟨r, q, hb, hR, ts, hq, hts, rfl⟩ := id hB
    have hlen := wf.len
    rw [List.length_map] at hlen
    have o1 := ok.one
    refine ⟨_, (pss_cons (ps_set (i := 1) sc_other_end.nd rfl (Or.inr rfl) (pe_op op_sub (pe_callB call_len_seq (by rfl) T.len PySem.boot_len (pa_cons (pe_ix ix_tup (pv 0) pe_int (fun _ _ => rfl)) pa_nil)) pe_int))
      (pss_cons (ps_setLc (i := 2) (own := [("_law_meeting", 3)]) (by rfl) sc_other_end.nd rfl rfl (sw_true rfl rfl rfl (by decide +kernel)) (pi_tup (pe_ix ix_tup (pv 0) pe_int (fun _ _ => rfl))) (blkOk_by (own := [("_law_meeting", 3)]) (N := ["_law_book_here", "_law_most", "_law_some", "_law_meeting"]) (sc := defScope s_other_end) (by decide +kernel)) (fun _ _ _ _ _ => (pg_name (i := 3) sc_other_end.nd rfl (Or.inl rfl))) (fun _ _ _ _ _ => pts_nil) (fun _ _ _ _ _ => (pe_tup (pa_cons (pe_op op_sub (pv 1) (pe_ix (ix_tupK (K := K) rfl) (pv 3) pe_int (fun _ _ => rfl))) (pa_cons (pe_op op_sub (pv 1) (pe_ix (ix_tupK (K := K) rfl) (pv 3) pe_int (fun _ _ => rfl))) (pa_cons (pe_ix (ix_tupK (K := K) rfl) (pv 3) pe_int (fun _ _ => rfl)) (pa_cons (pe_ix (ix_tupK (K := K) rfl) (pv 3) pe_int (fun _ _ => rfl)) pa_nil)))))))
      (pss_one (ps_ret (pe_cal C_made_book hr (pa_cons (pe_revL (pe_callTy call_list_of (by rfl) T.list boot_list (pa_cons (pe_ix ix_tup (pv 0) pe_int (fun _ _ => rfl)) pa_nil))) (pa_cons (pv 2) pa_nil))))))), ?_⟩
    refine ⟨_, rfl, b, _, _, _, rfl, rfl, SqT.of hb, atI_nat (j := 0) rfl, r, _, rfl, .inr (SqT.of hR), _, _, rfl, rfl, ?_⟩
    rw [List.length_map]
    refine ⟨_, rfl, b, _, _, _, rfl, rfl, SqT.of hb, atI_nat (j := 1) rfl, q, rfl, ⟨_, SqT.of hq⟩, fun D hD => lc_tup (K := K) (a := q) (xs := ts.map KX.rf) (fun i H1 => Same H H1 ∧ ∃ L : List (Addr × Mt), H1 D = some (.lst (L.map KX.rf)) ∧ (∀ u ∈ L, H1 u.1 = some (.tup (KX.mv u.2))) ∧ L.map (·.2) = ((ts.take i).map (·.2)).map (Sat.flip R.length))
      ⟨same_upd hD, [], upd_same, fun u hu => absurd hu (by simp), rfl⟩ (fun i H1 _ z => SqT.of (z.1 _ _ hq)) (fun i x H1 hx z => ?_) (fun H1 z => ?_)⟩
    · obtain ⟨s1, L, hL, hLt, eL⟩ := z
      obtain ⟨u, hu, rfl⟩ := map_at hx
      have hum := List.mem_of_getElem? hu
      have hil := at_lt hu
      have hm := s1 _ _ (hts u hum)
      have fit := wf.fit u.2 (List.mem_map.mpr ⟨u, hum, rfl⟩)
      have ha := fit.a_lt
      have hb' := fit.b_lt
      refine ⟨rfl, tyes (iteT ⟨_, rfl, _, rfl, u.1, _, _, _, rfl, rfl, SqT.of hm, atI_nat (j := 0) rfl, _, _, rfl, rfl, _, rfl, _, rfl, u.1, _, _, _, rfl, rfl, SqT.of hm, atI_nat (j := 1) rfl, _, _, rfl, rfl,
        _, rfl, u.1, _, _, _, rfl, rfl, SqT.of hm, atI_nat (j := 2) rfl, _, rfl, u.1, _, _, _, rfl, rfl, SqT.of hm, atI_nat (j := 3) rfl, by show 4 ≤ sizeLine; decide, fun t ht => ⟨_, up_keep hL ht, ?_, same_own (same_new s1 ht) hD, L ++ [(t, Sat.flip R.length u.2)], ?_, fun v hv => ?_, ?_⟩⟩)⟩
      · have e := congrArg List.length eL
        rw [List.length_map, List.length_map, List.length_map, List.length_take] at e
        rw [List.length_map]
        exact small (by omega)
      · rw [upd_same, List.map_append]
        rfl
      · rcases List.mem_append.mp hv with hv | hv
        · exact up_oth (up_keep (hLt v hv) ht) (up_keep hL ht) (by intro z; cases z)
        · obtain rfl := List.mem_singleton.mp hv
          refine up_oth ?_ (up_keep hL ht) (by intro z; cases z)
          rw [upd_same]
          have e1 : ((R.length - 1 - u.2.a : Nat) : Int) = (R.length : Int) - 1 - (u.2.a : Int) := by omega
          have e2 : ((R.length - 1 - u.2.b : Nat) : Int) = (R.length : Int) - 1 - (u.2.b : Int) := by omega
          unfold KX.mv Sat.flip
          simp only [e1, e2]
      · rw [List.map_append, eL, List.take_add_one, hu]
        simp
    · obtain ⟨s1, L, hL, hLt, eL⟩ := z
      rw [List.length_map, List.take_length] at eL
      refine ⟨_, rfl, b, _, _, _, rfl, rfl, SqT.of (s1 _ _ hb), atI_nat (j := 0) rfl, r, _, rfl, .inr (SqT.of (s1 _ _ hR)), fun l hl => ⟨l, _, rfl, SqL.of upd_same, fun l2 hl2 => ?_⟩⟩
      have s2 := same_new (o := .lst (R.map iv)) s1 hl
      have raw := flip_raw wf
      rw [← eL] at raw
      refine ⟨_, rfl, l2, D, R.reverse, L, rfl, ?_, ⟨by rw [List.length_reverse]; exact o1, by rw [List.length_reverse]; exact ok.most, fun x hx => ok.ok x (List.mem_reverse.mp hx)⟩, up_keep (up_keep hL hl) hl2, fun u hu => up_keep (up_keep (hLt u hu) hl) hl2, by rw [List.length_reverse]; exact raw, fun H3 c ms' s3 perm le hC => ?_⟩
      · rw [upd_same, List.map_reverse]
      · exact k _ c ms' ((same_new s2 hl2).trans s3) hC (made_wf raw perm le)
theorem ok_again {f : Addr} {fd : FuncData} (F : Fun K "_law_again" "_law_again" s_again f fd) (T : Txt P w K mg fk)
    (C_thinned : Cal P w K mg base "thinned" 6 ["book"] spThinned) : FnOk P w K mg base CX0 7 f fd ["_law_book_here"] spAgain := by
  refine F.ok sc_again (fun vs H Q E h => ?_) (fun cdv A outer s H vs Q E hr h => ?_)
  · obtain ⟨b, R, ms, rfl, _⟩ := h
    rfl
  · obtain ⟨b, R, ms, rfl, hB, ok, wf, k⟩ := h
    refine ⟨_, (pss_cons (ps_set (i := 1) sc_again.nd rfl (Or.inl rfl) (pe_ix ix_tup (pe_cal C_thinned hr (pa_cons (pv 0) pa_nil)) pe_int (fun _ _ => rfl)))
      (pss_cons (ps_set (i := 2) sc_again.nd rfl (Or.inl rfl) (pe_cal C_thinned hr (pa_cons (pv 1) pa_nil)))
      (pss_one (ps_ret (pe_and (pe_cmpR (op_eqD hr.units) (pe_ix ix_tup (pv 2) pe_int (fun _ _ => rfl)) (pv 1) (nomark _)) (pe_one (pe_cmpR op_eq (pe_callB call_len_seq (by rfl) T.len PySem.boot_len (pa_cons (pe_ix ix_tup (pv 2) pe_int (fun _ _ => rfl)) pa_nil)) (pe_callB call_len_seq (by rfl) T.len PySem.boot_len (pa_cons (pe_ix ix_tup (pv 1) pe_int (fun _ _ => rfl)) pa_nil)) (nomark _)))))))), ?_⟩
    refine ⟨_, rfl, b, R, ms, rfl, hB, ok, wf, fun H1 p c l L Ls s1 hp hC th hLs hll htl => ⟨p, _, _, _, rfl, rfl, SqT.of hp, atI_nat (j := 0) rfl, ?_⟩⟩
    have wfL := wf.sub th.sub
    refine ⟨_, rfl, c, R, L, rfl, hC, ok, wfL, fun H2 p2 c2 l2 L2 Ls2 s2 hp2 hC2 th2 hLs2 hll2 htl2 => ?_⟩
    have e : L2 = L := thinned_again wf.up th th2
    subst e
    have hC' := hC.same s2
    obtain ⟨rc, qc, hc, hRc, tc, hqc, htc, etc⟩ := id hC'
    obtain ⟨ts2, ht2, _, ets2⟩ := id hLs2
    refine ⟨_, rfl, p2, _, _, _, rfl, rfl, SqT.of hp2, atI_nat (j := 0) rfl, _, rfl, _, _, dp_book hC2, dp_book hC', bookD_shaped R L2, bookD_shaped R L2, true, ?_, iteT ?_⟩
    · rw [SeqAt.eqv_refl _ (SeqAt.canLay_of_shaped (bookD_shaped R L2))]
    · refine ⟨_, rfl, p2, _, _, _, rfl, rfl, SqT.of hp2, atI_nat (j := 1) rfl, l2, _, rfl, .inl (SqL.of ht2), _, rfl, c, _, _, _, rfl, rfl, SqT.of hc, atI_nat (j := 1) rfl, qc, _, rfl, .inr (SqT.of hqc), rfl, ?_⟩
      have e1 : ts2.length = L2.length := by rw [← hll2, ← ets2, List.length_map]
      have e2 : tc.length = L2.length := by rw [← etc, List.length_map]
      rw [List.length_map, List.length_map, e1, e2, decide_eq_true rfl]
      exact k _ (s1.trans s2)
end
end K3
end
section
namespace K3
open PySem L2 Sat PyProof.Rows
theorem Kp.same {p : Addr} {H H' : Hp} (k : Kp p H H') (h : H p = none) : Same H H' := fun q o e => k q o (ne_of_none e h) e
theorem count_one {n k : Nat} {f : Nat → Bool} (hk : k < n) (hf : f k = true) : (((List.range n).filter f).map fun i : Nat => (i : Int)).count (k : Int) = 1 := by
  induction n with
  | zero => omega
  | succ n ih =>
    rw [List.range_succ, List.filter_append, List.map_append, List.count_append]
    by_cases e : k = n
    · subst e
      have h0 : (((List.range k).filter f).map fun i : Nat => (i : Int)).count (k : Int) = 0 := by
        refine List.count_eq_zero.mpr fun hm => ?_
        obtain ⟨x, hx, he⟩ := List.mem_map.mp hm
        have := List.mem_range.mp (List.mem_filter.mp hx).1
        omega
      rw [h0]
      simp [hf]
    · rw [ih (by omega)]
      have h0 : (([n].filter f).map fun i : Nat => (i : Int)).count (k : Int) = 0 := by
        refine List.count_eq_zero.mpr fun hm => ?_
        obtain ⟨x, hx, he⟩ := List.mem_map.mp hm
        have := List.mem_singleton.mp (List.mem_filter.mp hx).1
        omega
      rw [h0]
theorem mD_plain (m : Mt) : (mD m).plain = true := by simp [mD, PyData.plain, PyData.plainAll]
theorem mDs_plain : ∀ ms : List Mt, PyData.plainAll (ms.map mD) = true
  | [] => by simp [PyData.plainAll]
  | m :: ms => by
    have h := mDs_plain ms
    simp only [List.map_cons, PyData.plainAll, h, mD_plain]
    rfl
theorem mD_refl (m : Mt) : PyData.eqv (mD m) (mD m) = true := by simp [mD, PyData.eqv, PyData.eqvAll]
theorem any_mem {m : Mt} {L : List Mt} (h : ((L.map mD).any fun z => PyData.eqv z (mD m)) = false) : m ∉ L := fun hm => by
  have : ((L.map mD).any fun z => PyData.eqv z (mD m)) = true := List.any_eq_true.mpr ⟨mD m, List.mem_map.mpr ⟨m, hm, rfl⟩, mD_refl m⟩
  rw [h] at this
  cases this
theorem comesI_congr {n : Nat} {ms ms' : List Mt} {l : Let} (a : Al n ms ms') (hz : l.z = 0) (hs : l.s < n) (hx : l.x < n) : comesI ms l = comesI ms' l := by
  unfold comesI
  rw [hz, comes_congr a hs hx, a l.s hs l.x hx]
theorem filter_none {n : Nat} {f : Nat → Bool} (h : ∀ i, i < n → f i = false) : (List.range n).filter f = [] :=
  List.filter_eq_nil_iff.mpr fun i hi => by rw [h i (List.mem_range.mp hi)]; exact Bool.false_ne_true
section
variable {P : Program} {w : World} {K : PySem.W.Frag} {mg : Str → Option Value} {base : Heap} {fk : Addr}
theorem ok_law {f : Addr} {fd : FuncData} (F : Fun K "law" "law" s_law f fd) (T : Txt P w K mg fk)
    (C_purse : Cal P w K mg base "_law_purse" 1 ["_law_script", "_law_k"] (spPurse K)) (C_take : Cal P w K mg base "_law_take" 1 ["_law_purse_here", "_law_many"] spTake) (C_book : Cal P w K mg base "_law_book" 4 ["_law_purse_here", "_law_most_walkers", "_law_most_meetings"] spLBook)
    (C_thinned : Cal P w K mg base "thinned" 6 ["book"] spThinned) (C_parting : Cal P w K mg base "parting" 4 ["book", "other"] spParting) (C_lost : Cal P w K mg base "lost" 6 ["book", "letters", "meeting"] spLost)
    (C_letter : Cal P w K mg base "_law_letter" 4 ["_law_purse_here", "_law_book_here"] spLetter) (C_comes : Cal P w K mg base "_law_comes" 4 ["_law_book_here", "_law_letter_here"] spComes) (C_again : Cal P w K mg base "_law_again" 7 ["_law_book_here"] spAgain)
    (C_other_end : Cal P w K mg base "_law_other_end" 5 ["_law_book_here"] spOther) : FnOk P w K mg base CX0 8 f fd ["_law_script"] (spLaw K) := by
  refine F.ok sc_law (fun vs H Q E h => ?_) (fun cdv A outer s H vs Q E hr h => ?_)
  · obtain ⟨a, ns, rfl, _⟩ := h
    rfl
  · obtain ⟨a, ns, rfl, hS, hlen63, fin⟩ := h
    refine ⟨_, (pss_cons (ps_set (i := 1) sc_law.nd rfl (Or.inl rfl) (pe_cal C_purse hr (pa_cons (pv 0) (pa_cons pe_int pa_nil))))
      (pss_cons (ps_set (i := 2) sc_law.nd rfl (Or.inl rfl) (pe_cal C_book hr (pa_cons (pe_cal C_purse hr (pa_cons (pv 0) (pa_cons pe_int pa_nil))) (pa_cons pe_int (pa_cons (pe_ix ix_list (pe_lst (pa_cons pe_int (pa_cons pe_int pa_nil))) (pe_cal C_take hr (pa_cons (pv 1) (pa_cons pe_int pa_nil))) (fun _ _ => rfl)) pa_nil)))))
      (pss_cons (ps_asg (pe_cal C_thinned hr (pa_cons (pv 2) pa_nil)) (pg_tup rfl (pgs_cons (pg_name (i := 3) sc_law.nd rfl (Or.inl rfl)) (pgs_cons (pg_name (i := 4) sc_law.nd rfl (Or.inl rfl)) pgs_nil))))
      (pss_cons (ps_if (pw_or (pt_cmp (pc_notN (pe_cal C_parting hr (pa_cons (pv 2) (pa_cons (pv 3) pa_nil))))) (pw_or1 (pt_cmp (pc_notN (pe_cal C_parting hr (pa_cons (pv 3) (pa_cons (pv 2) pa_nil))))))).pt (pss_one (ps_ret pe_bl)) pss_nil)
      (pss_cons (ps_for PassesOwn.never rfl (pi_range1 (by rfl) T.range (pa_cons (pe_callB call_len_seq (by rfl) T.len PySem.boot_len (pa_cons (pv 4) pa_nil)) pa_nil)) (pg_name (i := 5) sc_law.nd rfl (Or.inl rfl)) (pss_one (ps_if (pt_cmpR op_ne (pe_bm PySem.F.plainAttrs_list PySem.F.slot_list_count PySem.F.type_list_count mt_lcount (pe_cal C_lost hr (pa_cons (pv 3) (pa_cons (pv 4) (pa_cons (pv 5) pa_nil)))) (pa_cons (pv 5) pa_nil)) pe_int (nomark _)) (pss_one (ps_ret pe_bl)) pss_nil)))
      (pss_cons (ps_set (i := 6) sc_law.nd rfl (Or.inl rfl) (pe_lst pa_nil))
      (pss_cons (ps_for PassesOwn.never rfl (pi_range2 (by rfl) T.range (pa_cons pe_int (pa_cons (pe_callB (call_min2 rfl) (by rfl) T.min boot_min (pa_cons (pe_callB (call_max2 rfl) (by rfl) T.max boot_max (pa_cons (pe_callB call_len_seq (by rfl) T.len PySem.boot_len (pa_cons (pv 0) pa_nil)) (pa_cons pe_int pa_nil))) (pa_cons pe_int pa_nil))) pa_nil))) (pg_name (i := 5) sc_law.nd rfl (Or.inl rfl)) (pss_cons (ps_asg (pe_cal C_letter hr (pa_cons (pe_cal C_purse hr (pa_cons (pv 0) (pa_cons (pv 5) pa_nil))) (pa_cons (pv 2) pa_nil))) (pg_tup rfl (pgs_cons (pg_name (i := 7) sc_law.nd rfl (Or.inl rfl)) (pgs_cons (pg_name (i := 8) sc_law.nd rfl (Or.inl rfl)) (pgs_cons (pg_name (i := 9) sc_law.nd rfl (Or.inl rfl)) (pgs_cons (pg_name (i := 10) sc_law.nd rfl (Or.inl rfl)) pgs_nil))))))
      (pss_one (ps_expr (pe_bm PySem.F.plainAttrs_list PySem.F.slot_list_append PySem.F.type_list_append mt_append (pv 6) (pa_cons (pe_tup (pa_cons (pv 7) (pa_cons pe_int (pa_cons (pv 9) (pa_cons (pv 10) pa_nil))))) pa_nil))))))
      (pss_cons (ps_for PassesOwn.never rfl (pi_list (pv 6)) (pg_name (i := 11) sc_law.nd rfl (Or.inl rfl)) (pss_one (ps_if (pt_cmpR op_ne (pe_cal C_comes hr (pa_cons (pv 2) (pa_cons (pv 11) pa_nil))) (pe_cal C_comes hr (pa_cons (pv 3) (pa_cons (pv 11) pa_nil))) (nomark _)) (pss_one (ps_ret pe_bl)) pss_nil)))
      (pss_cons (ps_for PassesOwn.never rfl (pi_range1 (by rfl) T.range (pa_cons (pe_callB call_len_seq (by rfl) T.len PySem.boot_len (pa_cons (pe_ix ix_tup (pv 2) pe_int (fun _ _ => rfl)) pa_nil)) pa_nil)) (pg_name (i := 5) sc_law.nd rfl (Or.inl rfl)) (pss_one (ps_if (pw_and (pt_cmpR (KX.op_notInTD hr.units) (pe_ix ix_tup (pe_ix ix_tup (pv 2) pe_int (fun _ _ => rfl)) (pv 5) (fun _ _ => rfl)) (pe_ix ix_tup (pv 3) pe_int (fun _ _ => rfl)) (by rfl)) (pw_and1 (pt_cmpR (op_neD hr.units) (pe_cal C_lost hr (pa_cons (pv 2) (pa_cons (pv 6) (pa_cons (pv 5) pa_nil)))) (pe_lst pa_nil) (nomark _)))).pt (pss_one (ps_ret pe_bl)) pss_nil)))
      (pss_one (ps_ret (pe_and (pe_cal C_again hr (pa_cons (pv 2) pa_nil)) (pe_one (pe_cal C_again hr (pa_cons (pe_cal C_other_end hr (pa_cons (pv 2) pa_nil)) pa_nil))))))))))))))), ?_⟩
    -- head = purse(script, 1)
    refine ⟨_, rfl, a, ns, 1, rfl, hS, fun H1 p1 s1 np1 pu1 => ?_⟩
    -- book = _law_book(purse(script, 0), 8, [8, 22][take(head, 2)])
    refine ⟨_, rfl, a, ns, 0, rfl, s1.seq hS, fun H2 p0 s2 np0 pu0 => ?_⟩
    have s12 := s1.trans s2
    obtain ⟨x1, y1, c1, hp1⟩ := pu1
    have hp12 := s2 _ _ hp1
    have ne01 : p0 ≠ p1 := ne_of_none hp1 np0 |>.symm
    refine ⟨by show 2 ≤ sizeLine; decide, fun l hl => ?_⟩
    refine ⟨_, rfl, p1, 2, rfl, by decide, by decide, ⟨x1, y1, c1, up_keep hp12 hl⟩, fun d H3 a0 a1 kp3 _ => ?_⟩
    have s3 : Same H H3 := ((Kp.of (same_new s12 hl)).trans kp3).same np1
    have pu03 : PurseAt H3 p0 := by
      obtain ⟨x, y, c, h0⟩ := pu0
      exact ⟨x, y, c, kp3 _ _ ne01 (up_keep h0 hl)⟩
    have hl3 := kp3 _ _ (fun e => by rw [e, hp12] at hl; cases hl) (upd_same (H := H2) (a := l) (o := .lst [.int 8, .int 22]))
    obtain ⟨kk, hkk, hkk22⟩ : ∃ k : Nat, atI ([V.int 8, V.int 22]) d = some (.int (k : Nat)) ∧ k ≤ 22 := by
      obtain ⟨j, rfl, hj⟩ := nat_of a0 a1
      have hj2 : j < 2 := by omega
      match j, hj2 with
      | 0, _ => exact ⟨8, atI_nat (j := 0) rfl, by decide⟩
      | 1, _ => exact ⟨22, atI_nat (j := 1) rfl, by decide⟩
    refine ⟨l, _, _, _, rfl, rfl, SqL.of hl3, hkk, p0, kk, rfl, hkk22, pu03, fun H4 b R ms kp4 _ hB ok wf => ?_⟩
    have s4 : Same H H4 := ((Kp.of s3).trans kp4).same (s1.free np0)
    have o2 := ok.most
    have o1 := ok.one
    have hmsl := wf.len
    -- left, letters = thinned(book)
    refine ⟨_, rfl, b, R, ms, rfl, hB, ok, wf, fun H5 pp c ll L Ls s5 hpp hC th hLs hll htl => ?_⟩
    have s05 := s4.trans s5
    have hB5 := hB.same s5
    have wfL := wf.sub th.sub
    have hLl := wfL.len
    refine ⟨pp, _, rfl, SqT.of hpp, rfl, _, _, rfl, _, _, rfl, rfl, ?_⟩
    -- parting, both ways
    refine ⟨_, rfl, _, rfl, b, c, R, ms, L, rfl, hB5, hC, o2, wf, wfL, fun _ H6 s6 => ?_, fun H6 a' s' x' t' tl _ _ => absurd (th.al s' tl.s_lt x' tl.x_lt) tl.ne⟩
    refine ⟨_, rfl, iteNS rfl ?_⟩
    refine ⟨_, rfl, _, rfl, c, b, R, L, ms, rfl, hC.same s6, hB5.same s6, o2, wfL, wf, fun _ H7 s7 => ?_, fun H7 a' s' x' t' tl _ _ => absurd (th.al s' tl.s_lt x' tl.x_lt).symm tl.ne⟩
    refine ⟨_, rfl, iteNS rfl ?_⟩
    have s57 := s6.trans s7
    have s07 := s05.trans s57
    have hB7 := hB5.same s57
    have hC7 := hC.same s57
    have hLs7 := hLs.same s57
    obtain ⟨ls, hls, hlt, els⟩ := id hLs7
    have hlsl : ls.length = L.length := by rw [← hll, ← els, List.length_map]
    -- for k in range(len(letters))
    refine ⟨_, rfl, ll, _, rfl, .inl (SqL.of hls), _, rfl, by rw [List.length_map]; omega, by rw [List.length_map]; omega, ?_⟩
    rw [List.length_map, Int.toNat_natCast, hlsl]
    refine for_range (lo := 0) (n := L.length) (fun i σ H' => ∃ v5, σ = [some (.ref a), some (.ref p1), some (.ref b), some (.ref c), some (.ref ll), v5, none, none, none, none, none, none] ∧ Same H7 H') ⟨_, rfl, Same.refl _⟩ (fun i σ H' hi z => ?_) (fun σ H8 z => ?_)
    · obtain ⟨v5, rfl, s8⟩ := z
      have e0 : (0 : Int) + ((i : Nat) : Int) = ((i : Nat) : Int) := Int.zero_add _
      rw [e0]
      have hval : ∀ m ∈ Ls, m.s < R.length ∧ m.x < R.length := fun m hm => by
        obtain ⟨k, hk, he⟩ := List.mem_iff_getElem.mp hm
        have ht := (htl k m (by rw [List.getElem?_eq_getElem hk, he])).2
        exact ⟨ht.s_lt, ht.x_lt⟩
      refine ⟨_, rfl, _, rfl, _, rfl, c, ll, R, L, Ls, i, rfl, hC7.same s8, ok, wfL, hi, hLs7.same s8, by omega, hval, fun H9 p9 s9 hp9 => ?_⟩
      have hp9' : H9 p9 = some (.lst ((((List.range Ls.length).filter (lostAt L i Ls)).map fun j : Nat => (j : Int)).map V.int)) := by
        rw [List.map_map]
        exact hp9
      refine ⟨.inl ⟨rfl, _, SqL.of hp9'⟩, _, rfl, p9, _, _, rfl, rfl, SqL.of hp9', rfl, _, rfl, iteNS ?_ ⟨_, rfl, s8.trans s9⟩⟩
      obtain ⟨m, hm⟩ : ∃ m, Ls[i]? = some m := ⟨_, List.getElem?_eq_getElem (by omega)⟩
      obtain ⟨mz, mt⟩ := htl i m hm
      obtain ⟨q1, q2⟩ := mt.lost wfL.up (List.eraseIdx_sublist L i)
      have hla : lostAt L i Ls i = true := by
        unfold lostAt
        rw [hm]
        show lostB L i m = true
        unfold lostB
        rw [mz, q1, q2]
        rfl
      rw [count_one (by omega) hla]
      rfl
    obtain ⟨v5, rfl, s8⟩ := z
    have s08 := s07.trans s8
    have hB8 := hB7.same s8
    have hC8 := hC7.same s8
    -- drawn = []
    refine ⟨Nat.zero_le _, fun Dr hDr => ?_⟩
    have hS8 : SqL K (upd H8 Dr (.lst [])) a (ns.map V.int) := (same_new s08 hDr).seq hS
    -- for k in range(2, min(max(len(script), 4), 8))
    have hb4 : ∀ len : Nat, 4 ≤ (if (8 : Int) < (if (4 : Int) > (len : Int) then 4 else (len : Int)) then 8 else (if (4 : Int) > (len : Int) then 4 else (len : Int))) ∧ (if (8 : Int) < (if (4 : Int) > (len : Int) then 4 else (len : Int)) then 8 else (if (4 : Int) > (len : Int) then 4 else (len : Int))) ≤ 8 := fun len => by
      split <;> split <;> omega
    have hb5 := hb4 (ns.map V.int).length
    refine ⟨_, rfl, a, _, rfl, .inl hS8, _, _, rfl, _, _, rfl, _, _, rfl, ⟨by decide, by decide, by omega, by omega⟩, ?_⟩
    have hDr0 := hDr
    refine for_range (lo := 2) (fun i σ H' => ∃ v5 v7 v8 v9 v10 ds, σ = [some (.ref a), some (.ref p1), some (.ref b), some (.ref c), some (.ref ll), v5, some (.ref Dr), v7, v8, v9, v10, none] ∧ Same H8 H' ∧ H' Dr = some (.lst (ds.map KX.rf)) ∧
        (∀ q ∈ ds, H' q.1 = some (.tup (Let.v q.2))) ∧ ds.length = i ∧ (∀ q ∈ ds, q.2.z = 0 ∧ q.2.s < R.length ∧ q.2.x < R.length))
      ⟨_, _, _, _, _, [], rfl, same_upd hDr, upd_same, fun q hq => absurd hq (by simp), rfl, fun q hq => absurd hq (by simp)⟩ (fun i σ H' hi z => ?_) (fun σ H9 z => ?_)
    · obtain ⟨v5, v7, v8, v9, v10, ds, rfl, s9, hds, hdt, hdl, hdv⟩ := z
      have e0 : (2 : Int) + ((i : Nat) : Int) = ((2 + i : Nat) : Int) := by omega
      rw [e0]
      have hi6 : i < 7 := by omega
      refine ⟨_, rfl, _, rfl, a, ns, 2 + i, rfl, (s08.trans s9).seq hS, fun H10 p2 s10 np2 pu2 => ?_⟩
      have hB10 := (hB8.same s9).same s10
      refine ⟨_, rfl, p2, b, R, ms, rfl, pu2, hB10, o1, o2, hmsl, fun H11 al le kp11 pu11 hls hlx hal => ?_⟩
      have s11 : Same H' H11 := ((Kp.of s10).trans kp11).same np2
      refine ⟨al, _, rfl, SqT.of hal, rfl, _, _, rfl, _, _, rfl, _, _, rfl, _, _, rfl, rfl, ?_⟩
      have hds11 := s11 _ _ hds
      refine ⟨_, rfl, .inl ⟨rfl, _, SqL.of hds11⟩, _, rfl, _, rfl, _, rfl, by show 4 ≤ sizeLine; decide, fun t ht => ⟨Dr, _, _, rfl, rfl, up_keep hds11 ht, ?_, ?_⟩⟩
      · rw [List.length_map, hdl]
        exact small (by omega)
      · refine ⟨some (.int ((2 + i : Nat) : Int)), some (.int le.s), some (.int le.z), some (.int le.x), some (.int le.t), ds ++ [(t, ⟨le.s, 0, le.x, le.t⟩)], rfl, same_own (same_new (s9.trans s11) ht) hDr, ?_, fun q hq => ?_, by rw [List.length_append, hdl]; rfl, fun q hq => ?_⟩
        · rw [upd_same, List.map_append]
          rfl
        · rcases List.mem_append.mp hq with hq | hq
          · exact up_oth (up_keep (s11 _ _ (hdt q hq)) ht) (up_keep hds11 ht) (by intro z; cases z)
          · obtain rfl := List.mem_singleton.mp hq
            exact up_oth upd_same (up_keep hds11 ht) (by intro z; cases z)
        · rcases List.mem_append.mp hq with hq | hq
          · exact hdv q hq
          · obtain rfl := List.mem_singleton.mp hq
            exact ⟨rfl, hls, hlx⟩
    obtain ⟨v5', v7, v8, v9, v10, ds, rfl, s9, hds, hdt, hdl, hdv⟩ := z
    have hds6 : ds.length ≤ 60 := by omega
    have hB9 := hB8.same s9
    have hC9 := hC8.same s9
    -- for letter in drawn
    refine ⟨_, rfl, Dr, rfl, ⟨_, SqL.of hds⟩, for_list (K := K) (a := Dr) (xs := ds.map KX.rf) (fun i σ H' => ∃ v11, σ = [some (.ref a), some (.ref p1), some (.ref b), some (.ref c), some (.ref ll), v5', some (.ref Dr), v7, v8, v9, v10, v11] ∧ Same H9 H')
      ⟨_, rfl, Same.refl _⟩ (fun i σ H' _ z => by obtain ⟨_, _, s10⟩ := z; exact SqL.of (s10 _ _ hds)) (fun i x σ H' hx z => ?_) (fun σ H10 z => ?_)⟩
    · obtain ⟨v11, rfl, s10⟩ := z
      obtain ⟨q, hq, rfl⟩ := map_at hx
      have hqm := List.mem_of_getElem? hq
      obtain ⟨hz, hqs, hqx⟩ := hdv q hqm
      refine ⟨_, rfl, _, rfl, b, q.1, R, ms, q.2, rfl, hB9.same s10, o2, wf, hqs, hqx, s10 _ _ (hdt q hqm), fun H11 s11 => ?_⟩
      refine ⟨_, rfl, _, rfl, c, q.1, R, L, q.2, rfl, (hC9.same s10).same s11, o2, wfL, hqs, hqx, s11 _ _ (s10 _ _ (hdt q hqm)), fun H12 s12' => ⟨rfl, _, rfl, iteNS (by rw [comesI_congr th.al hz hqs hqx]) ⟨_, rfl, (s10.trans s11).trans s12'⟩⟩⟩
    obtain ⟨v11, rfl, s10⟩ := z
    have hB10 := hB9.same s10
    have hC10 := hC9.same s10
    obtain ⟨r, q, hb, hR, tm, hq, htm, etm⟩ := id hB10
    have html : tm.length = ms.length := by rw [← etm, List.length_map]
    -- for k in range(len(book[1]))
    refine ⟨_, rfl, b, _, _, _, rfl, rfl, SqT.of hb, atI_nat (j := 1) rfl, q, _, rfl, .inr (SqT.of hq), _, rfl, by rw [List.length_map]; omega, by rw [List.length_map]; omega, ?_⟩
    rw [List.length_map, Int.toNat_natCast, html]
    refine for_range (lo := 0) (n := ms.length) (fun i σ H' => ∃ v5, σ = [some (.ref a), some (.ref p1), some (.ref b), some (.ref c), some (.ref ll), v5, some (.ref Dr), v7, v8, v9, v10, v11] ∧ Same H10 H') ⟨_, rfl, Same.refl _⟩ (fun i σ H' hi z => ?_) (fun σ H11 z => ?_)
    · obtain ⟨v5, rfl, s11⟩ := z
      have e0 : (0 : Int) + ((i : Nat) : Int) = ((i : Nat) : Int) := Int.zero_add _
      rw [e0]
      have hC11 := hC10.same s11
      obtain ⟨rc, qc, hc, hRc, tc, hqc, htc, etc⟩ := id hC11
      have hti : tm[i]? = some (tm[i]'(by omega)) := List.getElem?_eq_getElem (by omega)
      generalize tm[i]'(by omega) = e at hti
      have hem := List.mem_of_getElem? hti
      have hqi : (tm.map KX.rf)[i]? = some (.ref e.1) := by rw [List.getElem?_map, hti]; rfl
      have hmi : ms[i]? = some e.2 := by rw [← etm, List.getElem?_map, hti]; rfl
      have hd : DpAll K H' (tc.map KX.rf) (L.map mD) := by rw [← etc]; exact dp_mts htc
      refine ⟨_, rfl, b, _, _, _, rfl, rfl, SqT.of (s11 _ _ hb), atI_nat (j := 1) rfl, _, rfl, q, _, _, _, rfl, rfl, SqT.of (s11 _ _ hq), atI_nat hqi, _, rfl, c, _, _, _, rfl, rfl, SqT.of hc, atI_nat (j := 1) rfl, ?_⟩
      have hdd := mD_depth L
      refine ⟨_, _, dp_mt (s11 _ _ (htm e hem)), .tup (SqT.of hqc) hd, mD_plain _, mDs_plain L, by omega, _, rfl, ?_⟩
      cases hany : (L.map mD).any fun z => PyData.eqv z (mD e.2) with
      | true => exact iteF (iteF ⟨_, rfl, s11⟩)
      | false =>
        refine iteT ?_
        have hal := left_out wf.up th hmi (any_mem hany)
        have hlets : LetsL H' Dr (ds.map (·.2)) := ⟨ds, s11 _ _ (s10 _ _ hds), fun u hu => s11 _ _ (s10 _ _ (hdt u hu)), rfl⟩
        refine ⟨_, rfl, _, rfl, _, rfl, b, Dr, R, ms, ds.map (·.2), i, rfl, hB10.same s11, ok, wf, hi, hlets, by rw [List.length_map]; exact hds6, fun m hm => ?_, fun H12 p12 s12' hp12' => ?_⟩
        · obtain ⟨u, hu, rfl⟩ := List.mem_map.mp hm
          exact (hdv u hu).2
        · have hnone : (List.range (ds.map (·.2)).length).filter (lostAt ms i (ds.map (·.2))) = [] := filter_none fun j hj => by
            unfold lostAt
            cases hm : (ds.map (·.2))[j]? with
            | none => rfl
            | some m =>
              obtain ⟨u, hu, rfl⟩ := map_at hm
              obtain ⟨hz, hus, hux⟩ := hdv u (List.mem_of_getElem? hu)
              show lostB ms i u.2 = false
              unfold lostB
              rw [hz, comes_congr hal hus hux]
              simp
          rw [hnone] at hp12'
          refine ⟨Nat.zero_le _, fun l2 hl2 => ⟨_, _, .lst (SqL.of (up_keep hp12' hl2)) .nil, .lst (SqL.of upd_same) .nil, by decide, by decide, _, rfl, iteBF (by decide) ⟨_, rfl, same_new (s11.trans s12') hl2⟩⟩⟩
    obtain ⟨v5, rfl, s11⟩ := z
    have hB11 := hB10.same s11
    refine ⟨_, rfl, b, R, ms, rfl, hB11, ok, wf, fun H12 s12' => ⟨true, rfl, iteT ?_⟩⟩
    refine ⟨_, rfl, b, R, ms, rfl, hB11.same s12', ok, wf, fun H13 c' ms' s13 hC' wf' => ?_⟩
    exact ⟨c', R.reverse, ms', rfl, hC', ⟨by rw [List.length_reverse]; exact o1, by rw [List.length_reverse]; exact o2, fun x hx => ok.ok x (List.mem_reverse.mp hx)⟩, by rw [List.length_reverse]; exact wf', fun H14 s14 => fin _⟩
end
end K3
end
section
namespace K3
open PySem L2 Sat PyProof.Rows
section
structure Def (K : PySem.W.Frag) (nm : Str) (st : Stmt) : Prop where
  ex : ∃ (f : Addr) (fd : FuncData), PySem.W.nsIn K mainGlobals nm = some (some (.ref f)) ∧ Fun K nm nm st f fd
theorem def_mk {K : PySem.W.Frag} {nm : Str} {st : Stmt} {f : Addr} {oc : Value} {od an : Option Addr} {osl : Array (Option Value)} {kV doc pm cdv ct : Value} (a : PySem.W.nsIn K mainGlobals nm = some (some (.ref f)))
    (l : K.lookup f = some ⟨oc, od, .func (PySem.W.fnOf nm nm (defArgs st) (defBody st) (defScope st) .none kV doc pm an cdv ct), osl⟩) (c : PySem.W.codeIn K cdv nm = true) (k : PySem.W.keepIn K (.ref f) = true) : Def K nm st :=
  ⟨_, _, a, fun_mk (st := st) l c k⟩
theorem cal_of {P : Program} {w : World} {K : PySem.W.Frag} {h : Heap} {mg : Str → Option Value} {base : Heap} {nm : Str} {st : Stmt} {k : Nat} {ps : List Str} {sp : Sp} (X : K.In h) (G : h.Ns mainGlobals mg) (D : Def K nm st)
    (ok : ∀ {f : Addr} {fd : FuncData}, Fun K nm nm st f fd → FnOk P w K mg base CX0 k f fd ps sp) (bi : ∀ {f : Addr} {fd : FuncData}, Fun K nm nm st f fd → Binds K fd ps []) : Cal P w K mg base nm k ps sp :=
  let ⟨f, fd, a, F⟩ := D.ex
  ⟨f, fd, ok F, PySem.W.mg_of X G a, F.kp, bi F⟩
theorem cst_of {K : PySem.W.Frag} {h : Heap} {mg : Str → Option Value} {nm : Str} {n : Int} {t : Tok} (X : K.In h) (G : h.Ns mainGlobals mg) (a : PySem.W.nsIn K mainGlobals nm = some (some (.int n t))) : ∃ t, mg nm = some (.int n t) := ⟨t, PySem.W.mg_of X G a⟩
variable {P : Program} {w : World} {K : PySem.W.Frag} {h : Heap} {mg : Str → Option Value} {fa : Addr}
theorem all_mk {t_MOST_TIME t_MOST_WALKERS t_MOST_ROOM t_MOST_MEETINGS t_MOST_MANY : Tok} (X : K.In h) (G : h.Ns mainGlobals mg) (hfa : mg "law" = some (.ref fa))
    (d_is_whole : Def K "is_whole" s_is_whole) (d_is_within : Def K "is_within" s_is_within) (d_put_right : Def K "put_right" s_put_right) (d_both_ways : Def K "both_ways" s_both_ways)
    (d_is_number_of : Def K "is_number_of" s_is_number_of) (d_need_meeting : Def K "need_meeting" s_need_meeting) (d_are_rooms : Def K "are_rooms" s_are_rooms) (d_is_meeting : Def K "is_meeting" s_is_meeting)
    (d_meets_two_at_once : Def K "meets_two_at_once" s_meets_two_at_once) (d_made_book : Def K "made_book" s_made_book) (d_without : Def K "without" s_without) (d_comings : Def K "comings" s_comings)
    (d_earliest_times : Def K "earliest_times" s_earliest_times) (d_chain_by : Def K "chain_by" s_chain_by) (d_earliest : Def K "earliest" s_earliest) (d_unlike_at : Def K "unlike_at" s_unlike_at)
    (d_parting : Def K "parting" s_parting) (d_thinned : Def K "thinned" s_thinned) (d_given_on : Def K "given_on" s_given_on) (d_arrival : Def K "arrival" s_arrival)
    (d_lost : Def K "lost" s_lost) (d_purse : Def K "_law_purse" s_purse) (d_take : Def K "_law_take" s_take) (d_rooms : Def K "_law_rooms" s_rooms)
    (d_step : Def K "_law_step" s_step) (d_far : Def K "_law_far" s_far) (d_meetings : Def K "_law_meetings" s_meetings) (d_book : Def K "_law_book" s_book)
    (d_time : Def K "_law_time" s_time) (d_letter : Def K "_law_letter" s_letter) (d_comes : Def K "_law_comes" s_comes) (d_other_end : Def K "_law_other_end" s_other_end)
    (d_again : Def K "_law_again" s_again) (d_by_when : Def K "by_when" s_by_when) (d_law : Def K "law" s_law) (b_isinstance : PySem.W.nsIn K mainGlobals "isinstance" = some none)
    (b_int : PySem.W.nsIn K mainGlobals "int" = some none) (b_bool : PySem.W.nsIn K mainGlobals "bool" = some none) (b_list : PySem.W.nsIn K mainGlobals "list" = some none) (b_tuple : PySem.W.nsIn K mainGlobals "tuple" = some none)
    (b_len : PySem.W.nsIn K mainGlobals "len" = some none) (b_all : PySem.W.nsIn K mainGlobals "all" = some none) (b_min : PySem.W.nsIn K mainGlobals "min" = some none) (b_max : PySem.W.nsIn K mainGlobals "max" = some none)
    (b_sorted : PySem.W.nsIn K mainGlobals "sorted" = some none) (b_range : PySem.W.nsIn K mainGlobals "range" = some none) (b_enumerate : PySem.W.nsIn K mainGlobals "enumerate" = some none) (c_MOST_TIME : PySem.W.nsIn K mainGlobals "MOST_TIME" = some (some (.int 1000000000 t_MOST_TIME)))
    (c_MOST_WALKERS : PySem.W.nsIn K mainGlobals "MOST_WALKERS" = some (some (.int 12 t_MOST_WALKERS))) (c_MOST_ROOM : PySem.W.nsIn K mainGlobals "MOST_ROOM" = some (some (.int 99 t_MOST_ROOM))) (c_MOST_MEETINGS : PySem.W.nsIn K mainGlobals "MOST_MEETINGS" = some (some (.int 60 t_MOST_MEETINGS))) (c_MOST_MANY : PySem.W.nsIn K mainGlobals "MOST_MANY" = some (some (.int 99 t_MOST_MANY))) :
    ∃ fd : FuncData, (∀ (s : Shared) (v : Value), BindsTo s fd ⟨[v], []⟩ [("_law_script", v)]) ∧ ∀ base : Heap, K.In base → base.Ns mainGlobals mg → FnOk P w K mg base CX0 8 fa fd ["_law_script"] (spLaw K) := by
  obtain ⟨fk, fdk, ak, Fk⟩ := d_by_when.ex
  obtain ⟨fl, fdl, al, Fl⟩ := d_law.ex
  have e := hfa.symm.trans (PySem.W.mg_of X G al)
  cases e
  have T : Txt P w K mg fk := ⟨PySem.W.mg_none_of X G b_isinstance, PySem.W.mg_none_of X G b_int, PySem.W.mg_none_of X G b_bool, PySem.W.mg_none_of X G b_list, PySem.W.mg_none_of X G b_tuple, PySem.W.mg_none_of X G b_len, PySem.W.mg_none_of X G b_all, PySem.W.mg_none_of X G b_min, PySem.W.mg_none_of X G b_max, PySem.W.mg_none_of X G b_sorted, PySem.W.mg_none_of X G b_range, PySem.W.mg_none_of X G b_enumerate, cst_of X G c_MOST_TIME, cst_of X G c_MOST_WALKERS, cst_of X G c_MOST_ROOM, cst_of X G c_MOST_MEETINGS, cst_of X G c_MOST_MANY, PySem.W.mg_of X G ak, key_by_when Fk⟩
  refine ⟨fdl, fun s v => ?_, fun base _ _ => ?_⟩
  · obtain ⟨oc, od, kV, doc, pm, an, cdv, ct, osl, rfl, lk, hcd⟩ := Fl.ex
    exact .of_eq rfl
  · have C_is_whole : Cal P w K mg base "is_whole" 1 ["thing"] spWhole := cal_of X G d_is_whole (fun F => ok_is_whole F T) fun F => F.binds fun _ _ _ _ _ _ us hl => match us, hl with | [_], _ => rfl
    have C_is_within : Cal P w K mg base "is_within" 2 ["thing", "low", "high"] spWithin := cal_of X G d_is_within (fun F => ok_is_within F T C_is_whole) fun F => F.binds fun _ _ _ _ _ _ us hl => match us, hl with | [_, _, _], _ => rfl
    have C_put_right : Cal P w K mg base "put_right" 1 ["meeting"] spRight := cal_of X G d_put_right (fun F => ok_put_right F T) fun F => F.binds fun _ _ _ _ _ _ us hl => match us, hl with | [_], _ => rfl
    have C_both_ways : Cal P w K mg base "both_ways" 1 ["meeting"] spBoth := cal_of X G d_both_ways (fun F => ok_both_ways F T) fun F => F.binds fun _ _ _ _ _ _ us hl => match us, hl with | [_], _ => rfl
    have C_is_number_of : Cal P w K mg base "is_number_of" 3 ["book", "thing"] spIsNum := cal_of X G d_is_number_of (fun F => ok_is_number_of F T C_is_within) fun F => F.binds fun _ _ _ _ _ _ us hl => match us, hl with | [_, _], _ => rfl
    have C_need_meeting : Cal P w K mg base "need_meeting" 4 ["book", "meeting"] spNeed := cal_of X G d_need_meeting (fun F => ok_need_meeting F T C_is_number_of) fun F => F.binds fun _ _ _ _ _ _ us hl => match us, hl with | [_, _], _ => rfl
    have C_are_rooms : Cal P w K mg base "are_rooms" 3 ["thing"] spRoomsOk := cal_of X G d_are_rooms (fun F => ok_are_rooms F T C_is_within) fun F => F.binds fun _ _ _ _ _ _ us hl => match us, hl with | [_], _ => rfl
    have C_is_meeting : Cal P w K mg base "is_meeting" 3 ["thing", "walkers"] spIsMt := cal_of X G d_is_meeting (fun F => ok_is_meeting F T C_is_within) fun F => F.binds fun _ _ _ _ _ _ us hl => match us, hl with | [_, _], _ => rfl
    have C_meets_two_at_once : Cal P w K mg base "meets_two_at_once" 1 ["meetings"] spClash := cal_of X G d_meets_two_at_once (fun F => ok_meets_two_at_once F T) fun F => F.binds fun _ _ _ _ _ _ us hl => match us, hl with | [_], _ => rfl
    have C_made_book : Cal P w K mg base "made_book" 4 ["rooms", "meetings"] spMade := cal_of X G d_made_book (fun F => ok_made_book F T C_are_rooms C_is_meeting C_meets_two_at_once C_put_right) fun F => F.binds fun _ _ _ _ _ _ us hl => match us, hl with | [_, _], _ => rfl
    have C_without : Cal P w K mg base "without" 5 ["book", "meeting"] spWithout := cal_of X G d_without (fun F => ok_without F T C_need_meeting C_made_book) fun F => F.binds fun _ _ _ _ _ _ us hl => match us, hl with | [_, _], _ => rfl
    have C_comings : Cal P w K mg base "comings" 2 ["book", "sender", "since"] spComings := cal_of X G d_comings (fun F => ok_comings F T C_both_ways) fun F => F.binds fun _ _ _ _ _ _ us hl => match us, hl with | [_, _, _], _ => rfl
    have C_earliest_times : Cal P w K mg base "earliest_times" 3 ["book", "sender", "since"] spTimes := cal_of X G d_earliest_times (fun F => ok_earliest_times F T C_comings) fun F => F.binds fun _ _ _ _ _ _ us hl => match us, hl with | [_, _, _], _ => rfl
    have C_chain_by : Cal P w K mg base "chain_by" 1 ["book", "by", "walker"] spChainBy := cal_of X G d_chain_by (fun F => ok_chain_by F T) fun F => F.binds fun _ _ _ _ _ _ us hl => match us, hl with | [_, _, _], _ => rfl
    have C_earliest : Cal P w K mg base "earliest" 3 ["book", "letter"] spEarliest := cal_of X G d_earliest (fun F => ok_earliest F T C_comings C_chain_by) fun F => F.binds fun _ _ _ _ _ _ us hl => match us, hl with | [_, _], _ => rfl
    have C_unlike_at : Cal P w K mg base "unlike_at" 1 ["one", "other"] spUnlike := cal_of X G d_unlike_at (fun F => ok_unlike_at F T) fun F => F.binds fun _ _ _ _ _ _ us hl => match us, hl with | [_, _], _ => rfl
    have C_parting : Cal P w K mg base "parting" 4 ["book", "other"] spParting := cal_of X G d_parting (fun F => ok_parting F T C_earliest_times C_unlike_at) fun F => F.binds fun _ _ _ _ _ _ us hl => match us, hl with | [_, _], _ => rfl
    have C_thinned : Cal P w K mg base "thinned" 6 ["book"] spThinned := cal_of X G d_thinned (fun F => ok_thinned F T C_without C_parting) fun F => F.binds fun _ _ _ _ _ _ us hl => match us, hl with | [_], _ => rfl
    have C_given_on : Cal P w K mg base "given_on" 1 ["book", "letter", "numbers"] spGiven := cal_of X G d_given_on (fun F => ok_given_on F T) fun F => F.binds fun _ _ _ _ _ _ us hl => match us, hl with | [_, _, _], _ => rfl
    have C_arrival : Cal P w K mg base "arrival" 2 ["book", "letter", "chain"] spArrival := cal_of X G d_arrival (fun F => ok_arrival F T C_given_on) fun F => F.binds fun _ _ _ _ _ _ us hl => match us, hl with | [_, _, _], _ => rfl
    have C_lost : Cal P w K mg base "lost" 6 ["book", "letters", "meeting"] spLost := cal_of X G d_lost (fun F => ok_lost F T C_without C_earliest) fun F => F.binds fun _ _ _ _ _ _ us hl => match us, hl with | [_, _, _], _ => rfl
    have C_purse : Cal P w K mg base "_law_purse" 1 ["_law_script", "_law_k"] (spPurse K) := cal_of X G d_purse (fun F => ok_purse F T) fun F => F.binds fun _ _ _ _ _ _ us hl => match us, hl with | [_, _], _ => rfl
    have C_take : Cal P w K mg base "_law_take" 1 ["_law_purse_here", "_law_many"] spTake := cal_of X G d_take (fun F => ok_take F T) fun F => F.binds fun _ _ _ _ _ _ us hl => match us, hl with | [_, _], _ => rfl
    have C_rooms : Cal P w K mg base "_law_rooms" 2 ["_law_purse_here", "_law_walkers"] spLRooms := cal_of X G d_rooms (fun F => ok_rooms F T C_take) fun F => F.binds fun _ _ _ _ _ _ us hl => match us, hl with | [_, _], _ => rfl
    have C_step : Cal P w K mg base "_law_step" 2 ["_law_purse_here"] spStep := cal_of X G d_step (fun F => ok_step F T C_take) fun F => F.binds fun _ _ _ _ _ _ us hl => match us, hl with | [_], _ => rfl
    have C_far : Cal P w K mg base "_law_far" 2 ["_law_purse_here"] spFar := cal_of X G d_far (fun F => ok_far F T C_take) fun F => F.binds fun _ _ _ _ _ _ us hl => match us, hl with | [_], _ => rfl
    have C_meetings : Cal P w K mg base "_law_meetings" 3 ["_law_purse_here", "_law_walkers", "_law_most"] spLMeet := cal_of X G d_meetings (fun F => ok_meetings F T C_take C_step) fun F => F.binds fun _ _ _ _ _ _ us hl => match us, hl with | [_, _, _], _ => rfl
    have C_book : Cal P w K mg base "_law_book" 4 ["_law_purse_here", "_law_most_walkers", "_law_most_meetings"] spLBook := cal_of X G d_book (fun F => ok_book F T C_take C_rooms C_meetings) fun F => F.binds fun _ _ _ _ _ _ us hl => match us, hl with | [_, _, _], _ => rfl
    have C_time : Cal P w K mg base "_law_time" 3 ["_law_purse_here", "_law_book_here", "_law_later"] spTime := cal_of X G d_time (fun F => ok_time F T C_take C_far) fun F => F.binds fun _ _ _ _ _ _ us hl => match us, hl with | [_, _, _], _ => rfl
    have C_letter : Cal P w K mg base "_law_letter" 4 ["_law_purse_here", "_law_book_here"] spLetter := cal_of X G d_letter (fun F => ok_letter F T C_take C_time) fun F => F.binds fun _ _ _ _ _ _ us hl => match us, hl with | [_, _], _ => rfl
    have C_comes : Cal P w K mg base "_law_comes" 4 ["_law_book_here", "_law_letter_here"] spComes := cal_of X G d_comes (fun F => ok_comes F T C_earliest C_arrival) fun F => F.binds fun _ _ _ _ _ _ us hl => match us, hl with | [_, _], _ => rfl
    have C_other_end : Cal P w K mg base "_law_other_end" 5 ["_law_book_here"] spOther := cal_of X G d_other_end (fun F => ok_other_end F T C_made_book) fun F => F.binds fun _ _ _ _ _ _ us hl => match us, hl with | [_], _ => rfl
    have C_again : Cal P w K mg base "_law_again" 7 ["_law_book_here"] spAgain := cal_of X G d_again (fun F => ok_again F T C_thinned) fun F => F.binds fun _ _ _ _ _ _ us hl => match us, hl with | [_], _ => rfl
    exact ok_law Fl T C_purse C_take C_book C_thinned C_parting C_lost C_letter C_comes C_again C_other_end
end
theorem walk {l : PySem.W.OpenLaw} {q : Program} {loose : List Str} {XP : (Str → Option Value) → Heap → Prop} {YP : World → Heap → Prop} {d : DefRec} {K : Params → PySem.W.Frag} (hn : l.most = some 63) (hdf : d.params.defaults = [])
    (hY : ∀ (w : World) (h : Heap), YP w h → (K w.params).In h)
    (F : ∀ (w : World) (mg : Str → Option Value) (fa : Addr) (h : Heap), (K w.params).In h → h.Ns mainGlobals mg → mg d.name = some (.ref fa) →
      ∃ fd : FuncData, (∀ (s : Shared) (u : Value), BindsTo s fd ⟨[u], []⟩ [("_law_script", u)]) ∧ ∀ base : Heap, (K w.params).In base → base.Ns mainGlobals mg → FnOk l.prog w (K w.params) mg base CX0 8 fa fd ["_law_script"] (spLaw (K w.params))) :
    PySem.W.WalkO q loose XP YP l.row.toRowW d [] (fun f vs => PySem.call f vs) :=
  L2.walk_of (n := 63) (k := 8) (x := "_law_script") (CX := fun _ => CX0) (sp := fun w => spLaw (K w.params)) hn (by decide) hdf ⟨rfl, by decide, by decide⟩ hY F (fun _ _ a ns hl _ hS => ⟨a, ns, rfl, hS, hl, fun _ => rfl⟩) fun _ _ _ _ _ z => z
end K3
end
section
open PySem PySem.W PyProof.Rows
set_option maxRecDepth 100000 in
set_option maxHeartbeats 0 in
theorem PySem.Challenge.cw_satchelmeet_k32_whole_thinned_again_holds : PySem.Challenge.rw_satchelmeet_k32_whole_thinned_again.Holds := by
  w_on; o_law; k_head; (case hw => w_witness2)
  k_fill
  refine K3.walk (l := PySem.Challenge.rw_satchelmeet_k32_whole_thinned_again) rfl rfl (fun w h Y => PySem.W.kIn_of Y) ?F
  case F =>
    intro w mg fa h KX G hmg
    refine' K3.all_mk KX G hmg ?d_is_whole ?d_is_within ?d_put_right ?d_both_ways ?d_is_number_of ?d_need_meeting ?d_are_rooms ?d_is_meeting ?d_meets_two_at_once ?d_made_book ?d_without ?d_comings ?d_earliest_times ?d_chain_by ?d_earliest ?d_unlike_at ?d_parting ?d_thinned ?d_given_on ?d_arrival ?d_lost ?d_purse ?d_take ?d_rooms ?d_step ?d_far ?d_meetings ?d_book ?d_time ?d_letter ?d_comes ?d_other_end ?d_again ?d_by_when ?d_law ?b_isinstance ?b_int ?b_bool ?b_list ?b_tuple ?b_len ?b_all ?b_min ?b_max ?b_sorted ?b_range ?b_enumerate ?c_MOST_TIME ?c_MOST_WALKERS ?c_MOST_ROOM ?c_MOST_MEETINGS ?c_MOST_MANY
    (case d_is_whole => refine' K3.def_mk ?a ?l ?c ?k; (case a => k_is); (case l => k_is); (case c => k_is); (case k => k_is))
    (case d_is_within => refine' K3.def_mk ?a ?l ?c ?k; (case a => k_is); (case l => k_is); (case c => k_is); (case k => k_is))
    (case d_put_right => refine' K3.def_mk ?a ?l ?c ?k; (case a => k_is); (case l => k_is); (case c => k_is); (case k => k_is))
    (case d_both_ways => refine' K3.def_mk ?a ?l ?c ?k; (case a => k_is); (case l => k_is); (case c => k_is); (case k => k_is))
    (case d_is_number_of => refine' K3.def_mk ?a ?l ?c ?k; (case a => k_is); (case l => k_is); (case c => k_is); (case k => k_is))
    (case d_need_meeting => refine' K3.def_mk ?a ?l ?c ?k; (case a => k_is); (case l => k_is); (case c => k_is); (case k => k_is))
    (case d_are_rooms => refine' K3.def_mk ?a ?l ?c ?k; (case a => k_is); (case l => k_is); (case c => k_is); (case k => k_is))
    (case d_is_meeting => refine' K3.def_mk ?a ?l ?c ?k; (case a => k_is); (case l => k_is); (case c => k_is); (case k => k_is))
    (case d_meets_two_at_once => refine' K3.def_mk ?a ?l ?c ?k; (case a => k_is); (case l => k_is); (case c => k_is); (case k => k_is))
    (case d_made_book => refine' K3.def_mk ?a ?l ?c ?k; (case a => k_is); (case l => k_is); (case c => k_is); (case k => k_is))
    (case d_without => refine' K3.def_mk ?a ?l ?c ?k; (case a => k_is); (case l => k_is); (case c => k_is); (case k => k_is))
    (case d_comings => refine' K3.def_mk ?a ?l ?c ?k; (case a => k_is); (case l => k_is); (case c => k_is); (case k => k_is))
    (case d_earliest_times => refine' K3.def_mk ?a ?l ?c ?k; (case a => k_is); (case l => k_is); (case c => k_is); (case k => k_is))
    (case d_chain_by => refine' K3.def_mk ?a ?l ?c ?k; (case a => k_is); (case l => k_is); (case c => k_is); (case k => k_is))
    (case d_earliest => refine' K3.def_mk ?a ?l ?c ?k; (case a => k_is); (case l => k_is); (case c => k_is); (case k => k_is))
    (case d_unlike_at => refine' K3.def_mk ?a ?l ?c ?k; (case a => k_is); (case l => k_is); (case c => k_is); (case k => k_is))
    (case d_parting => refine' K3.def_mk ?a ?l ?c ?k; (case a => k_is); (case l => k_is); (case c => k_is); (case k => k_is))
    (case d_thinned => refine' K3.def_mk ?a ?l ?c ?k; (case a => k_is); (case l => k_is); (case c => k_is); (case k => k_is))
    (case d_given_on => refine' K3.def_mk ?a ?l ?c ?k; (case a => k_is); (case l => k_is); (case c => k_is); (case k => k_is))
    (case d_arrival => refine' K3.def_mk ?a ?l ?c ?k; (case a => k_is); (case l => k_is); (case c => k_is); (case k => k_is))
    (case d_lost => refine' K3.def_mk ?a ?l ?c ?k; (case a => k_is); (case l => k_is); (case c => k_is); (case k => k_is))
    (case d_purse => refine' K3.def_mk ?a ?l ?c ?k; (case a => k_is); (case l => k_is); (case c => k_is); (case k => k_is))
    (case d_take => refine' K3.def_mk ?a ?l ?c ?k; (case a => k_is); (case l => k_is); (case c => k_is); (case k => k_is))
    (case d_rooms => refine' K3.def_mk ?a ?l ?c ?k; (case a => k_is); (case l => k_is); (case c => k_is); (case k => k_is))
    (case d_step => refine' K3.def_mk ?a ?l ?c ?k; (case a => k_is); (case l => k_is); (case c => k_is); (case k => k_is))
    (case d_far => refine' K3.def_mk ?a ?l ?c ?k; (case a => k_is); (case l => k_is); (case c => k_is); (case k => k_is))
    (case d_meetings => refine' K3.def_mk ?a ?l ?c ?k; (case a => k_is); (case l => k_is); (case c => k_is); (case k => k_is))
    (case d_book => refine' K3.def_mk ?a ?l ?c ?k; (case a => k_is); (case l => k_is); (case c => k_is); (case k => k_is))
    (case d_time => refine' K3.def_mk ?a ?l ?c ?k; (case a => k_is); (case l => k_is); (case c => k_is); (case k => k_is))
    (case d_letter => refine' K3.def_mk ?a ?l ?c ?k; (case a => k_is); (case l => k_is); (case c => k_is); (case k => k_is))
    (case d_comes => refine' K3.def_mk ?a ?l ?c ?k; (case a => k_is); (case l => k_is); (case c => k_is); (case k => k_is))
    (case d_other_end => refine' K3.def_mk ?a ?l ?c ?k; (case a => k_is); (case l => k_is); (case c => k_is); (case k => k_is))
    (case d_again => refine' K3.def_mk ?a ?l ?c ?k; (case a => k_is); (case l => k_is); (case c => k_is); (case k => k_is))
    (case d_by_when => refine' K3.def_mk ?a ?l ?c ?k; (case a => k_is); (case l => k_is); (case c => k_is); (case k => k_is))
    (case d_law => refine' K3.def_mk ?a ?l ?c ?k; (case a => k_is); (case l => k_is); (case c => k_is); (case k => k_is))
    (case b_isinstance => k_is)
    (case b_int => k_is)
    (case b_bool => k_is)
    (case b_list => k_is)
    (case b_tuple => k_is)
    (case b_len => k_is)
    (case b_all => k_is)
    (case b_min => k_is)
    (case b_max => k_is)
    (case b_sorted => k_is)
    (case b_range => k_is)
    (case b_enumerate => k_is)
    (case c_MOST_TIME => k_is)
    (case c_MOST_WALKERS => k_is)
    (case c_MOST_ROOM => k_is)
    (case c_MOST_MEETINGS => k_is)
    (case c_MOST_MANY => k_is)
end
