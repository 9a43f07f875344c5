import PyProof.Rows.All
import Wide.All
import OpenK.AllK
import Wide.FinOn
import KE.KStateDown
import KE.GoesEnum
import KE.GoesMore
import KE.KDictDisplayH
import PyProof.DictMoreH
import Lean
import HandS.ForMost
import HandS.Walk
import HandS.Wide
import HandS.Flow
import HandS.Style
import HandS.Deep
import HandS.IsInst
import HandS.Conv
import HandS.DictComp
import HandS.DictTup
import HandS.ListItems
import HandS.SortInts
import HandS.CallLocal
import HandS.Head0
import HandS.Head1
import HandS.Head2
import HandS.HeadEnd
import HandS.HeadHook1
import HandS.HeadHook2
import HandS.HeadHook3
import HandS.HeadHook4
import HandS.HeadWalk
import HandS.Defaults
import HandS.Nested
import PySem.Challenge.RW_neverleapt_k75_whole_runs_that_show_a_sh
set_option Elab.async false
set_option linter.all false
set_option maxRecDepth 100000
set_option maxHeartbeats 0
namespace Nl
/-! plain mathematics: runs of a machine, how often they show a share -/
structure Ev where
  b : Nat
  a : Nat
  t : Nat
  p : Int
abbrev Sta := Nat × Int
structure MOk (n : Nat) (es : List Ev) : Prop where
  n1 : 1 ≤ n
  n4 : n ≤ 4
  len : es.length ≤ 6
  ev : ∀ e ∈ es, e.b < n ∧ e.a < n ∧ 1 ≤ e.t ∧ e.t ≤ 39 ∧ -4 ≤ e.p ∧ e.p ≤ 4
theorem MOk.at {n : Nat} {es : List Ev} (m : MOk n es) {j : Nat} {e : Ev} (h : es[j]? = some e) : e.b < n ∧ e.a < n ∧ 1 ≤ e.t ∧ e.t ≤ 39 ∧ -4 ≤ e.p ∧ e.p ≤ 4 := m.ev e (List.mem_of_getElem? h)
/-- a run from (tries, state) to (tries, state), its events, the sum of what g counts behind each event -/
inductive Way (es : List Ev) (g : Nat → Int → Int) (t0 : Nat) (s0 : Sta) : Nat → Sta → List Nat → Int → Prop
  | nil : Way es g t0 s0 t0 s0 [] 0
  | snoc {t : Nat} {s : Sta} {r : List Nat} {c : Int} {j : Nat} {e : Ev} (w : Way es g t0 s0 t s r c) (h : es[j]? = some e) (hb : e.b = s.1) :
      Way es g t0 s0 (t + e.t) (e.a, s.2 + e.p) (r ++ [j]) (c + g (t + e.t) (s.2 + e.p))
section
variable {es : List Ev} {g : Nat → Int → Int}
theorem Way.trans {t0 t1 t2 : Nat} {s0 s1 s2 : Sta} {r1 r2 : List Nat} {c1 c2 : Int} (w1 : Way es g t0 s0 t1 s1 r1 c1) (w2 : Way es g t1 s1 t2 s2 r2 c2) : Way es g t0 s0 t2 s2 (r1 ++ r2) (c1 + c2) := by
  induction w2 with
  | nil => rw [List.append_nil, Int.add_zero]; exact w1
  | snoc w h hb ih =>
    rw [← List.append_assoc, ← Int.add_assoc]
    exact Way.snoc ih h hb
theorem Way.cons {t t2 : Nat} {s s2 : Sta} {j : Nat} {e : Ev} {r : List Nat} {c : Int} (h : es[j]? = some e) (hb : e.b = s.1) (w : Way es g (t + e.t) (e.a, s.2 + e.p) t2 s2 r c) : Way es g t s t2 s2 (j :: r) (g (t + e.t) (s.2 + e.p) + c) := by
  have q := (Way.snoc (Way.nil (es := es) (g := g) (t0 := t) (s0 := s)) h hb).trans w
  rw [Int.zero_add] at q
  exact q
theorem Way.le {t0 t : Nat} {s0 s : Sta} {r : List Nat} {c : Int} (w : Way es g t0 s0 t s r c) : t0 ≤ t := by
  induction w with
  | nil => exact Nat.le_refl _
  | snoc w h hb ih => omega
theorem Way.box {n : Nat} (m : MOk n es) {t0 t : Nat} {s0 s : Sta} {r : List Nat} {c : Int} (w : Way es g t0 s0 t s r c) (h0 : s0.1 < n) : s.1 < n ∧ s0.2 - 4 * ((t : Int) - t0) ≤ s.2 ∧ s.2 ≤ s0.2 + 4 * ((t : Int) - t0) := by
  induction w with
  | nil => exact ⟨h0, by omega, by omega⟩
  | snoc w h hb ih =>
    obtain ⟨h1, h2, h3⟩ := ih
    obtain ⟨e1, e2, e3, e4, e5, e6⟩ := m.at h
    have l := w.le
    refine ⟨e2, ?_, ?_⟩
    · show _ ≤ _ + _
      rw [Int.natCast_add]
      omega
    · show _ + _ ≤ _
      rw [Int.natCast_add]
      omega
theorem Way.cnt {n : Nat} (m : MOk n es) (hg : ∀ t x, 0 ≤ g t x ∧ g t x ≤ 1) {t0 t : Nat} {s0 s : Sta} {r : List Nat} {c : Int} (w : Way es g t0 s0 t s r c) : 0 ≤ c ∧ c ≤ (t : Int) - t0 := by
  induction w with
  | nil => omega
  | snoc w h hb ih =>
    rename_i t' s' r' c' j e
    obtain ⟨e1, e2, e3, e4, e5, e6⟩ := m.at h
    have q := hg (t' + e.t) (s'.2 + e.p)
    rw [Int.natCast_add]
    exact ⟨Int.add_nonneg ih.1 q.1, Int.le_trans (Int.add_le_add ih.2 q.2) (by omega)⟩
/-! ### the program's layers -/
abbrev Ent := Int × Option (Nat × Sta)
def setT {α : Type} (T : Nat → Sta → Option α) (k : Nat) (s : Sta) (v : α) : Nat → Sta → Option α := fun k2 s2 => if k2 = k ∧ s2 = s then some v else T k2 s2
theorem setT_same {α : Type} {T : Nat → Sta → Option α} {k : Nat} {s : Sta} {v : α} : setT T k s v k s = some v := if_pos ⟨rfl, rfl⟩
theorem setT_ne {α : Type} {T : Nat → Sta → Option α} {k k2 : Nat} {s s2 : Sta} {v : α} (h : ¬ (k2 = k ∧ s2 = s)) : setT T k s v k2 s2 = T k2 s2 := if_neg h
structure TInv (es : List Ev) (g : Nat → Int → Int) (sg : Int) (bg m : Nat) (T0 : Sta → Option Int) (i : Nat) (Done : Nat → Sta → Nat → Prop) (T : Nat → Sta → Option Ent) : Prop where
  zero : ∀ s, T 0 s = (T0 s).map fun c => (c, none)
  non : ∀ k s c, T k s = some (c, none) → k = 0
  via : ∀ k s c j s', T k s = some (c, some (j, s')) → ∃ e c' v', es[j]? = some e ∧ e.b = s'.1 ∧ s = (e.a, s'.2 + e.p) ∧ e.t ≤ k ∧ k ≤ i + e.t ∧ T (k - e.t) s' = some (c', v') ∧ c = c' + g (bg + k) s.2
  top : ∀ k s, m < k → T k s = none
  done : ∀ k s j e c v, Done k s j → es[j]? = some e → e.b = s.1 → k + e.t ≤ m → T k s = some (c, v) → ∃ c' v', T (k + e.t) (e.a, s.2 + e.p) = some (c', v') ∧ sg * c' ≤ sg * (c + g (bg + k + e.t) (s.2 + e.p))
variable {n : Nat} {sg : Int} {bg m : Nat} {T0 : Sta → Option Int} {i : Nat} {Done : Nat → Sta → Nat → Prop} {T : Nat → Sta → Option Ent}
theorem TInv.weak {D' : Nat → Sta → Nat → Prop} (I : TInv es g sg bg m T0 i Done T) (h : ∀ k s j, D' k s j → Done k s j) : TInv es g sg bg m T0 i D' T :=
  ⟨I.zero, I.non, I.via, I.top, fun k s j e c v d => I.done k s j e c v (h k s j d)⟩
/-- nothing to be done at an event that leads too far, or from elsewhere -/
theorem TInv.skip {s : Sta} {j : Nat} (I : TInv es g sg bg m T0 i Done T) (h : ∀ e, es[j]? = some e → e.b = s.1 → i + e.t ≤ m → False) : TInv es g sg bg m T0 i (fun k a b => Done k a b ∨ (k = i ∧ a = s ∧ b = j)) T :=
  ⟨I.zero, I.non, I.via, I.top, fun k a b e c v d h1 h2 h3 h4 => by
    rcases d with d | ⟨rfl, rfl, rfl⟩
    · exact I.done k a b e c v d h1 h2 h3 h4
    · exact (h e h1 h2 h3).elim⟩
/-- kept as it was: there is one so good -/
theorem TInv.keep {s : Sta} {j : Nat} {e : Ev} {c : Int} {v : Option (Nat × Sta)} {c2 : Int} {v2 : Option (Nat × Sta)} (I : TInv es g sg bg m T0 i Done T) (he : es[j]? = some e) (hT : T i s = some (c, v)) (h2 : T (i + e.t) (e.a, s.2 + e.p) = some (c2, v2))
    (hc : ¬ sg * (c + g (bg + i + e.t) (s.2 + e.p)) < sg * c2) : TInv es g sg bg m T0 i (fun k a b => Done k a b ∨ (k = i ∧ a = s ∧ b = j)) T :=
  ⟨I.zero, I.non, I.via, I.top, fun k a b e' c' v' d h1 h3 h4 h5 => by
    rcases d with d | ⟨rfl, rfl, rfl⟩
    · exact I.done k a b e' c' v' d h1 h3 h4 h5
    · rw [he] at h1
      cases h1
      rw [hT] at h5
      cases h5
      exact ⟨c2, v2, h2, Int.not_lt.mp hc⟩⟩
/-- a better one is stored -/
theorem TInv.put {s : Sta} {j : Nat} {e : Ev} {c : Int} {v : Option (Nat × Sta)} (M : MOk n es) (I : TInv es g sg bg m T0 i Done T) (hD : ∀ k s j, Done k s j → k ≤ i) (he : es[j]? = some e) (hb : e.b = s.1) (hm : i + e.t ≤ m) (hT : T i s = some (c, v))
    (h2 : ∀ c2 v2, T (i + e.t) (e.a, s.2 + e.p) = some (c2, v2) → sg * (c + g (bg + i + e.t) (s.2 + e.p)) < sg * c2) :
    TInv es g sg bg m T0 i (fun k a b => Done k a b ∨ (k = i ∧ a = s ∧ b = j)) (setT T (i + e.t) (e.a, s.2 + e.p) (c + g (bg + i + e.t) (s.2 + e.p), some (j, s))) := by
  have ht := (M.at he).2.2.1
  have low : ∀ k a, k ≤ i → setT T (i + e.t) (e.a, s.2 + e.p) (c + g (bg + i + e.t) (s.2 + e.p), some (j, s)) k a = T k a := fun k a hk => setT_ne fun q => by omega
  refine ⟨fun a => ?_, fun k a d q => ?_, fun k a d b a' q => ?_, fun k a hk => ?_, fun k a b e' c' v' d h1 h3 h4 h5 => ?_⟩
  · rw [low 0 a (Nat.zero_le _)]; exact I.zero a
  · by_cases q2 : k = i + e.t ∧ a = (e.a, s.2 + e.p)
    · obtain ⟨rfl, rfl⟩ := q2
      rw [setT_same] at q
      cases q
    · rw [setT_ne q2] at q
      exact I.non k a d q
  · by_cases q2 : k = i + e.t ∧ a = (e.a, s.2 + e.p)
    · obtain ⟨rfl, rfl⟩ := q2
      rw [setT_same] at q
      cases q
      refine ⟨e, c, v, he, hb, rfl, by omega, by omega, ?_, ?_⟩
      · rw [Nat.add_sub_cancel, low i _ (Nat.le_refl _)]; exact hT
      · rw [Nat.add_assoc]
    · rw [setT_ne q2] at q
      obtain ⟨e', c', v', h1, h3, h4, h5, h6, h7, h8⟩ := I.via k a d b a' q
      exact ⟨e', c', v', h1, h3, h4, h5, h6, by rw [low _ _ (by omega)]; exact h7, h8⟩
  · rw [setT_ne (fun q => by omega)]; exact I.top k a hk
  · have hk : k ≤ i := by
      rcases d with d | ⟨rfl, _, _⟩
      · exact hD _ _ _ d
      · exact Nat.le_refl _
    rw [low k a hk] at h5
    by_cases q2 : k + e'.t = i + e.t ∧ (e'.a, a.2 + e'.p) = ((e.a, s.2 + e.p) : Sta)
    · rw [q2.1, q2.2, setT_same]
      refine ⟨_, _, rfl, ?_⟩
      rcases d with d | ⟨rfl, rfl, rfl⟩
      · obtain ⟨c3, v3, e3, l3⟩ := I.done k a b e' c' v' d h1 h3 h4 h5
        rw [q2.1, q2.2] at e3
        exact Int.le_trans (Int.le_of_lt (h2 c3 v3 e3)) l3
      · rw [he] at h1
        cases h1
        rw [hT] at h5
        cases h5
        exact Int.le_refl _
    · rw [setT_ne q2]
      rcases d with d | ⟨rfl, rfl, rfl⟩
      · exact I.done k a b e' c' v' d h1 h3 h4 h5
      · rw [he] at h1
        cases h1
        exact absurd ⟨rfl, rfl⟩ q2
/-- a layer is through -/
theorem TInv.next (I : TInv es g sg bg m T0 i Done T) (h : ∀ k s j e, k < i + 1 → T k s ≠ none → es[j]? = some e → e.b = s.1 → Done k s j) : TInv es g sg bg m T0 (i + 1) (fun k _ _ => k < i + 1) T :=
  ⟨I.zero, I.non, fun k s c j s' q => by
    obtain ⟨e, c', v', h1, h2, h3, h4, h5, h6, h7⟩ := I.via k s c j s' q
    exact ⟨e, c', v', h1, h2, h3, h4, by omega, h6, h7⟩, I.top, fun k s j e c v d h1 h2 h3 h4 => I.done k s j e c v (h k s j e d (by rw [h4]; simp) h1 h2) h1 h2 h3 h4⟩
theorem TInv.chain (M : MOk n es) (I : TInv es g sg bg m T0 i Done T) : ∀ (k : Nat) (s : Sta) (c : Int) (v : Option (Nat × Sta)), T k s = some (c, v) → ∃ s0 c0 r c1, T0 s0 = some c0 ∧ Way es g bg s0 (bg + k) s r c1 ∧ c = c0 + c1 := by
  intro k
  induction k using Nat.strongRecOn with
  | ind k ih =>
    intro s c v h
    cases v with
    | none =>
      have e0 := I.non k s c h
      subst e0
      rw [I.zero s] at h
      cases e : T0 s with
      | none => rw [e] at h; cases h
      | some c0 =>
        rw [e] at h
        cases h
        exact ⟨s, c, [], 0, e, Way.nil, by omega⟩
    | some q =>
      obtain ⟨j, s'⟩ := q
      obtain ⟨e, c', v', h1, h2, rfl, h4, h5, h6, h7⟩ := I.via k s c j s' h
      have ht := (M.at h1).2.2.1
      obtain ⟨s0, c0, r, c1, k1, k2, k3⟩ := ih (k - e.t) (by omega) s' c' v' h6
      have w := Way.snoc k2 h1 h2
      have ek : bg + (k - e.t) + e.t = bg + k := by omega
      rw [ek] at w
      exact ⟨s0, c0, _, _, k1, w, by rw [h7, k3, Int.add_assoc]⟩
theorem TInv.best (I : TInv es g sg bg m T0 i Done T) (hD : ∀ k s j, k < m → Done k s j) {s0 : Sta} {c0 : Int} {t : Nat} {s : Sta} {r : List Nat} {c : Int} (h0 : T0 s0 = some c0) (M : MOk n es) (w : Way es g bg s0 t s r c) (ht : t ≤ bg + m) :
    ∃ k c' v, t = bg + k ∧ T k s = some (c', v) ∧ sg * c' ≤ sg * (c0 + c) := by
  induction w with
  | nil => exact ⟨0, c0, none, rfl, by rw [I.zero, h0]; rfl, by rw [Int.add_zero]; exact Int.le_refl _⟩
  | snoc w h hb ih =>
    have h1 := (M.at h).2.2.1
    obtain ⟨k, c', v, rfl, h3, h4⟩ := ih (by omega)
    obtain ⟨c2, v2, h5, h6⟩ := I.done _ _ _ _ _ _ (hD _ _ _ (by omega)) h hb (by omega) h3
    refine ⟨_, c2, v2, Nat.add_assoc _ _ _, h5, Int.le_trans h6 ?_⟩
    rw [← Int.add_assoc, Int.mul_add, Int.mul_add sg (c0 + _)]
    exact Int.add_le_add_right h4 _
end
/-! ### the law's layers -/
structure FInv (es : List Ev) (g : Nat → Int → Int) (bg m : Nat) (C0 : Sta → Option (Int → Prop)) (Done : Nat → Sta → Nat → Prop) (C : Nat → Sta → Option (Int → Prop)) : Prop where
  zero : ∀ s, C 0 s = C0 s
  sound : ∀ k s P, C k s = some P → (∃ n, P n) ∧ ∀ n, P n → ∃ s0 P0 c0 r c, C0 s0 = some P0 ∧ P0 c0 ∧ Way es g bg s0 (bg + k) s r c ∧ n = c0 + c
  top : ∀ k s, m < k → C k s = none
  done : ∀ k s j e P n, Done k s j → es[j]? = some e → e.b = s.1 → k + e.t ≤ m → C k s = some P → P n → ∃ P', C (k + e.t) (e.a, s.2 + e.p) = some P' ∧ P' (n + g (bg + k + e.t) (s.2 + e.p))
section
variable {es : List Ev} {g : Nat → Int → Int} {n : Nat} {bg m : Nat} {C0 : Sta → Option (Int → Prop)} {i : Nat} {Done : Nat → Sta → Nat → Prop} {C : Nat → Sta → Option (Int → Prop)}
theorem FInv.weak {D' : Nat → Sta → Nat → Prop} (I : FInv es g bg m C0 Done C) (h : ∀ k s j e, D' k s j → C k s ≠ none → es[j]? = some e → e.b = s.1 → Done k s j) : FInv es g bg m C0 D' C :=
  ⟨I.zero, I.sound, I.top, fun k s j e P n d h1 h2 h3 h4 => I.done k s j e P n (h k s j e d (by rw [h4]; simp) h1 h2) h1 h2 h3 h4⟩
theorem FInv.skip {s : Sta} {j : Nat} (I : FInv es g bg m C0 Done C) (h : ∀ e, es[j]? = some e → e.b = s.1 → i + e.t ≤ m → False) : FInv es g bg m C0 (fun k a b => Done k a b ∨ (k = i ∧ a = s ∧ b = j)) C :=
  ⟨I.zero, I.sound, I.top, fun k a b e P n d h1 h2 h3 h4 => by
    rcases d with d | ⟨rfl, rfl, rfl⟩
    · exact I.done k a b e P n d h1 h2 h3 h4
    · exact (h e h1 h2 h3).elim⟩
/-- what stands at a state behind a turn -/
def moreC (C : Nat → Sta → Option (Int → Prop)) (k : Nat) (s : Sta) (P : Int → Prop) (d : Int) : Int → Prop := fun n => (∃ P1, C k s = some P1 ∧ P1 n) ∨ ∃ n0, P n0 ∧ n = n0 + d
theorem FInv.put {s : Sta} {j : Nat} {e : Ev} {P : Int → Prop} (M : MOk n es) (I : FInv es g bg m C0 Done C) (hD : ∀ k s j, Done k s j → k ≤ i) (he : es[j]? = some e) (hb : e.b = s.1) (hm : i + e.t ≤ m) (hC : C i s = some P) :
    FInv es g bg m C0 (fun k a b => Done k a b ∨ (k = i ∧ a = s ∧ b = j)) (setT C (i + e.t) (e.a, s.2 + e.p) (moreC C (i + e.t) (e.a, s.2 + e.p) P (g (bg + i + e.t) (s.2 + e.p)))) := by
  have ht := (M.at he).2.2.1
  have low : ∀ k a, k ≤ i → setT C (i + e.t) (e.a, s.2 + e.p) (moreC C (i + e.t) (e.a, s.2 + e.p) P (g (bg + i + e.t) (s.2 + e.p))) k a = C k a := fun k a hk => setT_ne fun q => by omega
  refine ⟨fun a => ?_, fun k a P' q => ?_, fun k a hk => ?_, fun k a b e' P' n d h1 h3 h4 h5 h6 => ?_⟩
  · rw [low 0 a (Nat.zero_le _)]; exact I.zero a
  · by_cases q2 : k = i + e.t ∧ a = (e.a, s.2 + e.p)
    · obtain ⟨rfl, rfl⟩ := q2
      rw [setT_same] at q
      cases q
      obtain ⟨⟨n0, hn0⟩, hs⟩ := I.sound i s P hC
      refine ⟨⟨_, .inr ⟨n0, hn0, rfl⟩⟩, fun n hn => ?_⟩
      rcases hn with ⟨P1, h1, h2⟩ | ⟨n1, h1, rfl⟩
      · exact (I.sound _ _ P1 h1).2 n h2
      · obtain ⟨s0, P0, c0, r, c, k1, k2, k3, rfl⟩ := hs n1 h1
        have w := Way.snoc k3 he hb
        rw [Nat.add_assoc] at w
        exact ⟨s0, P0, c0, _, _, k1, k2, w, by rw [Int.add_assoc, Nat.add_assoc]⟩
    · rw [setT_ne q2] at q
      exact I.sound k a P' q
  · rw [setT_ne (fun q => by omega)]; exact I.top k a hk
  · have hk : k ≤ i := by
      rcases d with d | ⟨rfl, _, _⟩
      · exact hD _ _ _ d
      · exact Nat.le_refl _
    rw [low k a hk] at h5
    by_cases q2 : k + e'.t = i + e.t ∧ (e'.a, a.2 + e'.p) = ((e.a, s.2 + e.p) : Sta)
    · rw [q2.1, q2.2, setT_same]
      refine ⟨_, rfl, ?_⟩
      rcases d with d | ⟨rfl, rfl, rfl⟩
      · obtain ⟨P3, e3, l3⟩ := I.done k a b e' P' n d h1 h3 h4 h5 h6
        rw [q2.1, q2.2] at e3
        exact .inl ⟨P3, e3, l3⟩
      · rw [he] at h1
        cases h1
        rw [hC] at h5
        cases h5
        exact .inr ⟨n, h6, rfl⟩
    · rw [setT_ne q2]
      rcases d with d | ⟨rfl, rfl, rfl⟩
      · exact I.done k a b e' P' n d h1 h3 h4 h5 h6
      · rw [he] at h1
        cases h1
        exact absurd ⟨rfl, rfl⟩ q2
theorem FInv.all (I : FInv es g bg m C0 Done C) (hD : ∀ k s j, k < m → Done k s j) {s0 : Sta} {P0 : Int → Prop} {c0 : Int} {t : Nat} {s : Sta} {r : List Nat} {c : Int} (h0 : C0 s0 = some P0) (hc : P0 c0) (M : MOk n es) (w : Way es g bg s0 t s r c) (ht : t ≤ bg + m) :
    ∃ k P, t = bg + k ∧ C k s = some P ∧ P (c0 + c) := by
  induction w with
  | nil => exact ⟨0, P0, rfl, by rw [I.zero, h0], by rw [Int.add_zero]; exact hc⟩
  | snoc w h hb ih =>
    have h1 := (M.at h).2.2.1
    obtain ⟨k, P, rfl, h3, h4⟩ := ih (by omega)
    obtain ⟨P2, h5, h6⟩ := I.done _ _ _ _ _ _ (hD _ _ _ (by omega)) h hb (by omega) h3 h4
    exact ⟨_, P2, Nat.add_assoc _ _ _, h5, by rw [← Int.add_assoc]; exact h6⟩
end
end Nl
namespace Nl
/-! ### a run from its begin -/
section
variable {es : List Ev} {g : Nat → Int → Int}
theorem Way.of_nil {t0 t : Nat} {s0 s : Sta} {r : List Nat} {c : Int} (w : Way es g t0 s0 t s r c) (h : r = []) : t = t0 ∧ s = s0 ∧ c = 0 := by
  cases w with
  | nil => exact ⟨rfl, rfl, rfl⟩
  | snoc w k hb => exact absurd h (by simp)
theorem Way.uncons {t : Nat} {s : Sta} {t2 : Nat} {s2 : Sta} {l : List Nat} {c : Int} (w : Way es g t s t2 s2 l c) : ∀ (j : Nat) (r : List Nat), l = j :: r → ∃ e c', es[j]? = some e ∧ e.b = s.1 ∧ Way es g (t + e.t) (e.a, s.2 + e.p) t2 s2 r c' ∧ c = g (t + e.t) (s.2 + e.p) + c' := by
  induction w with
  | nil => intro j r h; cases h
  | snoc w h hb ih =>
    rename_i t' s' r' c' j' e'
    intro j r hl
    cases r' with
    | nil =>
      rw [List.nil_append] at hl
      injection hl with h1 h2
      subst h1 h2
      obtain ⟨rfl, rfl, rfl⟩ := w.of_nil rfl
      exact ⟨e', 0, h, hb, Way.nil, by omega⟩
    | cons a r0 =>
      rw [List.cons_append] at hl
      injection hl with h1 h2
      subst h1 h2
      obtain ⟨e, c2, k1, k2, k3, k4⟩ := ih a r0 rfl
      exact ⟨e, _, k1, k2, Way.snoc k3 h hb, by rw [k4]; omega⟩
theorem Way.regain (g' : Nat → Int → Int) {t0 t : Nat} {s0 s : Sta} {r : List Nat} {c : Int} (w : Way es g t0 s0 t s r c) : ∃ c', Way es g' t0 s0 t s r c' := by
  induction w with
  | nil => exact ⟨0, Way.nil⟩
  | snoc w h hb ih =>
    obtain ⟨c', w'⟩ := ih
    exact ⟨_, Way.snoc w' h hb⟩
theorem Way.len {n : Nat} (M : MOk n es) {t0 t : Nat} {s0 s : Sta} {r : List Nat} {c : Int} (w : Way es g t0 s0 t s r c) : t0 + r.length ≤ t := by
  induction w with
  | nil => exact Nat.le_refl _
  | snoc w h hb ih =>
    have := (M.at h).2.2.1
    rw [List.length_append, List.length_singleton]
    omega
/-- the boards behind each event -/
def bds (es : List Ev) : Nat → Int → List Nat → List (Nat × Int)
  | _, _, [] => []
  | t, x, j :: r => match es[j]? with
    | some e => (t + e.t, x + e.p) :: bds es (t + e.t) (x + e.p) r
    | none => []
theorem bds_cons {t : Nat} {x : Int} {j : Nat} {r : List Nat} {e : Ev} (h : es[j]? = some e) : bds es t x (j :: r) = (t + e.t, x + e.p) :: bds es (t + e.t) (x + e.p) r := by
  show (match es[j]? with | some e => (t + e.t, x + e.p) :: bds es (t + e.t) (x + e.p) r | none => []) = _
  rw [h]
theorem bds_snoc {t0 t : Nat} {s0 s : Sta} {r : List Nat} {c : Int} (w : Way es g t0 s0 t s r c) {j : Nat} {e : Ev} (h : es[j]? = some e) : bds es t0 s0.2 (r ++ [j]) = bds es t0 s0.2 r ++ [(t + e.t, s.2 + e.p)] := by
  induction r generalizing t0 s0 c with
  | nil =>
    obtain ⟨rfl, rfl, rfl⟩ := w.of_nil rfl
    show bds es t s.2 [j] = _
    rw [bds_cons h]
    rfl
  | cons a r ih =>
    obtain ⟨e', c', k1, k2, k3, k4⟩ := w.uncons a r rfl
    have q := ih k3
    rw [List.cons_append, bds_cons k1, bds_cons k1, List.cons_append]
    exact congrArg _ q
theorem bds_app {t0 t : Nat} {s0 s : Sta} {r r2 : List Nat} {c : Int} (w : Way es g t0 s0 t s r c) : bds es t0 s0.2 (r ++ r2) = bds es t0 s0.2 r ++ bds es t s.2 r2 := by
  induction r generalizing t0 s0 c with
  | nil =>
    obtain ⟨rfl, rfl, rfl⟩ := w.of_nil rfl
    rfl
  | cons a r ih =>
    obtain ⟨e', c', k1, k2, k3, k4⟩ := w.uncons a r rfl
    have q := ih k3
    rw [List.cons_append, bds_cons k1, bds_cons k1, List.cons_append]
    exact congrArg _ q
theorem bds_len {t0 t : Nat} {s0 s : Sta} {r : List Nat} {c : Int} (w : Way es g t0 s0 t s r c) : (bds es t0 s0.2 r).length = r.length := by
  induction w with
  | nil => rfl
  | snoc w h hb ih => rw [bds_snoc w h, List.length_append, List.length_append, ih, List.length_singleton, List.length_singleton]
theorem bds_last {t0 t : Nat} {s0 s : Sta} {r : List Nat} {c : Int} (w : Way es g t0 s0 t s r c) : ((t0, s0.2) :: bds es t0 s0.2 r)[r.length]? = some (t, s.2) := by
  induction w with
  | nil => rfl
  | snoc w h hb ih =>
    rw [bds_snoc w h, List.length_append, List.length_singleton, List.getElem?_cons_succ]
    rw [List.getElem?_append_right (by rw [bds_len w]; exact Nat.le_refl _), bds_len w, Nat.sub_self]
    rfl
theorem bds_lt {n : Nat} (M : MOk n es) {t0 t : Nat} {s0 s : Sta} {r : List Nat} {c : Int} (w : Way es g t0 s0 t s r c) : (∀ p ∈ bds es t0 s0.2 r, t0 < p.1) ∧ ∀ i p, i < r.length → ((t0, s0.2) :: bds es t0 s0.2 r)[i]? = some p → p.1 < t := by
  induction w with
  | nil => exact ⟨fun p h => (by cases h), fun i p h => (by cases h)⟩
  | snoc w h hb ih =>
    rename_i t' s' r' c' j' e'
    have ht := (M.at h).2.2.1
    have l := w.le
    rw [bds_snoc w h]
    refine ⟨fun p hp => ?_, fun i p hi e => ?_⟩
    · rcases List.mem_append.mp hp with q | q
      · exact ih.1 p q
      · rw [List.mem_singleton.mp q]
        show t0 < t' + e'.t
        omega
    · rw [← List.cons_append] at e
      have hl : i < ((t0, s0.2) :: bds es t0 s0.2 r').length := by
        rw [List.length_cons, bds_len w]
        rw [List.length_append, List.length_singleton] at hi
        exact hi
      rw [List.getElem?_append_left hl] at e
      rw [List.length_append, List.length_singleton] at hi
      by_cases hq : i < r'.length
      · have := ih.2 i p hq e
        omega
      · have ei : i = r'.length := by omega
        subst ei
        rw [bds_last w] at e
        cases e
        show t' < t' + e'.t
        omega
theorem bds_sum {t0 t : Nat} {s0 s : Sta} {r : List Nat} {c : Int} (w : Way es g t0 s0 t s r c) : c = ((bds es t0 s0.2 r).map fun b => g b.1 b.2).sum := by
  induction w with
  | nil => rfl
  | snoc w h hb ih => rw [bds_snoc w h, List.map_append, List.sum_append_int, ← ih]; simp
/-! ### what is counted -/
def gn (a b : Int) (t : Nat) (x : Int) : Int := if 0 < t ∧ x * b = (t : Int) * a then 1 else 0
def g0 : Nat → Int → Int := fun _ _ => 0
theorem gn_01 (a b : Int) (t : Nat) (x : Int) : 0 ≤ gn a b t x ∧ gn a b t x ≤ 1 := by
  unfold gn
  split <;> omega
theorem g0_01 (t : Nat) (x : Int) : 0 ≤ g0 t x ∧ g0 t x ≤ 1 := by unfold g0; omega
theorem Way.zero {t0 t : Nat} {s0 s : Sta} {r : List Nat} {c : Int} (w : Way es g0 t0 s0 t s r c) : c = 0 := by
  induction w with
  | nil => rfl
  | snoc w h hb ih => rw [ih]; rfl
def hitB (a b : Int) (p : Nat × Int) : Bool := decide (0 < p.1) && decide (p.2 * b = (p.1 : Int) * a)
theorem hit_sum (a b : Int) : ∀ l : List (Nat × Int), (l.map fun p => gn a b p.1 p.2).sum = ((l.filter (hitB a b)).length : Int)
  | [] => rfl
  | p :: r => by
    rw [List.map_cons, List.sum_cons, hit_sum a b r, List.filter_cons]
    unfold gn hitB
    by_cases h : 0 < p.1 ∧ p.2 * b = (p.1 : Int) * a
    · rw [if_pos h, if_pos (by simp [h.1, h.2]), List.length_cons]
      omega
    · rw [if_neg h, if_neg (by intro q; rw [Bool.and_eq_true, decide_eq_true_eq, decide_eq_true_eq] at q; exact h q)]
      omega
/-- runs that show both boards, by their two parts, and how often they show the share between -/
structure Run2 (es : List Ev) (f l : Nat × Int) (a b : Int) (r1 r2 : List Nat) (n : Int) : Prop where
  ex : ∃ q q2 c2, Way es g0 0 (0, 0) f.1 (q, f.2) r1 0 ∧ Way es (gn a b) f.1 (q, f.2) l.1 (q2, l.2) r2 c2 ∧ n = gn a b f.1 f.2 + c2
def RunsN (es : List Ev) (f l : Nat × Int) (a b : Int) (n : Int) : Prop := ∃ r1 r2, Run2 es f l a b r1 r2 n
/-- how often, by all runs: the least and the greatest, or none -/
def OftenIs (es : List Ev) (f l : Nat × Int) (a b : Int) (o : Option (Int × Int)) : Prop := match o with
  | none => ∀ n, ¬ RunsN es f l a b n
  | some (x, y) => RunsN es f l a b x ∧ RunsN es f l a b y ∧ ∀ n, RunsN es f l a b n → x ≤ n ∧ n ≤ y
theorem often_one {f l : Nat × Int} {a b : Int} {o o' : Option (Int × Int)} (h : OftenIs es f l a b o) (h' : OftenIs es f l a b o') : o = o' := by
  cases o with
  | none => cases o' with
    | none => rfl
    | some q => obtain ⟨x, y⟩ := q; exact absurd h'.1 (h x)
  | some p =>
    obtain ⟨x, y⟩ := p
    cases o' with
    | none => exact absurd h.1 (h' x)
    | some q =>
      obtain ⟨x', y'⟩ := q
      have h1 := h.2.2 x' h'.1
      have h2 := h.2.2 y' h'.2.1
      have h3 := h'.2.2 x h.1
      have h4 := h'.2.2 y h.2.1
      have e1 : x = x' := by omega
      have e2 : y = y' := by omega
      rw [e1, e2]
/-- what best_run tells -/
def BestIs (es : List Ev) (f l : Nat × Int) (a b sg : Int) (o : Option (Int × List Nat)) : Prop := match o with
  | none => ∀ n, ¬ RunsN es f l a b n
  | some (x, r) => (∃ r1 r2, r = r1 ++ r2 ∧ Run2 es f l a b r1 r2 x) ∧ ∀ n, RunsN es f l a b n → sg * x ≤ sg * n
theorem best_two {f l : Nat × Int} {a b : Int} {x y : Int} {r r' : List Nat} (h : BestIs es f l a b 1 (some (x, r))) (h' : BestIs es f l a b (-1) (some (y, r'))) : OftenIs es f l a b (some (x, y)) := by
  obtain ⟨⟨r1, r2, _, k⟩, m1⟩ := h
  obtain ⟨⟨r3, r4, _, k'⟩, m2⟩ := h'
  refine ⟨⟨r1, r2, k⟩, ⟨r3, r4, k'⟩, fun n hn => ?_⟩
  have q1 := m1 n hn
  have q2 := m2 n hn
  omega
theorem best_eq {f l : Nat × Int} {a b : Int} {x y z : Int} {r : List Nat} (h : OftenIs es f l a b (some (x, y))) (k : Bool) (h' : BestIs es f l a b (if k = true then -1 else 1) (some (z, r))) : z = if k = true then y else x := by
  obtain ⟨⟨r1, r2, _, kk⟩, m⟩ := h'
  have q := h.2.2 z ⟨r1, r2, kk⟩
  cases k with
  | true =>
    have q1 := m y h.2.1
    simp only [if_true] at q1 ⊢
    omega
  | false =>
    have q1 := m x h.1
    simp only [Bool.false_eq_true, if_false] at q1 ⊢
    omega
/-! ### a run of two parts: its boards -/
theorem Run2.way {f l : Nat × Int} {a b : Int} {r1 r2 : List Nat} {x : Int} (h : Run2 es f l a b r1 r2 x) : ∃ q2 c, Way es g0 0 (0, 0) l.1 (q2, l.2) (r1 ++ r2) c := by
  obtain ⟨q, q2, c2, w1, w2, _⟩ := h.ex
  obtain ⟨c', w2'⟩ := w2.regain g0
  exact ⟨q2, _, w1.trans w2'⟩
theorem Run2.shown {n : Nat} (M : MOk n es) {f l : Nat × Int} {a b : Int} {r1 r2 : List Nat} {x : Int} (h : Run2 es f l a b r1 r2 x) :
    ∃ L1 L2, (0, 0) :: bds es 0 0 (r1 ++ r2) = L1 ++ f :: L2 ∧ L1.length = r1.length ∧ (∀ p ∈ L1, p.1 < f.1) ∧ (L1 ++ f :: L2)[r1.length + r2.length]? = some l ∧ (((f :: L2).filter (hitB a b)).length : Int) = x := by
  obtain ⟨q, q2, c2, w1, w2, ex⟩ := h.ex
  have e1 := bds_app (r2 := r2) w1
  have e2 := bds_last w1
  have e3 := bds_lt M w1
  have e4 := bds_len w1
  have e5 := bds_last w2
  have e6 := bds_sum w2
  have e7 := bds_len w2
  refine ⟨((0, 0) :: bds es 0 0 r1).take r1.length, bds es f.1 f.2 r2, ?_, ?_, fun p hp => ?_, ?_, ?_⟩
  · have hd : ((0, 0) :: bds es 0 0 r1).drop r1.length = [f] := by
      have hl : r1.length < (((0, 0) : Nat × Int) :: bds es 0 0 r1).length := by
        rw [List.length_cons, e4]; omega
      rw [List.drop_eq_getElem_cons hl]
      have g1 : (((0, 0) : Nat × Int) :: bds es 0 0 r1)[r1.length] = f := by
        have q := List.getElem?_eq_getElem hl
        rw [e2] at q
        exact (Option.some.inj q).symm
      rw [g1, List.drop_eq_nil_of_le (by rw [List.length_cons, e4]; omega)]
    have hk := List.take_append_drop r1.length (((0, 0) : Nat × Int) :: bds es 0 0 r1)
    rw [hd] at hk
    show (0, 0) :: bds es 0 0 (r1 ++ r2) = _
    rw [e1, ← List.cons_append, ← hk, List.append_assoc]
    rw [hk]
    rfl
  · rw [List.length_take, List.length_cons, e4]; omega
  · obtain ⟨i, hi⟩ := List.mem_iff_getElem?.mp hp
    rw [List.getElem?_take] at hi
    split at hi
    · rename_i h1
      exact e3.2 i p h1 hi
    · cases hi
  · rw [List.getElem?_append_right (by rw [List.length_take, List.length_cons, e4]; omega)]
    have hl : (((0, 0) : Nat × Int) :: bds es 0 0 r1).length = r1.length + 1 := by rw [List.length_cons, e4]
    rw [List.length_take, hl, show r1.length + r2.length - min r1.length (r1.length + 1) = r2.length by omega]
    exact e5
  · rw [← hit_sum, List.map_cons, List.sum_cons, ← e6, ex]
end
/-! ### the greatest common divisor -/
theorem gcd_step (x y : Nat) : Nat.gcd y (x % y) = Nat.gcd x y := by
  rw [Nat.gcd_comm x y, Nat.gcd_rec y x, Nat.gcd_comm]
/-- Euclid's pairs behind i turns, from one whose second is at most 1000 -/
def Eu (G : Nat) (i x y : Nat) : Prop := Nat.gcd x y = G ∧ (i = 0 → y ≤ 1000) ∧ (0 < i → y < x ∧ x * y * 2 ^ (i - 1) ≤ 1000000)
theorem Eu.next {G i x y : Nat} (h : Eu G i x y) (hy : 0 < y) : Eu G (i + 1) y (x % y) := by
  obtain ⟨h1, h2, h3⟩ := h
  have l := Nat.mod_lt x hy
  refine ⟨by rw [gcd_step, h1], fun q => by omega, fun _ => ⟨l, ?_⟩⟩
  by_cases hi : i = 0
  · subst hi
    have := h2 rfl
    show y * (x % y) * 1 ≤ _
    have a1 : y * (x % y) ≤ 1000 * 1000 := Nat.mul_le_mul this (by omega)
    omega
  · obtain ⟨k1, k2⟩ := h3 (by omega)
    obtain ⟨i', rfl⟩ : ∃ i', i = i' + 1 := ⟨i - 1, by omega⟩
    show y * (x % y) * 2 ^ (i' + 1) ≤ _
    have k2 : x * y * 2 ^ i' ≤ 1000000 := k2
    have hm : 2 * (x % y) ≤ x := by
      have d := Nat.div_add_mod x y
      have : 1 ≤ x / y := (Nat.one_le_div_iff hy).mpr (by omega)
      have : y * 1 ≤ y * (x / y) := Nat.mul_le_mul_left y this
      omega
    have e : y * (x % y) * 2 ^ (i' + 1) = (2 * (x % y)) * y * 2 ^ i' := by
      rw [Nat.pow_succ, Nat.mul_comm y (x % y), Nat.mul_comm (2 ^ i') 2, ← Nat.mul_assoc, Nat.mul_comm (x % y * y) 2, ← Nat.mul_assoc]
    rw [e]
    exact Nat.le_trans (Nat.mul_le_mul_right _ (Nat.mul_le_mul_right _ hm)) k2
theorem Eu.done {G x y : Nat} (h : Eu G 400 x y) : y = 0 := by
  obtain ⟨_, _, h3⟩ := h
  obtain ⟨h4, h5⟩ := h3 (by decide)
  rcases Nat.eq_zero_or_pos y with e | e
  · exact e
  · have h1 : 1 ≤ x * y := Nat.mul_pos (by omega) e
    have h5 : x * y * 2 ^ (400 - 1) ≤ 1000000 := h5
    have h2 : 1 * 2 ^ (400 - 1) ≤ x * y * 2 ^ (400 - 1) := Nat.mul_le_mul_right _ h1
    have h6 : (2 : Nat) ^ 20 ≤ 2 ^ (400 - 1) := Nat.pow_le_pow_right (by decide) (by decide)
    have h7 : (2 : Nat) ^ 20 ≤ 1000000 := by omega
    exact absurd h7 (by decide)
/-- a share -/
structure ShOk (a b : Int) : Prop where
  b1 : 1 ≤ b
  co : Nat.gcd a.natAbs b.natAbs = 1
theorem low_ok {x : Int} {t : Int} (ht : 1 ≤ t) : 0 < Nat.gcd x.natAbs t.natAbs ∧ ShOk (x / (Nat.gcd x.natAbs t.natAbs : Nat)) (t / (Nat.gcd x.natAbs t.natAbs : Nat)) ∧
    x = (Nat.gcd x.natAbs t.natAbs : Nat) * (x / (Nat.gcd x.natAbs t.natAbs : Nat)) ∧ t = (Nat.gcd x.natAbs t.natAbs : Nat) * (t / (Nat.gcd x.natAbs t.natAbs : Nat)) := by
  generalize hG : Nat.gcd x.natAbs t.natAbs = G
  have g1 : G ∣ x.natAbs := by rw [← hG]; exact Nat.gcd_dvd_left _ _
  have g2 : G ∣ t.natAbs := by rw [← hG]; exact Nat.gcd_dvd_right _ _
  have g0 : 0 < G := by rw [← hG]; exact Nat.gcd_pos_of_pos_right _ (by omega)
  have gi : (G : Int) ≠ 0 := by omega
  obtain ⟨x', hx⟩ := Int.ofNat_dvd_left.mpr g1
  obtain ⟨t', ht'⟩ := Int.ofNat_dvd_left.mpr g2
  have e1 : x / (G : Int) = x' := by rw [hx, Int.mul_ediv_cancel_left _ gi]
  have e2 : t / (G : Int) = t' := by rw [ht', Int.mul_ediv_cancel_left _ gi]
  rw [e1, e2]
  refine ⟨g0, ⟨?_, ?_⟩, hx, ht'⟩
  · rcases Int.lt_or_le t' 1 with q | q
    · have : (G : Int) * t' ≤ 0 := Int.mul_nonpos_of_nonneg_of_nonpos (by omega) (by omega)
      omega
    · exact q
  · have q := hG
    rw [hx, ht', Int.natAbs_mul, Int.natAbs_mul, Int.natAbs_natCast, Nat.gcd_mul_left] at q
    exact Nat.eq_of_mul_eq_mul_left g0 (by rw [q, Nat.mul_one])
theorem cop_eq {a b a' b' : Int} (h : ShOk a b) (h' : ShOk a' b') (e : a * b' = a' * b) : a = a' ∧ b = b' := by
  have b1 := h.b1
  have b2 := h'.b1
  have n1 : a.natAbs * b'.natAbs = a'.natAbs * b.natAbs := by
    have := congrArg Int.natAbs e
    rw [Int.natAbs_mul, Int.natAbs_mul] at this
    exact this
  have d1 : b.natAbs ∣ b'.natAbs := by
    have c : Nat.Coprime b.natAbs a.natAbs := by unfold Nat.Coprime; rw [Nat.gcd_comm]; exact h.co
    exact c.dvd_of_dvd_mul_left ⟨a'.natAbs, by rw [n1, Nat.mul_comm]⟩
  have d2 : b'.natAbs ∣ b.natAbs := by
    have c : Nat.Coprime b'.natAbs a'.natAbs := by unfold Nat.Coprime; rw [Nat.gcd_comm]; exact h'.co
    exact c.dvd_of_dvd_mul_left ⟨a.natAbs, by rw [← n1, Nat.mul_comm]⟩
  have eb : b = b' := by
    have := Nat.dvd_antisymm d1 d2
    omega
  subst eb
  exact ⟨Int.eq_of_mul_eq_mul_right (by omega) e, rfl⟩
/-- a board shows a share just if it is the board in lowest terms -/
theorem low_iff {x t a b : Int} (ht : 1 ≤ t) (h : ShOk a b) : (x / (Nat.gcd x.natAbs t.natAbs : Nat) = a ∧ t / (Nat.gcd x.natAbs t.natAbs : Nat) = b) ↔ x * b = t * a := by
  obtain ⟨g0, hs, hx, ht'⟩ := low_ok (x := x) ht
  generalize Nat.gcd x.natAbs t.natAbs = G at g0 hs hx ht'
  generalize x / (G : Int) = x' at hs hx
  generalize t / (G : Int) = t' at hs ht'
  subst hx ht'
  constructor
  · rintro ⟨rfl, rfl⟩
    rw [Int.mul_assoc, Int.mul_assoc, Int.mul_comm x' t']
  · intro e
    rw [Int.mul_assoc, Int.mul_assoc] at e
    have e2 := Int.eq_of_mul_eq_mul_left (show (G : Int) ≠ 0 by omega) e
    exact cop_eq hs h (by rw [e2, Int.mul_comm])
end Nl
namespace Nl
open PySem PySem.Spec PyProof.Rows L2
/-! ### calls of the text's own defs -/
/-- a def by its name: where it stands, what it promises -/
structure Fk (P : Program) (w : World) (K : PySem.W.Frag) (mg : Str → Option Value) (base : Heap) (k : Nat) (x : Str) (ps : List Str) (sp : Sp) : Prop where
  ex : ∃ (f : Addr) (fd : FuncData), FnOk P w K mg base CX0 k f fd ps sp ∧ mg x = some (.ref f) ∧ PySem.W.keepIn K (.ref f) = true ∧ Binds K fd ps []
def tF (sp : Sp) (t : TA) : TE := fun σ H Q => t σ H fun vs H1 => sp vs H1 Q E0
section
variable {X : Cx} {k j : Nat} {x : Str} {ps : List Str} {sp : Sp} {p pos : Pos} {e : Expr} {es : List Expr} {t : TA}
theorem pe_fk (F : Fk X.prog X.w X.K X.mg X.base k x ps sp) (hr : Room j X.A) (hg : Gl X x) (ha : PA X (e :: es) t) (hk : k ≤ j := by decide) (hdb : (x == ("__debug__" : Str)) = false := by decide)
    (he : starEach (e :: es) X.env = (false, eval e X.env) :: starEach es X.env := by rfl) (hpl : (backTo pos (starEach es X.env)).any (·.1) = false := by rfl) : PE X (.Call (.Name x p) (e :: es) [] pos) (tF sp t) := by
  obtain ⟨f, fd, F1, h1, h2, h3⟩ := F.ex
  have q : PE X (.Call (.Name x p) (e :: es) [] pos) (tCall sp [] E0 t) := pe_call F1 (hr.mono hk) hg h1 h2 h3 .nil pass0 ha hdb he hpl
  refine ⟨fun pins s σ H Q I h => q.run pins s σ H Q I ?_⟩
  have e0 : (fun (vs : List V) (H1 : Hp) => sp (vs ++ []) H1 Q E0) = fun vs H1 => sp vs H1 Q E0 := by
    funext vs H1
    rw [List.append_nil]
  show t σ H (fun vs H1 => sp (vs ++ []) H1 Q E0)
  rw [e0]
  exact h
end
/-! ### sorted(d): the keys' tuples, pairs of ints -/
section
variable {X : Cx}
/-- the key of a state -/
abbrev pk (q : Nat) (x : Int) : List L2.Key := [.inl (q : Int), .inl x]
def ltK (k : V → Int × Int) (x y : V) : Bool := SrtO.lexB (k x) (k y)
theorem call_sortT (hc : X.calm = true) : CallR X (.builtin "sorted") (fun vs H Q => ∃ (d : Addr) (kvs : List (List L2.Key × V)), vs = [.ref d] ∧ Rd H d (.dT kvs) ∧ (∀ q ∈ kvs, ∃ i j : Int, q.1 = [.inl i, .inl j]) ∧
    ∀ (bs cs : List Addr) (p : Addr), IsKeys H kvs bs → cs.Perm bs → H p = none → Q (.ref p) (upd H p (.lst (cs.map V.ref)))) := by
  intro pins s σ H vs us Q I r h
  obtain ⟨d, kvs, rfl, hd, hk, q⟩ := h
  obtain ⟨u, rfl, ru⟩ := vals1 r
  cases ru
  obtain ⟨z, hs, ks, pr, o, es, ep, ho, hx, hdt, he, hn⟩ := (show ObjOk X.prog X.w H s.heap d (.dT kvs) from hd.ok I.hok)
  have l1 : es.size = ks.length := size_of_entries he
  have l2 : kvs.length = ks.length := Paired.length pr
  refine Calls.call_function_entry kind_sorted plain_sorted entry_sorted (args_sorted1 _) ?_
  unfold Builtin.«sorted»
  refine wpAny_bind (m := checkCount "sorted" 1 1 _) (wpAny_pure ?_)
  refine wpAny_bind (PySem.W.kdu_collect (A := X.A.in1) (kdl_raw hs hx hdt) (I.ok.hd hc) ho (by omega) fun h' tk acc hkp it => ?_)
  have ea : acc.toList = (ks.map fun x => x.2.1).map Value.ref := by
    have hl : acc.toList.length = ks.length := by rw [Array.length_toList, it.1]; exact l1
    apply List.ext_getElem?
    intro j
    rw [List.getElem?_map, List.getElem?_map]
    cases hj : acc.toList[j]? with
    | none =>
      have h1 := List.getElem?_eq_none_iff.mp hj
      rw [List.getElem?_eq_none (by omega)]
      rfl
    | some v =>
      obtain ⟨en, hen, hv⟩ := it.2 j v (by rw [← Array.getElem?_toList]; exact hj)
      have qe := entry_at he j
      rw [hen] at qe
      cases hb : ks[j]? with
      | none => rw [hb] at qe; cases qe
      | some b =>
        rw [hb] at qe
        have e2 : en = entryOfKey (tupleKind (mixKind X.prog X.w)) b := Option.some.inj qe
        rw [hv, e2]
        rfl
  have keys : IsKeys H kvs (ks.map fun x => x.2.1) := isKeys_of pr
  have hlen : acc.toList.length = ks.length := by rw [ea, List.length_map, List.length_map]
  have hzl : acc.toList.length ≤ sizeLine := by omega
  have I1 : Inv X pins σ H { s with heap := h', toks := tk } := I.kept hkp
  refine wpAny_bind (wpAny_newList ?_ hzl)
  have hoL : (h'.push (seqObj "list" acc.toList.toArray 0)).get? h'.objs.size = some (seqObj "list" acc.toList.toArray 0) := Heap.get?_push_size _ rfl
  -- each item is a pair of ints
  have pairs : ∀ v ∈ acc.toList, ∃ i j : Int, Srt.IsPair (h'.push (seqObj "list" acc.toList.toArray 0)) v i j := fun v hv => by
    rw [ea] at hv
    obtain ⟨b, hb, rfl⟩ := List.mem_map.mp hv
    obtain ⟨n, hn⟩ := List.mem_iff_getElem?.mp hb
    have hnl : n < kvs.length := by
      have h1 := (List.getElem?_eq_some_iff.mp hn).1
      have h2 := Paired.length keys
      omega
    obtain ⟨b2, g1, g2⟩ := L2.paired_get keys (List.getElem?_eq_getElem hnl)
    rw [hn] at g1
    cases g1
    obtain ⟨i, j, eij⟩ := hk _ (List.getElem_mem hnl)
    rw [eij] at g2
    obtain ⟨_, its2, r2, ob, hob, hcl, n2, hdd⟩ := I1.hok _ _ g2
    obtain ⟨u1, u2, rfl, ri, rj⟩ := vals2 r2
    obtain ⟨t1, rfl⟩ := ri
    obtain ⟨t2, rfl⟩ := rj
    exact ⟨i, j, b, ob, t1, t2, n2, rfl, Heap.get?_push_of_some _ hob, hcl, hdd⟩
  have hch : ∃ kf : Value → Int × Int, ∀ v ∈ acc.toList, Srt.IsPair (h'.push (seqObj "list" acc.toList.toArray 0)) v (kf v).1 (kf v).2 :=
    ⟨fun v => if hv : v ∈ acc.toList then ((pairs v hv).choose, (pairs v hv).choose_spec.choose) else (0, 0), fun v hv => by
      dsimp only
      rw [dif_pos hv]
      exact (pairs v hv).choose_spec.choose_spec⟩
  obtain ⟨kf, hkf⟩ := hch
  show wpAny _ _ _ _ _ { s with heap := h'.push (seqObj "list" acc.toList.toArray 0), toks := tk }
  refine wpAny_bind (wpAny_holding (wpAny_call_entry slot_list_sort ⟨_, hoL, rfl⟩ entry_list_sort
    (SrtO.list_sort_ord (s := { s with heap := h'.push (seqObj "list" acc.toList.toArray 0), toks := tk }) (SrtO.swo_lex kf) hoL hzl (fun h2 => SrtO.pairs_sortableO (by omega) hkf fun o2 e2 => ?_) fun out h1 h2 => ⟨_, rfl, ?_⟩) (args_list_sort _)))
  · have e' : some o2 = some (seqObj "list" acc.toList.toArray 0) := e2.symm.trans hoL
    cases e'
    intro c
    exact absurd (Value.type.inj c) (by decide)
  · obtain ⟨ep', he'⟩ := sortedHeap_at (vs := acc.toList) (out := out.toArray) hoL
    have hperm := h2.perm
    have hr : ∀ u ∈ out, ∃ a, u = Value.ref a := fun u hu => by
      have q1 := hperm.mem_iff.mp hu
      rw [ea] at q1
      obtain ⟨b, _, e⟩ := List.mem_map.mp q1
      exact ⟨b, e.symm⟩
    let rf : Value → Addr := fun u => match u with | .ref a => a | _ => 0
    have eo : out = (out.map rf).map Value.ref := by
      rw [List.map_map]
      conv => lhs; rw [← List.map_id out]
      refine List.map_congr_left fun u hu => ?_
      obtain ⟨a, rfl⟩ := hr u hu
      rfl
    have eb : (ks.map fun x => x.2.1) = acc.toList.map rf := by
      rw [ea, List.map_map]
      conv => lhs; rw [← List.map_id (ks.map fun x => x.2.1)]
      exact List.map_congr_left fun u hu => rfl
    have hp2 : (out.map rf).Perm (ks.map fun x => x.2.1) := by
      rw [eb]
      exact hperm.map rf
    have hll : ((out.map rf).map V.ref).length ≤ sizeLine := by
      rw [List.length_map, hp2.length_eq, List.length_map]
      omega
    refine wpAny_pure ⟨_, rfl, .ref h'.objs.size, upd H h'.objs.size (.lst ((out.map rf).map V.ref)), I1.laid (t' := tk) (fun b u e => ?_) (Nat.le_refl _)
      (show ObjOk X.prog X.w _ _ _ (.lst ((out.map rf).map V.ref)) from ⟨hll, out, ep', by have q1 := L2.vals_refs (out.map rf); rw [← eo] at q1; exact q1, he'⟩), rfl, q _ _ _ keys hp2 (I1.hok.fresh (Nat.le_refl _))⟩
    have hb : b < h'.objs.size := Heap.lt_size e
    rw [sortedHeap_old (Nat.ne_of_lt hb) (by rw [size_push']; exact Nat.lt_succ_of_lt hb)]
    exact Heap.get?_push_of_some _ e
/-- sorted(d), the keys ints, any number of them -/
theorem call_sortK (hc : X.calm = true) : CallR X (.builtin "sorted") (fun vs H Q => ∃ (d : Addr) (kvs : List (L2.Key × V)) (ks : List Int), vs = [.ref d] ∧ Rd H d (.dK kvs) ∧ kvs.map (·.1) = ks.map Sum.inl ∧
    ∀ (ys : List Int) (p : Addr), ys.Perm ks → H p = none → Q (.ref p) (upd H p (.lst (ys.map V.int)))) := by
  intro pins s σ H vs us Q I r h
  obtain ⟨d, kvs, ks, rfl, hd, hks, q⟩ := h
  obtain ⟨u, rfl, ru⟩ := vals1 r
  cases ru
  obtain ⟨z, lo, vs, rel, dd⟩ := dk_rd I.hok hd
  obtain ⟨ep, hat⟩ := dd.dictAt
  have hkeys : vs.map (·.1) = ks.map Sum.inl := rel.keys.symm.trans hks
  have hl : vs.length = ks.length := by
    have e := congrArg List.length hkeys
    rw [List.length_map, List.length_map] at e
    exact e
  have hzv : vs.length ≤ sizeLine := by rw [← rel.length]; exact z
  refine Calls.call_function_entry kind_sorted plain_sorted entry_sorted (args_sorted1 _) ?_
  unfold Builtin.«sorted»
  refine wpAny_bind (m := checkCount "sorted" 1 1 _) (wpAny_pure ?_)
  refine wpAny_bind (PySem.W.kdu_collect (A := X.A.in1) (PySem.W.kdl_dict (knd := mixKind X.prog X.w) (kvs := vs) (ep := ep) lo) (I.ok.hd hc) hat hzv fun h' tk acc hkp hacc => ?_)
  have hal : acc.toList.length = ks.length := by rw [Array.length_toList, hacc.1, hl]
  have hS : IntsAre acc.toList ks := ints_each hal fun j v e => by
    obtain ⟨k, x, e1, e2⟩ := hacc.2 j v (by rw [← Array.getElem?_toList]; exact e)
    have e3 : (vs.map (·.1))[j]? = some k := by rw [List.getElem?_map, e1]; rfl
    rw [hkeys, List.getElem?_map] at e3
    cases e4 : ks[j]? with
    | none => rw [e4] at e3; cases e3
    | some y =>
      rw [e4] at e3
      have e5 : Sum.inl y = k := Option.some.inj e3
      subst e5
      obtain ⟨t, ht⟩ := keyIs_rel (k := Sum.inl y) (show keyIs (Sum.inl y) v = true from e2)
      exact ⟨y, t, rfl, ht⟩
  have I1 : Inv X pins σ H { s with heap := h', toks := tk } := I.kept hkp
  have hzl : acc.toList.length ≤ sizeLine := by omega
  refine wpAny_bind (wpAny_newList ?_ hzl)
  have hoL : (h'.push (seqObj "list" acc.toList.toArray 0)).get? h'.objs.size = some (seqObj "list" acc.toList.toArray 0) := Heap.get?_push_size _ rfl
  show wpAny _ _ _ _ _ { s with heap := h'.push (seqObj "list" acc.toList.toArray 0), toks := tk }
  refine wpAny_bind (wpAny_holding (wpAny_call_entry slot_list_sort ⟨_, hoL, rfl⟩ entry_list_sort
    (SrtO.list_sort_ord (s := { s with heap := h'.push (seqObj "list" acc.toList.toArray 0), toks := tk }) SrtO.swo_int hoL hzl (fun h2 => SrtO.ints_sortable hS h2) fun out h1 h2 => ⟨_, rfl, ?_⟩) (args_list_sort _)))
  obtain ⟨k1, k2, _⟩ := SrtO.ints_out hS h1 h2
  obtain ⟨ep', he'⟩ := sortedHeap_at (vs := acc.toList) (out := out.toArray) hoL
  have hlen : ((out.map SrtO.iv).map V.int).length ≤ sizeLine := by
    rw [List.length_map, k2.length_eq]
    omega
  refine wpAny_pure ⟨_, rfl, .ref h'.objs.size, upd H h'.objs.size (.lst ((out.map SrtO.iv).map V.int)), I1.laid (t' := tk) (fun b u e => ?_) (Nat.le_refl _)
    (show ObjOk X.prog X.w _ _ _ (.lst ((out.map SrtO.iv).map V.int)) from ⟨hlen, out, ep', vals_of_ints k1, he'⟩), rfl, q _ _ k2 (I1.hok.fresh (Nat.le_refl _))⟩
  have hb : b < h'.objs.size := Heap.lt_size e
  rw [sortedHeap_old (Nat.ne_of_lt hb) (by rw [size_push']; exact Nat.lt_succ_of_lt hb)]
  exact Heap.get?_push_of_some _ e
/-! ### d.setdefault(k, x), the keys tuples -/
def rSetdT : V → List V → Hp → VK → Prop := fun x xs H Q => ∃ (a : Addr) (kvs : List (List L2.Key × V)) (k : List L2.Key) (b : Addr) (d : V), x = .ref a ∧ xs = [.ref b, d] ∧ H a = some (.dT kvs) ∧ H b = some (.tup (k.map kV)) ∧ kvs.length < sizeLine ∧
  (∀ v, valV kvs k = some v → Q v H) ∧ (valV kvs k = none → Q d (upd H a (.dT (putK kvs k d))))
theorem mt_setdT (hu : X.A.units + 1 < cLine) : MtR X "dict.setdefault" rSetdT := by
  intro pins s σ H x xs v us Q I rx rxs h
  obtain ⟨a, kvs, k, b, d, rfl, rfl, ha, hb, hz, q1, q2⟩ := h
  cases rx
  obtain ⟨u1, u2, rfl, r1, r2⟩ := vals2 rxs
  cases r1
  obtain ⟨z, hd, xs, rel, dd⟩ := dt_of I.hok ha
  have hx : xs.length ≤ sizeLine := by rw [← Paired.length rel]; exact z
  have rk := rel.val k
  refine call_setdefault_heap (tupleKind_room_in1 hu) (key_of I.hok hb) hd dd (fun p hp => ?_) (fun hn h' dd' hs => ?_) hx
  · rw [hp] at rk
    cases ev : valV kvs k with
    | none => rw [ev] at rk; exact (show False from rk).elim
    | some v0 =>
      rw [ev] at rk
      exact ⟨v0, H, I.tok _, rk, q1 v0 ev⟩
  · rw [hn] at rk
    cases ev : valV kvs k with
    | some v0 => rw [ev] at rk; exact (show False from rk).elim
    | none =>
      have hl : (putK kvs k d).length ≤ sizeLine := by have := length_putK kvs k d; omega
      obtain ⟨o, es, ep, hq, h2, h3, h4, _, h5⟩ := dd'
      refine ⟨d, upd H a (.dT (putK kvs k d)), d_write I (by rw [ha]; exact True.intro) hs ⟨o, hq⟩ ⟨hl, hd, _, (rel.put k hb r2).keeps fun c ys ec => ?_, o, es, ep, hq, h2, h3, h4, h5⟩, r2, q2 ev⟩
      rw [upd_ne (ne_of ec ha (fun z => nomatch z))]
      exact ec
/-! ### {k: v}, k a tuple -/
def tDispT (tk tv : TE) : TE := fun σ H Q => ∀ p, H p = none → tk σ (upd H p (.dT [])) fun x H1 => tv σ H1 fun y H2 => H2 p = some (.dT []) ∧ ∃ (k : List L2.Key) (b : Addr), x = .ref b ∧ H2 b = some (.tup (k.map kV)) ∧ Q (.ref p) (upd H2 p (.dT [(k, y)]))
theorem pe_dispT {k v : Expr} {tk tv : TE} {pos : Pos} (hu : X.A.units + 1 < cLine) (hk : PE X k tk) (hv : PE X v tv) : PE X (.Dict [some k] [v] pos) (tDispT tk tv) := by
  refine ⟨fun pins s σ H Q I q => ?_⟩
  have hn := I.hok.fresh (Nat.le_refl s.heap.objs.size)
  have I1 := I.laid (a := s.heap.objs.size) (o := .dT []) (h' := s.heap.push { cls := .type "dict", data := .dict #[] }) (t' := s.toks) (fun _ _ e => Heap.get?_push_of_some _ e) (Nat.le_refl _) (dt_empty s.heap I.big)
  have hz := zip_pairTrees [some k] [v] X.env pos rfl rfl
  rw [arm_eval_Dict, hz, dictDisplay_pairs _ (by intro z; cases z) (by show 1 < 17; decide)]
  refine wpAny_bind (wpAny_standAt (wpAny_bind (wpAny_subDictH (knd := tupleKind (mixKind X.prog X.w)) (Q := fun d s' => wpAny (model X.prog X.w) X.A (pure (Value.ref d)) (EP X pins σ Q) X.xe s') (by show X.A.units < cLine; omega) (by show 1 ≤ 15; decide) ?_)))
  refine pairTrees_cons_walk (thn (hk.run pins _ σ _ _ I1 (q _ hn)) fun u1 s1 ⟨x, H1, J1, rx, q1⟩ => thn (hv.run pins s1 σ H1 _ J1 q1) fun u2 s2 ⟨y, H2, J2, ry, e2, kk, b, ex, hb, q2⟩ => pairTrees_nil_walk ?_)
  subst ex
  obtain rfl : u1 = Value.ref b := rx
  obtain ⟨_, hd, xs, rel, dd⟩ := dt_of J2.hok e2
  cases rel
  refine ⟨[(kk, b, u2)], ⟨rfl, rfl, key_of J2.hok hb, trivial⟩, dd, fun h' tk dd' hs => wpAny_pure ⟨.ref s.heap.objs.size, upd H2 s.heap.objs.size (.dT [(kk, y)]), ?_, rfl, q2⟩⟩
  obtain ⟨o, es, ep, hq, h2, h3, h4, _, h5⟩ := dd'
  refine d_write J2 (by rw [e2]; exact True.intro) hs ⟨o, hq⟩ ⟨by show 1 ≤ sizeLine; decide, hd, _, .cons ⟨rfl, ?_, ry⟩ .nil, o, es, ep, hq, h2, h3, h4, h5⟩
  rw [upd_ne (ne_of hb e2 (fun z => nomatch z))]
  exact hb
end
end Nl
namespace Nl
open PySem PySem.Spec PyProof.Rows L2
/-! ### {k: v for target in iter}, the keys tuples -/
section
variable {X : Cx}
def tDcT (wi : TI) (g : TG) (tk : TE) (tv : L2.St → TE) (vs : List Nat) : TE := fun σ H Q => wi σ H fun J H1 => ∀ D, H1 D = none → ∃ W : Nat → Nat → Hp → Prop, (∃ m, W 0 m (upd H1 D (.dT []))) ∧ ∀ i m H, W i m H →
  (J.stop i H ∧ Q (.ref D) H) ∨ (J.go i H ∧ ∃ Nx : Hp → Prop, (∀ H', Nx H' → ∃ m', m' < m ∧ W (i + 1) m' H') ∧ ∀ x H', J.yld i H x H' → g x (wipe σ vs) H' fun σ2 H2 => wipe σ2 vs = wipe σ vs ∧
    tk σ2 H2 fun y H4 => tv σ σ2 H4 fun z H5 => ∃ (kvs : List (List L2.Key × V)) (k : List L2.Key) (b : Addr), y = .ref b ∧ H5 b = some (.tup (k.map kV)) ∧ H5 D = some (.dT kvs) ∧ kvs.length < sizeLine ∧ Nx (upd H5 D (.dT (putK kvs k z))))
theorem d_setT {pins : List (Addr × Obj)} {σ : L2.St} {H : Hp} {s : Shared} {E : Value → Shared → Prop} {D b : Addr} {kvs : List (List L2.Key × V)} {k : List L2.Key} {v : V} {u r : Value} {Q : Unit → Shared → Prop} (hu : X.A.units < cLine) (I : Inv X pins σ H s) (hD : H D = some (.dT kvs)) (hz : kvs.length < sizeLine)
    (hb : H b = some (.tup (k.map kV))) (ru : RelV (.ref b) u) (rv : RelV v r) (h : ∀ s', Inv X pins σ (upd H D (.dT (putK kvs k v))) s' → Q () s') : wpAny (model X.prog X.w) X.A (dictSet D u r) Q E s := by
  cases ru
  obtain ⟨z, hd, xs, rel, dd⟩ := dt_of I.hok hD
  have hx : xs.length ≤ sizeLine := by rw [← Paired.length rel]; exact z
  have hl : (putK kvs k v).length ≤ sizeLine := by have := length_putK kvs k v; omega
  refine wpAny_dictSet_heap (hsz := hx) hu (key_of I.hok hb) dd fun h' dd' hs => h _ ?_
  obtain ⟨o, es, ep, hq, h2, h3, h4, _, h5⟩ := dd'
  refine d_write I (by rw [hD]; exact True.intro) hs ⟨o, hq⟩ ⟨hl, hd, _, (rel.put k hb rv).keeps fun c ys ec => ?_, o, es, ep, hq, h2, h3, h4, h5⟩
  rw [upd_ne (ne_of ec hD (fun z => nomatch z))]
  exact ec
theorem dcT_core {pins : List (Addr × Obj)} {s : Shared} {σ : L2.St} {H : Hp} {Q : VK} {kx vx tg iter : Expr} {scope : Scope} {own : List (Str × Nat)} {pos pos' : Pos} {wi : TI} {g : TG} {tk : TE} {tv : L2.St → TE} {use : Option (Value → Sem Unit)} {Qf : Value → Shared → Prop}
    (hu : X.A.units < cLine) (hc : X.calm = true) (hN : X.N.Nodup) (I : Inv X pins σ H s) (hi : PI X tg iter wi) (ok : BlkOk X.N X.env.scope scope own)
    (hg : ∀ (s : Shared) (H : Hp) (C : Addr) (cl : List (Str × Addr)) (fp : List Addr), PG (X.blk s H scope (compEnvC scope cl C X.env) fp) tg g)
    (hk : ∀ (s : Shared) (H : Hp) (C : Addr) (cl : List (Str × Addr)) (fp : List Addr), PE (X.blk s H scope (compEnvC scope cl C X.env) fp) kx tk)
    (hv : ∀ (pins : List (Addr × Obj)) (σ : L2.St) (s : Shared) (H : Hp) (C : Addr) (fp : List Addr), Inv X pins σ H s → (∀ b ∈ fp, FpOk X pins H b) →
      PE (X.blk s H scope (compEnvC scope (cellsFrom (s.heap.objs.size + 1) scope.names (cloFrom X.env.cells scope.names [])) C X.env) fp) vx (tv σ))
    (hs : ∀ x, foldedSetIterable iter X.env x = pure x) (h : tDcT wi g tk tv (own.map (·.2)) σ H Q)
    (hRR : ∀ D C s' m H', Inv X pins σ H' s' → Q (.ref D) H' → s'.heap.Ns C m → FpOk X pins H' C → compPost (model X.prog X.w) X.A X.xe use Qf (.ref D) C (.ok .next) s') :
    wpAny (model X.prog X.w) X.A (comprehension (.DictComp kx vx [⟨tg, iter, [], 0⟩] scope pos) scope X.env pos' newDict false (eval iter X.env) use) Qf X.xe s := by
  have hfree : ∀ y ∈ scope.names, y.2 = .free → ∃ c, X.env.cells.lookup y.1 = some c := fun y hy e => (ok.free y hy e).elim (fun k => I.ok.has _ (.inl k)) fun k => I.ok.has _ (.inr k)
  refine wpAny_comprehension_free (use := use) rfl hs (closure_ok hfree) ok.kind (fun y hy e => by rw [ok.uniq y hy, e])
    (thn (hi.run pins s σ H _ I h) fun xv s1 hx => thn hx fun itv s2 h2 => ?_)
  obtain ⟨it, fp, tn, J, H2, e, I2, T, st2, f2, q⟩ := h2
  subst e
  refine wpAny_newObj_type (newEnv_comp ?_)
  generalize hD : s2.heap.objs.size = D
  have hDn : H2 D = none := I2.hok.fresh (Nat.le_of_eq hD)
  obtain ⟨W, ⟨m0, w0⟩, turn⟩ := q D hDn
  generalize hs3 : ({ s2 with heap := s2.heap.push { cls := .type "dict", data := .dict #[] } } : Shared) = s3
  have h3 : s3.heap = s2.heap.push { cls := .type "dict", data := .dict #[] } := by rw [← hs3]
  have I3 : Inv X pins σ (upd H2 D (.dT [])) s3 := by
    rw [← hs3]
    refine I2.laid (t' := s2.toks) (fun b o e => Heap.get?_push_of_some _ e) (Nat.le_of_eq hD) ?_
    rw [← hD]
    exact dt_empty s2.heap I2.big
  have f3 : ∀ b ∈ fp, FpOk X pins (upd H2 D (.dT [])) b ∧ b < s3.heap.objs.size := fun b hb => by
    obtain ⟨o, e, _⟩ := T.obj _ _ st2 b hb
    have hlt : b < s2.heap.objs.size := Heap.lt_size e
    refine ⟨⟨?_, (f2 b hb).2⟩, by rw [h3, Heap.size_push]; exact Nat.lt_succ_of_lt hlt⟩
    rw [upd_ne (by rw [← hD]; exact Nat.ne_of_lt hlt)]
    exact (f2 b hb).1
  have st3 : tn 0 s3.heap := T.keep _ _ _ st2 fun b _ o e => by rw [h3]; exact Heap.get?_push_of_some _ e
  have I4 := block_start I3 ok hN f3
  have pg := hg s3 (upd H2 D (.dT [])) s3.heap.objs.size (cellsFrom (s3.heap.objs.size + 1) scope.names (cloFrom X.env.cells scope.names [])) fp
  have pk := hk s3 (upd H2 D (.dT [])) s3.heap.objs.size (cellsFrom (s3.heap.objs.size + 1) scope.names (cloFrom X.env.cells scope.names [])) fp
  have pe := hv pins σ s3 (upd H2 D (.dT [])) s3.heap.objs.size fp I3 fun b hb => (f3 b hb).1
  have pt : PTs (X.blk s3 (upd H2 D (.dT [])) scope (compEnvC scope (cellsFrom (s3.heap.objs.size + 1) scope.names (cloFrom X.env.cells scope.names [])) s3.heap.objs.size X.env) fp) [] tYes := pts_nil
  show codeAny _ _ (.compStart (.DictComp kx vx [⟨tg, iter, [], 0⟩] scope pos) 0 (.ref it) (.ref D) (compEnvC scope (cellsFrom (s3.heap.objs.size + 1) scope.names (cloFrom X.env.cells scope.names [])) s3.heap.objs.size X.env)) (compPost (model X.prog X.w) X.A X.xe use Qf (.ref D) s3.heap.objs.size) { s3 with heap := pushCells (s3.heap.push { cls := .type "dict", data := .dict #[] }) scope.names }
  have nfp : ∀ b ∈ fp, (upd H2 D (.dT [])) b = none := fun b hb => (f3 b hb).1.1
  generalize hce : compEnvC scope (cellsFrom (s3.heap.objs.size + 1) scope.names (cloFrom X.env.cells scope.names [])) s3.heap.objs.size X.env = ce at I4 pg pt pk pe ⊢
  have cL : ce.locals = s3.heap.objs.size := by subst hce; rfl
  generalize hH3 : upd H2 D (.dT []) = H3 at I3 I4 pg pt pk pe w0 nfp f3
  generalize hs4 : ({ s3 with heap := pushCells (s3.heap.push { cls := .type "dict", data := .dict #[] }) scope.names } : Shared) = s4 at I4 ⊢
  have st4 : tn 0 s4.heap := T.keep _ _ _ st3 fun b _ o e => by rw [← hs4]; exact pushCells_keeps _ _ _ _ (Heap.get?_push_of_some _ e)
  have stat : ∀ {σ' : L2.St} {H' : Hp} {s' : Shared}, Inv (X.blk s3 H3 scope ce fp) [] σ' H' s' → (∀ b ∈ fp, H' b = none) → ∀ b ∈ fp, FpOk (X.blk s3 H3 scope ce fp) [] H' b := fun {σ' H' s'} I' hn b hb =>
    ⟨hn b hb, (I'.ok.exf b hb).1, I'.ok.exfs b hb, .inl hb, fun x c e => (I'.ok.exf b hb).2 x c e, fun p hp => absurd (show p ∈ ([] : List (Addr × Obj)) ++ [] from hp) (by simp)⟩
  have loop : codeAny (model X.prog X.w) X.A (.compLoop (.DictComp kx vx [⟨tg, iter, [], 0⟩] scope pos) 0 (.ref it) (.ref D) ce) (compPost (model X.prog X.w) X.A X.xe use Qf (.ref D) s3.heap.objs.size) s4 := by
    refine compLoop_anyD (fun n s' => ∃ i H', Inv (X.blk s3 H3 scope ce fp) [] (wipe σ (own.map (·.2))) H' s' ∧ tn i s'.heap ∧ (∀ b ∈ fp, H' b = none) ∧ W i n H') ?_ m0 ⟨0, H3, I4, st4, nfp, w0⟩
    rintro n s5 ⟨i, H5, I5, st5, n5, w5⟩
    rcases turn i n H5 w5 with ⟨stop, qq⟩ | ⟨go, Nx, hNx, step⟩
    · refine thnF (T.done (X.blk s3 H3 scope ce fp) rfl rfl rfl hc i [] s5 _ H5 (fun _ _ => False) I5 (stat I5 n5) st5 stop) fun r s6 ⟨hr, I6⟩ => ?_
      subst hr
      have I7 : Inv X pins σ H5 s6 := I3.call' (ch := fp) I6.os I6.base I6.hok I6.bare fun b hb => ⟨(f3 b hb).1.2.2.2.1, (f3 b hb).1.2.1, (f3 b hb).1.2.2.2.2.1, (f3 b hb).1.2.2.2.2.2⟩
      have nC : H5 s3.heap.objs.size = none := by rw [← cL]; exact I6.free
      obtain ⟨m, hn, _⟩ := I6.loc
      have hn : s6.heap.Ns ce.locals m := hn
      rw [cL] at hn
      exact hRR D s3.heap.objs.size s6 m H5 I7 qq hn (I3.fpOk (Nat.le_refl _) nC)
    · refine thnF (T.item (X.blk s3 H3 scope ce fp) rfl rfl rfl hc i [] s5 _ H5 (fun _ _ => False) I5 (stat I5 n5) st5 go) fun r s6 ⟨u, hr, h6⟩ => ?_
      subst hr
      refine thnF h6 fun _ s7 ⟨x, H7, I7, r7, y7, st7, n7⟩ => ?_
      have I7' := I7.pinned (stat I7 n7) (T.obj _ _ st7)
      refine thnF (pg.run _ s7 _ H7 x u _ I7' r7 (step x H7 y7)) fun _ s8 ⟨σ8, H8, I8, hw8, q8⟩ => ?_
      refine thnF (pt.run _ s8 σ8 H8 (fun b H9 => b = true ∧ H9 = H8) I8 ⟨rfl, rfl⟩) fun b s9 ⟨H9, I9, e9, e9'⟩ => ?_
      subst e9 e9'
      have fin : ∀ {s' : Shared} {H' : Hp}, Inv (X.blk s3 H3 scope ce fp) ([] ++ pinsAt fp s7.heap) σ8 H' s' → Nx H' → ∃ m, m < n ∧ ∃ i H', Inv (X.blk s3 H3 scope ce fp) [] (wipe σ (own.map (·.2))) H' s' ∧ tn i s'.heap ∧ (∀ b ∈ fp, H' b = none) ∧ W i m H' := fun {s' H'} I' nx => by
        obtain ⟨m', hm, w'⟩ := hNx H' nx
        have pin' : ∀ b ∈ fp, ∀ o, s7.heap.get? b = some o → s'.heap.get? b = some o ∧ H' b = none := fun b hb o e =>
          let z := I'.pin (b, o) (List.mem_append_right _ (List.mem_append_right _ (mem_pinsAt hb e)))
          ⟨z.1, z.2.1⟩
        have hl : (wipe σ (own.map (·.2))).length = σ8.length := by rw [← hw8, wipe_length]
        refine ⟨m', hm, i + 1, H', (I'.unpinned (pins := [])).weak hl (fun j v e => ?_), T.keep _ _ _ st7 fun b hb o e => (pin' b hb o e).1, fun b hb => ?_, w'⟩
        · rw [← hw8] at e
          exact (wipe_some e).1
        · obtain ⟨o, e, _⟩ := T.obj _ _ st7 b hb
          exact (pin' b hb o e).2
      simp only [if_true]
      refine thnF (pk.run _ s9 σ8 H9 _ I9 q8) fun z s10 ⟨yk, H10, I10, r10, q10⟩ => ?_
      refine thnF (pe.run _ s10 σ8 H10 _ I10 q10) fun z2 s11 ⟨yv, H11, I11, r11, kvs, k, b, ek, hb11, hD11, hz11, nx⟩ => ?_
      subst ek
      exact d_setT (X := X.blk s3 H3 scope ce fp) hu I11 hD11 hz11 hb11 r10 r11 fun s12 I12 => fin I12 nx
  exact codeAny_compStart_dict loop (T.self X.A 0 _ _ _ st4 loop)
theorem pe_dcT {kx vx tg iter : Expr} {scope : Scope} {own : List (Str × Nat)} {pos : Pos} {wi : TI} {g : TG} {tk : TE} {tv : L2.St → TE} (hu : X.A.units < cLine) (hc : X.calm = true) (hN : X.N.Nodup) (hi : PI X tg iter wi) (ok : BlkOk X.N X.env.scope scope own)
    (hg : ∀ (s : Shared) (H : Hp) (C : Addr) (cl : List (Str × Addr)) (fp : List Addr), PG (X.blk s H scope (compEnvC scope cl C X.env) fp) tg g)
    (hk : ∀ (s : Shared) (H : Hp) (C : Addr) (cl : List (Str × Addr)) (fp : List Addr), PE (X.blk s H scope (compEnvC scope cl C X.env) fp) kx tk)
    (hv : ∀ (pins : List (Addr × Obj)) (σ : L2.St) (s : Shared) (H : Hp) (C : Addr) (fp : List Addr), Inv X pins σ H s → (∀ b ∈ fp, FpOk X pins H b) →
      PE (X.blk s H scope (compEnvC scope (cellsFrom (s.heap.objs.size + 1) scope.names (cloFrom X.env.cells scope.names [])) C X.env) fp) vx (tv σ))
    (hs : ∀ x, foldedSetIterable iter X.env x = pure x := by intro _; rfl) : PE X (.DictComp kx vx [⟨tg, iter, [], 0⟩] scope pos) (tDcT wi g tk tv (own.map (·.2))) := by
  refine ⟨fun pins s σ H Q I h => ?_⟩
  rw [arm_eval_DictComp]
  refine dcT_core hu hc hN I hi ok hg hk hv hs h fun D C s' m H' I' q hn f => ⟨m, hn, fun h'' sb => ?_⟩
  obtain ⟨f0, f1, f2, f3, f4, f5⟩ := f
  exact ⟨.ref D, H', I'.turned (t' := s'.toks) (fun b o hb e => (sb.2 b hb).trans e) f0 f1 f3 f4 f5, rfl, q⟩
/-- name = {..} on one line, the name a local -/
theorem ps_setDcT {i : Nat} {y : Str} {py : Pos} {kx vx tg iter : Expr} {scope : Scope} {own : List (Str × Nat)} {pos spos : Pos} {wi : TI} {g : TG} {tk : TE} {tv : L2.St → TE} (hu : X.A.units < cLine) (hc : X.calm = true) (hN : X.N.Nodup) (hy : X.N[i]? = some y) (hyl : X.env.scope.names.lookup y = some .local)
    (hsw : swapsWith (.DictComp kx vx [⟨tg, iter, [], 0⟩] scope pos) (some (.Name y py)) spos.line X.env = pure true) (hi : PI X tg iter wi) (ok : BlkOk X.N X.env.scope scope own)
    (hg : ∀ (s : Shared) (H : Hp) (C : Addr) (cl : List (Str × Addr)) (fp : List Addr), PG (X.blk s H scope (compEnvC scope cl C X.env) fp) tg g)
    (hk : ∀ (s : Shared) (H : Hp) (C : Addr) (cl : List (Str × Addr)) (fp : List Addr), PE (X.blk s H scope (compEnvC scope cl C X.env) fp) kx tk)
    (hv : ∀ (pins : List (Addr × Obj)) (σ : L2.St) (s : Shared) (H : Hp) (C : Addr) (fp : List Addr), Inv X pins σ H s → (∀ b ∈ fp, FpOk X pins H b) →
      PE (X.blk s H scope (compEnvC scope (cellsFrom (s.heap.objs.size + 1) scope.names (cloFrom X.env.cells scope.names [])) C X.env) fp) vx (tv σ))
    (hs : ∀ x, foldedSetIterable iter X.env x = pure x := by intro _; rfl) : PS X (.Assign [.Name y py] (.DictComp kx vx [⟨tg, iter, [], 0⟩] scope pos) spos) (tAsg (tDcT wi g tk tv (own.map (·.2))) (gName i)) := by
  refine ⟨fun pins s σ H D I h => ?_⟩
  rw [exec_Assign_Name_used _ _ _ _ hsw]
  refine wpAny_bind (wpAny_standAt (wpAny_bind ?_))
  show wpAny _ X.A (do let _ ← comprehension (.DictComp kx vx [⟨tg, iter, [], 0⟩] scope pos) scope X.env (firstIterPos [⟨tg, iter, [], 0⟩] pos) newDict false (eval iter X.env) (some (assign (.Name y py) X.env))) _ _ s
  have h : tDcT wi g tk tv (own.map (·.2)) σ H (fun x H1 => gName i x σ H1 D.nx) := h
  refine wpAny_bind (thn (dcT_core (Qf := fun _ s' => SP X pins D .next s') hu hc hN I hi ok hg hk hv hs h fun L C s' m H' I' q hn f => ?_) fun _ s' hq => wpAny_pure (wpAny_pure hq))
  show wpAny _ _ (assign (.Name y py) X.env (.ref L)) _ _ _
  refine wpAny_assign_Name (store_ok2 (v := V.ref L) I' hN hy (.inl hyl) rfl (fun s2 I2 ⟨a, sb, ha⟩ => ?_) (.inr hyl))
  obtain ⟨f0, f1, f2, f3, f4, f5⟩ := f
  have haC : C ≠ a := by
    rcases ha with z | z
    · rw [z]; exact f1
    · exact fun e => f4 y a z e.symm
  refine ⟨m, hn.sameBut sb haC, fun h3 sb3 => ?_⟩
  exact ⟨_, H', I2.turned (t' := s2.toks) (fun b o hb e => (sb3.2 b hb).trans e) f0 f1 f3 f4 f5, q⟩
theorem sw_trueD {kx vx : Expr} {gs : List Comprehension} {scope : Scope} {pos py : Pos} {y : Str} {l : Nat} {env : Env} (hk : env.scope.kind = .function) (hy : env.scope.names.lookup y = some .local) (hl : (py.line == pos.line) = true)
    (ha : (scope.names.any fun (n, k) => n == y && (k == .local || k == .cell)) = false) : swapsWith (.DictComp kx vx gs scope pos) (some (.Name y py)) l env = pure true := by
  have ky : env.kindOf y = some .local := hy
  have hb : env.blockKind = .function := by unfold Env.blockKind; rw [hk]; rfl
  unfold swapsWith
  simp only [hb, ky, ha, Expr.pos, hl]
  rfl
/-- over any walk: Pv by the turn and the heap (the new dict at D within) -/
theorem dc_it {J : It} {n : Nat} {G : Hp → Prop} {Y : Nat → Hp → V → Hp → Prop} (w : Walk J n G Y) {g : TG} {tk tv : TE} {vs : List Nat} {σ : L2.St} {H1 : Hp} {D : Addr} {Qd : Hp → Prop} (Pv : Nat → Hp → Prop) (h0 : Pv 0 (upd H1 D (.dT []))) (hG : ∀ i H, i ≤ n → Pv i H → G H)
    (hs : ∀ i x H H', i < n → Pv i H → Y i H x H' → g x (wipe σ vs) H' fun σ2 H2 => wipe σ2 vs = wipe σ vs ∧
      tk σ2 H2 fun y H4 => tv σ2 H4 fun z H5 => ∃ (kvs : List (List L2.Key × V)) (k : List L2.Key) (b : Addr), y = .ref b ∧ H5 b = some (.tup (k.map kV)) ∧ H5 D = some (.dT kvs) ∧ kvs.length < sizeLine ∧ Pv (i + 1) (upd H5 D (.dT (putK kvs k z)))) (hd : ∀ H, Pv n H → Qd H) :
    ∃ W : Nat → Nat → Hp → Prop, (∃ m, W 0 m (upd H1 D (.dT []))) ∧ ∀ i m H, W i m H →
      (J.stop i H ∧ Qd H) ∨ (J.go i H ∧ ∃ Nx : Hp → Prop, (∀ H', Nx H' → ∃ m', m' < m ∧ W (i + 1) m' H') ∧ ∀ x H', J.yld i H x H' → g x (wipe σ vs) H' fun σ2 H2 => wipe σ2 vs = wipe σ vs ∧
        tk σ2 H2 fun y H4 => tv σ2 H4 fun z H5 => ∃ (kvs : List (List L2.Key × V)) (k : List L2.Key) (b : Addr), y = .ref b ∧ H5 b = some (.tup (k.map kV)) ∧ H5 D = some (.dT kvs) ∧ kvs.length < sizeLine ∧ Nx (upd H5 D (.dT (putK kvs k z)))) := by
  refine ⟨fun i m H => m = n - i ∧ i ≤ n ∧ Pv i H, ⟨n, by simp, Nat.zero_le _, h0⟩, ?_⟩
  rintro i m H ⟨rfl, hi, p⟩
  have q := hG i H hi p
  by_cases hlt : i < n
  · exact .inr ⟨w.goes i H hlt q, Pv (i + 1), fun H' p' => ⟨n - (i + 1), by omega, rfl, hlt, p'⟩, fun x H' y => hs i x H H' hlt p (w.yields i H x H' hlt q y)⟩
  · have e : i = n := by omega
    subst e
    exact .inl ⟨w.stops H q, hd H p⟩
end
/-! ### several new objects at once -/
def layL : List (Addr × HO) → Hp → Hp
  | [], H => H
  | p :: r, H => layL r (upd H p.1 p.2)
theorem layL_off {b : Addr} : ∀ (l : List (Addr × HO)) (H : Hp), b ∉ l.map (·.1) → layL l H b = H b
  | [], _, _ => rfl
  | p :: r, H, h => by
    rw [List.map_cons, List.mem_cons, not_or] at h
    show layL r (upd H p.1 p.2) b = H b
    rw [layL_off r _ h.2, upd_ne h.1]
theorem layL_at : ∀ (l : List (Addr × HO)) (H : Hp), (l.map (·.1)).Nodup → ∀ p ∈ l, layL l H p.1 = some p.2
  | [], _, _, p, h => by cases h
  | q :: r, H, hn, p, h => by
    rw [List.map_cons, List.nodup_cons] at hn
    show layL r (upd H q.1 q.2) p.1 = some p.2
    rcases List.mem_cons.mp h with e | h
    · subst e
      rw [layL_off r _ hn.1, upd_same]
    · exact layL_at r _ hn.2 p h
section
variable {X : Cx} {pins : List (Addr × Obj)} {σ : L2.St} {H : Hp} {s : Shared}
theorem laidL {h' : Heap} {tk : Nat} {l : List (Addr × HO)} (I : Inv X pins σ H s) (hk : ∀ b o, s.heap.get? b = some o → h'.get? b = some o) (hn : (l.map (·.1)).Nodup) (hnew : ∀ p ∈ l, s.heap.objs.size ≤ p.1)
    (hok : ∀ p ∈ l, ObjOk X.prog X.w (layL l H) h' p.1 p.2) : Inv X pins σ (layL l H) { s with heap := h', toks := tk } ∧ Same H (layL l H) := by
  have low : ∀ b, b < s.heap.objs.size → b ∉ l.map (·.1) := fun b hb hm => by
    obtain ⟨p, hp, e⟩ := List.mem_map.mp hm
    have := hnew p hp
    rw [e] at this
    exact Nat.lt_irrefl _ (Nat.lt_of_lt_of_le hb this)
  have kp : Same H (layL l H) := fun b o e => by
    rw [layL_off l H (low b (I.hok.lt e))]
    exact e
  refine ⟨?_, kp⟩
  refine I.call' (ch := []) rfl ⟨fun b o q _ _ _ => hk b o q, fun b o q _ _ _ => ⟨o.slots, hk b o q⟩, fun b o q n _ => by rw [layL_off l H (low b (Heap.lt_size q))]; exact n, fun b o q _ => ⟨o, hk b o q⟩, fun b xs q => kp b _ q, fun b o u q => kp b _ q, fun b ps q => ⟨#[], by rw [kp b _ q]; simp⟩⟩
    (fun b u q => ?_) I.bare fun b z => by simp at z
  by_cases hb : b ∈ l.map (·.1)
  · obtain ⟨p, hp, rfl⟩ := List.mem_map.mp hb
    rw [layL_at l H hn p hp] at q
    cases q
    exact hok p hp
  · rw [layL_off l H hb] at q
    exact (I.hok b u q).stay (fun d v _ y => hk d v y) (fun d y => kp d _ y) fun d xs y => kp d _ y
end
/-! ### list(d.items()), the keys tuples -/
section
variable {X : Cx}
theorem call_listItT (hc : X.calm = true) : CallR X (.type "list") (fun vs H Q => ∃ (p d : Addr) (kvs : List (List L2.Key × V)), vs = [.ref p] ∧ H p = some (L2.DX.itemsO p d) ∧ H d = some (.dT kvs) ∧
    ∀ (H' : Hp) (l : Addr) (ts : List Addr), Same H H' → H l = none → H' l = some (.lst (ts.map V.ref)) → ts.length = kvs.length →
      (∀ (i : Nat) (q : List L2.Key × V), kvs[i]? = some q → ∃ t b, ts[i]? = some t ∧ H' t = some (.tup [.ref b, q.2]) ∧ H' b = some (.tup (q.1.map kV))) → Q (.ref l) H') := by
  intro pins s σ H vs us Q I r h
  obtain ⟨p, d, kvs, rfl, hp, hd, q⟩ := h
  obtain ⟨u, rfl, ru⟩ := vals1 r
  cases ru
  obtain ⟨hview, _, _⟩ := (show ObjOk X.prog X.w H s.heap p (L2.DX.itemsO p d) from I.hok p _ hp)
  obtain ⟨z, hs, ks, pr, o, es, ep, ho, hx, hdt, he, hn⟩ := (show ObjOk X.prog X.w H s.heap d (.dT kvs) from I.hok d _ hd)
  have l1 : es.size = ks.length := size_of_entries he
  have l2 : kvs.length = ks.length := Paired.length pr
  have hh := I.ok.hd hc
  have fin : ∀ (h' : Heap) (tk : Nat) (acc : Array Value) (c : Nat) (as : List Addr), (∀ b ob, s.heap.get? b = some ob → h'.get? b = some ob) → h'.get? s.heap.objs.size = some { cls := .type "list", dict := none, data := .seq acc c, slots := #[] } →
      as.length = es.size → DT.Made es s.heap.objs.size h' as → acc.toList = as.map Value.ref → EP X pins σ Q (.ref s.heap.objs.size) { s with heap := h', toks := tk } := fun h' tk acc c as hk hS hl hG hacc => by
    have nd : as.Nodup := List.Pairwise.imp (fun {a b} (h : a < b) => Nat.ne_of_lt h) hG.rise
    have hlen : as.length = kvs.length := by omega
    let tw : Nat × Addr → Addr × HO := fun q => (q.2, .tup [match ks[q.1]? with | some k => .ref k.2.1 | none => .non, match kvs[q.1]? with | some k => k.2 | none => .non])
    let l : List (Addr × HO) := (s.heap.objs.size, .lst (as.map V.ref)) :: ((List.range as.length).zip as).map tw
    have hfst : (((List.range as.length).zip as).map tw).map (·.1) = as := by
      rw [List.map_map]
      show ((List.range as.length).zip as).map (fun q => q.2) = as
      exact List.map_snd_zip (by rw [List.length_range]; exact Nat.le_refl _)
    have hnd : (l.map (·.1)).Nodup := by
      show (s.heap.objs.size :: (((List.range as.length).zip as).map tw).map (·.1)).Nodup
      rw [hfst]
      exact List.nodup_cons.mpr ⟨fun z => Nat.lt_irrefl _ (hG.above _ z), nd⟩
    have mem_at : ∀ (i : Nat) (a : Addr), as[i]? = some a → tw (i, a) ∈ l := fun i a ha => by
      refine List.mem_cons_of_mem _ (List.mem_map.mpr ⟨(i, a), ?_, rfl⟩)
      refine List.mem_iff_getElem?.mpr ⟨i, ?_⟩
      rw [List.getElem?_zip_eq_some]
      exact ⟨by rw [List.getElem?_range (List.getElem?_eq_some_iff.mp ha).1], ha⟩
    have inv_at : ∀ q ∈ ((List.range as.length).zip as), as[q.1]? = some q.2 := fun q hq => by
      obtain ⟨i, hi⟩ := List.mem_iff_getElem?.mp hq
      obtain ⟨h1, h2⟩ := List.getElem?_zip_eq_some.mp hi
      have h3 := (List.getElem?_eq_some_iff.mp h1).1
      rw [List.length_range] at h3
      rw [List.getElem?_range h3] at h1
      cases h1
      exact h2
    have hnew : ∀ p ∈ l, s.heap.objs.size ≤ p.1 := fun p hp => by
      rcases List.mem_cons.mp hp with e | hp
      · rw [e]; exact Nat.le_refl _
      · obtain ⟨q, hq, rfl⟩ := List.mem_map.mp hp
        exact Nat.le_of_lt (hG.above _ (List.mem_of_getElem? (inv_at q hq)))
    -- the entries
    have ent : ∀ (i : Nat) (kv : List L2.Key × V), kvs[i]? = some kv → ∃ k : List L2.Key × Addr × Value, ks[i]? = some k ∧ kv.1 = k.1 ∧ H k.2.1 = some (.tup (kv.1.map kV)) ∧ RelV kv.2 k.2.2 := fun i kv hkv => by
      obtain ⟨k, h1, h2, h3, h4⟩ := L2.paired_get pr hkv
      exact ⟨k, h1, h2, h3, h4⟩
    have hpair : ∀ p ∈ l, ObjOk X.prog X.w (layL l H) h' p.1 p.2 := fun p hp => by
      rcases List.mem_cons.mp hp with e | hp
      · rw [e]
        refine ⟨by rw [List.length_map]; omega, acc.toList, c, by rw [hacc]; exact L2.vals_refs as, ?_⟩
        rw [Array.toArray_toList]
        exact hS
      · obtain ⟨q2, hq, rfl⟩ := List.mem_map.mp hp
        have ha := inv_at q2 hq
        obtain ⟨en, h1, h2⟩ := hG.pairs q2.1 q2.2 ha
        have hi : q2.1 < kvs.length := by have := (List.getElem?_eq_some_iff.mp ha).1; omega
        obtain ⟨k, g1, g2, g3, g4⟩ := ent q2.1 _ (List.getElem?_eq_getElem hi)
        have qe := entry_at he q2.1
        rw [h1, g1] at qe
        have e2 : en = entryOfKey (tupleKind (mixKind X.prog X.w)) k := Option.some.inj qe
        show ObjOk X.prog X.w (layL l H) h' q2.2 (.tup [match ks[q2.1]? with | some k => .ref k.2.1 | none => .non, match kvs[q2.1]? with | some k => k.2 | none => .non])
        rw [g1, List.getElem?_eq_getElem hi]
        refine ⟨by show 2 ≤ sizeLine; decide, [en.key, en.val], .cons ?_ (.cons ?_ .nil), ⟨_, h2, rfl, _, rfl⟩⟩
        · rw [e2]; exact rfl
        · rw [e2]; exact g4
    obtain ⟨J, sm⟩ := laidL (tk := tk) I hk hnd hnew hpair
    refine ⟨.ref s.heap.objs.size, layL l H, J, rfl, q (layL l H) _ as sm (I.hok.fresh (Nat.le_refl _)) (layL_at l H hnd _ (List.mem_cons_self ..)) hlen fun i kv hkv => ?_⟩
    obtain ⟨k, g1, g2, g3, g4⟩ := ent i kv hkv
    have hi : i < as.length := by have := (List.getElem?_eq_some_iff.mp hkv).1; omega
    have hat := layL_at l H hnd _ (mem_at i as[i] (List.getElem?_eq_getElem hi))
    refine ⟨as[i], k.2.1, List.getElem?_eq_getElem hi, ?_, sm _ _ g3⟩
    have e3 : (tw (i, as[i])).2 = .tup [.ref k.2.1, kv.2] := by
      show HO.tup [match ks[i]? with | some k => .ref k.2.1 | none => .non, match kvs[i]? with | some k => k.2 | none => .non] = _
      rw [g1, hkv]
    rw [← e3]
    exact hat
  refine callType_codes (Q₁ := fun obj s₁ => obj = .ref s.heap.objs.size ∧ s₁ = { s with heap := s.heap.push { cls := .type "list", data := .seq #[] } }) PySem.F.called_list (PySem.F.typeCall_list_1 _) PySem.F.entry_list_init (code_list_new _ ⟨rfl, rfl⟩) fun obj s₁ h₁ => ?_
  obtain ⟨rfl, rfl⟩ := h₁
  have hS : (s.heap.push { cls := .type "list", data := .seq #[] }).get? s.heap.objs.size = some { cls := .type "list", data := .seq #[] } := Heap.get?_push_size _ rfl
  have hp1 : p < s.heap.objs.size := I.hok.lt hp
  have hd1 : d < s.heap.objs.size := I.hok.lt hd
  refine ⟨⟨_, hS, rfl⟩, PySem.F.args_list_init_2 _ _, ?_⟩
  show wpAny _ _ (do let old ← Builtin.List.listItems (.ref s.heap.objs.size); Builtin.List.listUpdate (.ref s.heap.objs.size) (fun _ => #[]); letGo old.toList.reverse; Builtin.List.listExtendWith (.ref s.heap.objs.size) (.ref p) .none) _ _ _
  refine wpAny_bind ?_
  unfold Builtin.List.listItems
  refine wpAny_bind (wpAny_seqItems hS rfl (wpAny_pure ?_))
  show wpAny _ _ (updateSeq s.heap.objs.size (fun _ => #[]) >>= fun _ => letGo (#[] : Array Value).toList.reverse >>= fun _ => Builtin.List.listExtendWith (.ref s.heap.objs.size) (.ref p) .none) _ _ _
  refine wpAny_bind (wpAny_updateSeq hS rfl ?_)
  have hS2 := Heap.get?_update_self (Obj.mapSeq (fun _ => (#[] : Array Value))) hS rfl
  have oth : ∀ b ob, s.heap.get? b = some ob → ((s.heap.push { cls := .type "list", data := .seq #[] }).update s.heap.objs.size (Obj.mapSeq (fun _ => (#[] : Array Value)))).get? b = some ob :=
    fun b ob e => (Heap.get?_update_other _ _ (Nat.ne_of_gt (Heap.lt_size e))).trans (Heap.get?_push_of_some _ e)
  refine wpAny_bind (wpAny_letGo ?_)
  refine DT.extI (A := X.A.in1) (es := es) (ep := ep) hh (let ⟨o2, ho2, x2⟩ := hview; ⟨o2, oth p o2 ho2, x2⟩) ⟨o, oth d o ho, hx, hdt⟩ _ (Nat.ne_of_gt hp1) (Nat.ne_of_lt hd1) .none _ hS2 (fun h' tk acc c as hk hS' hl hG hacc => ?_) (by omega)
  exact ⟨rfl, fin h' tk acc c as (fun b ob e => hk b ob (Nat.ne_of_lt (Heap.lt_size e)) (oth b ob e)) hS' hl (hG.low (by rw [Heap.size_update, Heap.size_push]; exact Nat.le_succ _)) hacc⟩
end
end Nl
namespace Nl
open PySem PySem.Spec PyProof.Rows L2
/-! ### for i, x in enumerate(t), t a tuple -/
theorem meets_enumT {v : Value} {o : Obj} {H : Heap → Prop} (B : Begins v o H) :
    Meets (Builtin.«enumerate.__new__» ⟨[.type "enumerate", v], []⟩) (fun _ R s => H s.heap ∧
      R (.ok (.ret (.ref (s.heap.push o).objs.size))) { s with heap := (s.heap.push o).push { cls := .type "enumerate", data := .fields #[.none, .bool false, .ref s.heap.objs.size, rawInt 0, .none, .none] } }) :=
  .of_wp fun prog w A R s h => by
    obtain ⟨hp, g, d, tk, os⟩ := s
    obtain ⟨h1, h⟩ := h
    have hsub := sub_enumerate
    have q1 : ∀ {A' : Around} {E : Value → Shared → Prop} {Q : Value → Shared → Prop}, Q (.ref hp.objs.size) ⟨hp.push o, g, d, tk, os⟩ → wpAny (model prog w) A' (pyIter v) Q E ⟨hp, g, d, tk, os⟩ :=
      fun q => B.iter prog w _ _ ⟨hp, g, d, tk, os⟩ _ h1 q
    wp_walk using q1
    refine wpAny_stack_any fun st => wpAny_pure ?_
    split
    · rename_i c _ _ _ _ _
      cases (c == Value.type "enumerate")
      · wp_walk using q1
        exact ⟨_, rfl, h⟩
      · wp_walk using q1
        exact ⟨_, rfl, h⟩
    · wp_walk using q1
      exact ⟨_, rfl, h⟩
theorem call_enumT {prog : Program} {w : World} {A : Around} {E : Value → Shared → Prop} {s : Shared} {v : Value} {o : Obj} {H : Heap → Prop} {Q : Value → Shared → Prop} (B : Begins v o H) (h1 : H s.heap)
    (h : ∀ h', IsEnum h' (s.heap.objs.size + 1) s.heap.objs.size 0 .none → h'.get? s.heap.objs.size = some o → h'.objs.size = s.heap.objs.size + 2 →
      (∀ b ob, s.heap.get? b = some ob → h'.get? b = some ob) → Q (.ref (s.heap.objs.size + 1)) { s with heap := h' }) :
    wpAny (model prog w) A (call (.type "enumerate") [v]) Q E s := by
  refine callType_new F.called_enumerate (by decide) (F.typeCall_enumerate_1 _) (F.newCall_enumerate_1 _) (fun obj => F.args_object_init_2 obj _) F.entry_enumerate_new (meets_enumT B) ⟨h1, ?_⟩
  have hz : (s.heap.push o).objs.size = s.heap.objs.size + 1 := Heap.size_push ..
  show _ ∧ _
  rw [hz]
  have he : IsEnum ((s.heap.push o).push { cls := .type "enumerate", data := .fields #[.none, .bool false, .ref s.heap.objs.size, rawInt 0, .none, .none] }) (s.heap.objs.size + 1) s.heap.objs.size 0 .none := by
    have := Heap.get?_push_size (s.heap.push o) (o := { cls := .type "enumerate", data := .fields #[.none, .bool false, .ref s.heap.objs.size, rawInt 0, .none, .none] }) rfl
    rw [hz] at this; exact this
  refine ⟨⟨_, he, rfl⟩, h _ he (Heap.get?_push_of_some _ (Heap.get?_push_size _ B.free)) (by rw [Heap.size_push, hz]) fun b ob x => Heap.get?_push_of_some _ (Heap.get?_push_of_some _ x)⟩
/-- the tuple at a, tracked; each item in a new pair -/
def Itet (a : Addr) (xs : List V) : It :=
  ⟨fun i H => H a = some (.tup xs) ∧ i < xs.length, fun i H v H' => ∃ T x, v = .ref T ∧ H T = none ∧ H' = upd H T (.tup [.int (i : Nat), x]) ∧ xs[i]? = some x, fun i H => H a = some (.tup xs) ∧ i = xs.length⟩
theorem walk_enumT {a : Addr} {xs : List V} : Walk (Itet a xs) xs.length (fun H => H a = some (.tup xs)) (fun i H v H' => ∃ T x, v = .ref T ∧ H T = none ∧ H' = upd H T (.tup [.int (i : Nat), x]) ∧ xs[i]? = some x) :=
  ⟨fun _ _ hi q => ⟨q, hi⟩, fun _ q => ⟨q, rfl⟩, fun _ _ _ _ _ _ y => y⟩
theorem turn_enumT {P : Program} {w : World} {K : PySem.W.Frag} {elts : List Expr} {kk : Nat} {tpos : Pos} (a e it : Addr) (xs : List V) :
    Turn P w K (.Tuple elts kk tpos) (Itet a xs) [e, it] e (fun i h => (∃ old, IsEnum h e it ((i : Nat) : Int) old) ∧ h.IsTupleIter it a i ∧ e ≠ it) where
  mem := by simp
  obj := fun i h st b hb => by
    obtain ⟨⟨old, he⟩, ⟨o, ho, hc, hd⟩, _⟩ := st
    have e' : b = e ∨ b = it := by simpa using hb
    rcases e' with z | z
    · rw [z]; exact ⟨_, he, fun v q => nomatch q⟩
    · rw [z]; exact ⟨o, ho, fun v q => by rw [hd] at q; cases q⟩
  keep := fun i h h' st k => let ⟨⟨old, he⟩, hi, hne⟩ := st; ⟨⟨old, k e (by simp) _ he⟩, hi.at fun o q => k it (by simp) o q, hne⟩
  item := by
    intro X hP hw hK hc i pins s σ H E I hf st hg
    subst hP hw hK
    obtain ⟨⟨old, he⟩, hit, hne⟩ := st
    obtain ⟨ha, hi⟩ := hg
    obtain ⟨x, hx⟩ : ∃ x, xs[i]? = some x := ⟨xs[i], List.getElem?_eq_getElem hi⟩
    obtain ⟨its, rv, p, hz⟩ := I.tuple (SqT.of ha)
    have hai : a ≠ it := ne_of_none ha (hf it (by simp)).1
    have hae : a ≠ e := ne_of_none ha (hf e (by simp)).1
    have hel : e < s.heap.objs.size := Heap.lt_size he
    have hlen := rv.length
    have D := Draws.tuple (prog := X.prog) (w := X.w) (A := X.A.in1) (I.ok.hd hc) it a hai its.toArray
    refine wpAny_pyNext_enum_itemD D he ⟨hit, p⟩ (by simp; omega) hne (by simp; exact ⟨hne, fun z => hae z.symm⟩) fun u h' tk hP ho st' hT hsz hk => ?_
    have ru : RelV x u := by
      obtain ⟨u', hu', r'⟩ := rv.get hx
      have hP' : its[i]? = some u := by simpa using hP
      rw [hu'] at hP'
      cases hP'
      exact r'
    refine ⟨_, rfl, wpAny_letOwnedTupleGo_enum (s := { s with heap := h', toks := tk + 1 }) ho fun h'' he' sb => ?_⟩
    have hT2 : h''.get? s.heap.objs.size = some { cls := .type "tuple", data := .seq #[.int i tk, u] } := (sb.2 _ (Nat.ne_of_gt hel)).trans hT
    have new : ObjOk X.prog X.w (upd H s.heap.objs.size (.tup [.int (i : Nat), x])) h'' s.heap.objs.size (.tup [.int (i : Nat), x]) :=
      ⟨by show 2 ≤ sizeLine; decide, [.int i tk, u], .cons ⟨_, rfl⟩ (.cons ru .nil), ⟨_, hT2, rfl, _, rfl⟩⟩
    have I1 : Inv X pins σ (upd H s.heap.objs.size (.tup [.int (i : Nat), x])) { s with heap := h'', toks := tk + 1 } :=
      I.turnedNew (ch := [e, it]) (fun b ob hb q => (sb.2 b (fun z => hb (by simp [z]))).trans (hk b ob (fun z => hb (by simp [z])) (fun z => hb (by simp [z])) q)) hf (Nat.le_refl _) new
    refine ⟨.ref s.heap.objs.size, _, I1, rfl, ⟨_, x, rfl, I.hok.fresh (Nat.le_refl _), rfl, hx⟩, ⟨⟨u, ?_⟩, st'.1.at fun o q => (sb.2 it (Ne.symm hne)).trans q, hne⟩, fun b hb => ?_⟩
    · have e1 : ((i + 1 : Nat) : Int) = (i : Int) + 1 := by omega
      rw [e1]; exact he'
    · have hb' : b < s.heap.objs.size := by
        have e' : b = e ∨ b = it := by simpa using hb
        rcases e' with z | z
        · rw [z]; exact hel
        · rw [z]
          obtain ⟨_, q, _⟩ := hit
          exact Heap.lt_size q
      rw [upd_ne (Nat.ne_of_lt hb')]
      exact (hf b hb).1
  done := by
    intro X hP hw hK hc i pins s σ H E I hf st hg
    subst hP hw hK
    obtain ⟨⟨old, he⟩, hit, hne⟩ := st
    obtain ⟨ha, hi⟩ := hg
    obtain ⟨its, rv, p, hz⟩ := I.tuple (SqT.of ha)
    have hai : a ≠ it := ne_of_none ha (hf it (by simp)).1
    obtain ⟨f0, f1, f2, f3, f4, f5⟩ := hf it (by simp)
    have hlen := rv.length
    have D := Draws.tuple (prog := X.prog) (w := X.w) (A := X.A.in1) (I.ok.hd hc) it a hai its.toArray
    have ei : i = its.toArray.size := by simp; omega
    exact wpAny_pyNext_enum_endD D he ⟨by rw [← ei]; exact hit, p⟩ fun h' eb => ⟨rfl, I.turned (t' := s.toks) (fun b o hb q => eb b o hb q) f0 f1 f3 f4 f5⟩
  self := fun A i s Q E st h => let ⟨⟨_, he⟩, _⟩ := st; wpAny_pyIter_enum he h
def iEnumT (ta : TA) : TI := fun σ H R => ta σ H fun vs H1 => ∃ a xs, vs = [.ref a] ∧ H1 a = some (.tup xs) ∧ R (Itet a xs) H1
theorem pi_enumT {X : Cx} {e : Expr} {ta : TA} {p pos tpos : Pos} {elts : List Expr} {kk : Nat} (hg : Gl X "enumerate") (hm : X.mg "enumerate" = none) (ha : PA X [e] ta) (hs : starEach [e] X.env = [(false, eval e X.env)] := by rfl) :
    PI X (.Tuple elts kk tpos) (.Call (.Name "enumerate" p) [e] [] pos) (iEnumT ta) := by
  refine ⟨fun pins s σ H R I h => ?_⟩
  refine Call_ (ld_blt I hg hm boot_enumerate (PyProof.Rows.callWith_type1 (thn (ha.run pos pins s σ H _ I h) fun us s1 ⟨vs, H1, I1, r1, q1⟩ => ?_) hs rfl))
  obtain ⟨a, xs, ex, hq, q⟩ := q1
  subst ex
  obtain ⟨u, rfl, ru⟩ := vals1 r1
  cases ru
  obtain ⟨its, rv, p', hz⟩ := I1.tuple (SqT.of hq)
  refine call_enumT (begins_tuple a its.toArray) p' fun h' he hit hsz hk => wpAny_pyIter_enum he ?_
  have I2 : Inv X pins σ H1 { s1 with heap := h' } := I1.kept (t' := s1.toks) hk
  refine ⟨s1.heap.objs.size + 1, [s1.heap.objs.size + 1, s1.heap.objs.size], _, _, H1, rfl, I2, turn_enumT a (s1.heap.objs.size + 1) s1.heap.objs.size xs, ⟨⟨.none, he⟩, ⟨_, hit, rfl, rfl⟩, Nat.succ_ne_self _⟩, fun b hb => ?_, q⟩
  have e' : b = s1.heap.objs.size + 1 ∨ b = s1.heap.objs.size := by simpa using hb
  have hle : s1.heap.objs.size ≤ b := by
    rcases e' with z | z
    · rw [z]; exact Nat.le_add_right _ _
    · rw [z]; exact Nat.le_refl _
  exact I1.fpOk hle (I1.hok.fresh hle)
end Nl
namespace Nl
open PySem PySem.Spec PyProof.Rows L2
def top (i : Nat) : Stmt := PySem.Challenge.pw_neverleapt_k75_whole_runs_that_show_a_sh.main.body.getD i (.Pass ⟨0, 0, 0, 0⟩)
abbrev s_is_integer : Stmt := top 9
abbrev s_is_within : Stmt := top 10
abbrev s_is_from : Stmt := top 11
abbrev s_is_pair : Stmt := top 12
abbrev s_common_divisor : Stmt := top 13
abbrev s_is_share : Stmt := top 14
abbrev s_check_share : Stmt := top 15
abbrev s_is_event : Stmt := top 21
abbrev s_step_at : Stmt := top 23
abbrev s_is_event_of : Stmt := top 24
abbrev s_is_run_there : Stmt := top 25
abbrev s_check_run : Stmt := top 26
abbrev s_boards_of : Stmt := top 27
abbrev s_is_run : Stmt := top 28
abbrev s_boards : Stmt := top 29
abbrev s_is_first : Stmt := top 32
abbrev s_check_boards : Stmt := top 33
abbrev s_check_tries : Stmt := top 34
abbrev s_traced : Stmt := top 35
abbrev s_keep_better : Stmt := top 36
abbrev s_way_back : Stmt := top 37
abbrev s_nothing : Stmt := top 38
abbrev s_lead_to : Stmt := top 39
abbrev s_begins_of : Stmt := top 40
abbrev s_best_run : Stmt := top 41
abbrev s_often_of : Stmt := top 42
abbrev s_often : Stmt := top 43
abbrev s_often_run : Stmt := top 44
abbrev s__law_pot : Stmt := top 46
abbrev s__law_draw : Stmt := top 47
abbrev s__law_any : Stmt := top 48
abbrev s__law_parts : Stmt := top 49
abbrev s__law_gcd : Stmt := top 50
abbrev s__law_low : Stmt := top 51
abbrev s__law_share : Stmt := top 52
abbrev s__law_out : Stmt := top 53
abbrev s__law_walk : Stmt := top 54
abbrev s__law_two_boards : Stmt := top 55
abbrev s__law_boards_with : Stmt := top 56
abbrev s__law_flow : Stmt := top 57
abbrev s__law_often : Stmt := top 58
abbrev s__law_room : Stmt := top 59
abbrev s__law_is_right : Stmt := top 60
abbrev s_law : Stmt := top 61
abbrev s_Machine : Stmt := top 22
abbrev s_M_init : Stmt := inClass (top 22) 0
abbrev s_M_keep : Stmt := inClass (top 22) 1
end Nl

namespace Nl
open PySem PySem.Spec PyProof.Rows L2
/-! ### what the top has left, by names -/
structure TX (K : PySem.W.Frag) (mg : Str → Option Value) : Prop where
  abs : mg "abs" = none
  all : mg "all" = none
  bool : mg "bool" = none
  enumerate : mg "enumerate" = none
  int : mg "int" = none
  isinstance : mg "isinstance" = none
  len : mg "len" = none
  list : mg "list" = none
  max : mg "max" = none
  min : mg "min" = none
  range : mg "range" = none
  sorted : mg "sorted" = none
  sum : mg "sum" = none
  tuple : mg "tuple" = none
  MOST_STANDINGS : ∃ t, mg "MOST_STANDINGS" = some (.int 12 t)
  MOST_EVENTS : ∃ t, mg "MOST_EVENTS" = some (.int 30 t)
  MOST_TRIES_machines : ∃ t, mg "MOST_TRIES_machines" = some (.int 40 t)
  MOST_POINTS : ∃ t, mg "MOST_POINTS" = some (.int 400 t)
  MOST_TRIES_betweens : ∃ t, mg "MOST_TRIES_betweens" = some (.int 300 t)
  cl : Cls K (He.ga K "Machine")
  nSt : NoAttr K (He.ga K "Machine") "standings"
  nEv : NoAttr K (He.ga K "Machine") "events"
  nKo : NoAttr K (He.ga K "Machine") "kept_out"
  mK : Meth K (He.ga K "Machine") "keep" (He.ma K (He.ga K "Machine") "keep")
  mkM : Mk K (He.ga K "Machine") (He.ma K (He.ga K "Machine") "__init__")
  mgM : mg "Machine" = some (.ref (He.ga K "Machine"))
/-! ### small rules -/
section
variable {X : Cx}
theorem pe_cint {x : Str} {i : Int} {pos : Pos} (h : ∃ t, X.mg x = some (.int i t)) (hg : Gl X x) (hd : (x == ("__debug__" : Str)) = false := by decide) : PE X (.Name x pos) (tC (.int i)) := by
  obtain ⟨t, e⟩ := h
  exact pe_glob hg e ⟨t, rfl⟩ hd
theorem op_eqI : OpR X (compareOp .Eq) (rI0 fun i j => .bl (decide (i = j))) := by
  intro pins s σ H x y v u Q I rx ry h
  obtain ⟨i, j, rfl, rfl, q⟩ := h
  refine op_eq pins s σ H _ _ v u Q I rx ry ⟨rfl, ?_⟩
  have e : decide (V.int i = V.int j) = decide (i = j) := by simp
  rw [e]
  exact q
theorem op_neI : OpR X (compareOp .NotEq) (rI0 fun i j => .bl (!decide (i = j))) := by
  intro pins s σ H x y v u Q I rx ry h
  obtain ⟨i, j, rfl, rfl, q⟩ := h
  refine op_ne pins s σ H _ _ v u Q I rx ry ⟨rfl, ?_⟩
  have e : decide (V.int i = V.int j) = decide (i = j) := by simp
  rw [e]
  exact q
def tIsi (K : PySem.W.Frag) (C : String) (ta : TE) : TE := fun σ H Q => ta σ H fun x H1 => rIsi K [x, .ty C] H1 Q
theorem isi_of {K : PySem.W.Frag} {C T : String} {x : V} {b : Bool} {H : Hp} {Q : VK} (h : TyOf K H x (.type T)) (hk : kitB T C = some b) (q : Q (.bl b) H) : rIsi K [x, .ty C] H Q := ⟨x, .ty C, .type T, .type C, b, rfl, .ty C, .base h, kit_ty hk, q⟩
theorem kb_ii : kitB "int" "int" = some true := by decide +kernel
theorem kb_ib : kitB "int" "bool" = some false := by decide +kernel
theorem kb_tt : kitB "tuple" "tuple" = some true := by decide +kernel
theorem kb_bb : kitB "bool" "bool" = some true := by decide +kernel
theorem pe_isi {C : String} {x : Str} {a : Expr} {ta : TE} {p p2 pos : Pos} (h1 : X.mg "isinstance" = none) (h2 : X.mg x = none) (ha : PE X a ta) (hg : Gl X "isinstance" := by rfl) (hg2 : Gl X x := by rfl) (hv : bootBuiltins x = some (.type C) := by decide +kernel)
    (hn : x ≠ "__name__" := by decide) (hd : (x == ("__debug__" : Str)) = false := by decide) (hs : starEach [a, .Name x p2] X.env = (false, eval a X.env) :: starEach [.Name x p2] X.env := by rfl) (hs2 : starEach [.Name x p2] X.env = (false, eval (.Name x p2) X.env) :: starEach [] X.env := by rfl)
    (hpl : (backTo pos (starEach [.Name x p2] X.env)).any (·.1) = false := by rfl) : PE X (.Call (.Name "isinstance" p) [a, .Name x p2] [] pos) (tIsi X.K C ta) := by
  have q := pe_callB (pos := pos) (p := p) call_isi hg h1 (by decide +kernel) (pa_cons ha (pa_cons (pe_bltn (v := .ty C) (pos := p2) hg2 h2 hv rfl hn hd) pa_nil hs2) hs) (by decide) (by decide) hs hpl
  exact ⟨fun pins s σ H Q I h => q.run pins s σ H Q I h⟩
end
end Nl
namespace Nl
open PySem PySem.Spec PyProof.Rows L2
/-! ### a def of the text -/
abbrev FnP (K : PySem.W.Frag) (x : Str) (st : Stmt) (f : Addr) (fd : FuncData) : Prop := FunD K x x (defArgs st) (defBody st) (defScope st) [] [] f fd
structure Df (K : PySem.W.Frag) (mg : Str → Option Value) (x : Str) (st : Stmt) : Prop where
  ex : ∃ (f : Addr) (fd : FuncData), FnP K x st f fd ∧ mg x = some (.ref f)
section
variable {P : Program} {w : World} {K : PySem.W.Frag} {mg : Str → Option Value} {base : Heap}
theorem fk_of {x : Str} {st : Stmt} {N ps : List Str} {k : Nat} {sp : Sp} (F : Df K mg x st) (S : FnScope N ps (defScope st))
    (hb : ∀ (kV doc pm : Value) (an : Option Addr) (cdv ct : Value) (us : List Value), us.length = ps.length → bindArgs (PySem.W.fnOf x x (defArgs st) (defBody st) (defScope st) .none kV doc pm an cdv ct) ⟨us, []⟩ = pure (ps.zip us))
    (len : ∀ vs H Q E, sp vs H Q E → vs.length = ps.length)
    (hbody : ∀ (f : Addr) (cdv : Value) (A : Around) (outer : List Env) (s : Shared) (H : Hp) (vs : List V) (Q : VK) (E : XK), Room k (A.deeper (envOfC x (defScope st) s.heap.objs.size f cdv)) → sp vs H Q E →
      ∃ t, PSs (cxOf CX0 P w K mg base N x (defScope st) f cdv A outer s H E).nox (defBody st) t ∧ t { nx := fun _ H' => Q .non H', rt := Q } (start N vs) H) : Fk P w K mg base (k + 1) x ps sp := by
  obtain ⟨f, fd, F, hm⟩ := F.ex
  refine ⟨f, fd, F.ok S len (fun cdv A outer s H vs Q E hr h => ?_), hm, F.kp, F.bindsN hb⟩
  obtain ⟨t, ht, q⟩ := hbody f cdv A outer s H vs Q E hr h
  exact ⟨t, ht.nox, q⟩
end
/-! ### heaps -/
theorem same_new {H : Hp} {p : Addr} {o : HO} (h : H p = none) : Same H (upd H p o) := fun b x e => by
  rw [upd_ne (ne_of_none e h)]
  exact e
theorem Same.free' {H H' : Hp} (e : Same H H') {l : Addr} (h : H' l = Option.none) : H l = Option.none := e.free h
/-- all but what stands at the addresses of D -/
def Kp (D : Addr → Prop) (H H' : Hp) : Prop := ∀ b o, H b = some o → ¬ D b → H' b = some o
theorem Kp.refl {D : Addr → Prop} (H : Hp) : Kp D H H := fun _ _ h _ => h
theorem Kp.of {D : Addr → Prop} {H H' : Hp} (s : Same H H') : Kp D H H' := fun b o h _ => s b o h
theorem Kp.trans {D : Addr → Prop} {H H1 H2 : Hp} (a : Kp D H H1) (b : Kp D H1 H2) : Kp D H H2 := fun c o h n => b c o (a c o h n) n
theorem Kp.up {D : Addr → Prop} {H H1 : Hp} {a : Addr} {o : HO} (h : Kp D H H1) (ha : D a) : Kp D H (upd H1 a o) := fun b x e n => by
  rw [upd_ne (fun z => n (by rw [z]; exact ha))]
  exact h b x e n
/-- a tuple of two ints -/
def Tp2 (H : Hp) (a : Addr) (x y : Int) : Prop := H a = some (.tup [.int x, .int y])
theorem Tp2.key {H : Hp} {a : Addr} {x y : Int} (h : Tp2 H a x y) : H a = some (.tup (([.inl x, .inl y] : List L2.Key).map kV)) := h
theorem Tp2.eq {H : Hp} {a : Addr} {x y x' y' : Int} (h : Tp2 H a x y) (h' : Tp2 H a x' y') : x = x' ∧ y = y' := by
  unfold Tp2 at h h'
  rw [h] at h'
  injection h' with h1
  injection h1 with h2
  injection h2 with h3 h4
  injection h4 with h5 _
  injection h3 with h3
  injection h5 with h5
  exact ⟨h3, h5⟩
/-- an event's tuple -/
def EvT (H : Hp) (a : Addr) (e : Ev) : Prop := H a = some (.tup [.int (e.b : Nat), .int (e.a : Nat), .int (e.t : Nat), .int e.p])
structure EvsAt (H : Hp) (a : Addr) (es : List Ev) : Prop where
  ex : ∃ as : List Addr, H a = some (.tup (as.map V.ref)) ∧ as.length = es.length ∧ ∀ (j : Nat) (e : Ev), es[j]? = some e → ∃ x, as[j]? = some x ∧ EvT H x e
theorem EvsAt.same {H H' : Hp} {a : Addr} {es : List Ev} (h : EvsAt H a es) (s : Same H H') : EvsAt H' a es := by
  obtain ⟨as, h1, h2, h3⟩ := h.ex
  exact ⟨as, s _ _ h1, h2, fun j e he => by
    obtain ⟨x, k1, k2⟩ := h3 j e he
    exact ⟨x, k1, s _ _ k2⟩⟩
/-- the numbers of the events that lead from a standing -/
def isOut (q : Nat) : Option Ev → Bool
  | some e => decide (e.b = q)
  | none => false
def outs (es : List Ev) (q : Nat) : List Nat := (List.range es.length).filter fun j => isOut q es[j]?
theorem mem_outs {es : List Ev} {q j : Nat} : j ∈ outs es q ↔ ∃ e, es[j]? = some e ∧ e.b = q := by
  unfold outs
  rw [List.mem_filter, List.mem_range]
  constructor
  · rintro ⟨h1, h2⟩
    rw [List.getElem?_eq_getElem h1] at h2 ⊢
    exact ⟨_, rfl, of_decide_eq_true h2⟩
  · rintro ⟨e, h1, h2⟩
    refine ⟨(List.getElem?_eq_some_iff.mp h1).1, ?_⟩
    rw [h1]
    exact decide_eq_true h2
theorem outs_len (es : List Ev) (q : Nat) : (outs es q).length ≤ es.length := by
  unfold outs
  refine Nat.le_trans (List.length_filter_le _ _) ?_
  rw [List.length_range]
  exact Nat.le_refl _
/-- a machine -/
structure MachAt (C : Addr) (H : Hp) (p : Addr) (n : Nat) (es : List Ev) : Prop where
  ex : ∃ (dx ea ko : Addr) (ks : List Addr) (fs : List (Str × V)), H p = some (.ins C dx fs) ∧ fs.lookup ("events" : Str) = some (.ref ea) ∧ fs.lookup ("kept_out" : Str) = some (.ref ko) ∧ EvsAt H ea es ∧
    H ko = some (.lst (ks.map V.ref)) ∧ ks.length = n ∧ ∀ q, q < n → ∃ k, ks[q]? = some k ∧ H k = some (.lst ((outs es q).map fun j => V.int (j : Nat)))
theorem MachAt.same {C : Addr} {H H' : Hp} {p : Addr} {n : Nat} {es : List Ev} (h : MachAt C H p n es) (s : Same H H') : MachAt C H' p n es := by
  obtain ⟨dx, ea, ko, ks, fs, h1, h2, h3, h4, h5, h6, h7⟩ := h.ex
  exact ⟨dx, ea, ko, ks, fs, s _ _ h1, h2, h3, h4.same s, s _ _ h5, h6, fun q hq => by
    obtain ⟨k, k1, k2⟩ := h7 q hq
    exact ⟨k, k1, s _ _ k2⟩⟩
/-- a run's tuple -/
def RunT (H : Hp) (a : Addr) (r : List Nat) : Prop := H a = some (.tup (r.map fun j => V.int (j : Nat)))
/-- a list of boards -/
structure BdsAt (H : Hp) (a : Addr) (bs : List (Nat × Int)) : Prop where
  ex : ∃ as : List Addr, H a = some (.lst (as.map V.ref)) ∧ as.length = bs.length ∧ ∀ (i : Nat) (b : Nat × Int), bs[i]? = some b → ∃ x, as[i]? = some x ∧ Tp2 H x (b.1 : Nat) b.2
theorem BdsAt.same {H H' : Hp} {a : Addr} {bs : List (Nat × Int)} (h : BdsAt H a bs) (s : Same H H') : BdsAt H' a bs := by
  obtain ⟨as, h1, h2, h3⟩ := h.ex
  exact ⟨as, s _ _ h1, h2, fun j e he => by
    obtain ⟨x, k1, k2⟩ := h3 j e he
    exact ⟨x, k1, s _ _ k2⟩⟩
theorem lt_line {n : Nat} (h : n < 16777216) : n < sizeLine := by rw [sizeLine_eq]; exact h
theorem le_line {n : Nat} (h : n ≤ 16777216) : n ≤ sizeLine := by rw [sizeLine_eq]; exact h
theorem map_get {α β : Type} {f : α → β} {l : List α} {i : Nat} {x : α} (h : l[i]? = some x) : (l.map f)[i]? = some (f x) := by rw [List.getElem?_map, h]; rfl
theorem of_map_get {α β : Type} {f : α → β} {l : List α} {i : Nat} {y : β} (h : (l.map f)[i]? = some y) : ∃ x, l[i]? = some x ∧ y = f x := by
  rw [List.getElem?_map] at h
  cases e : l[i]? with
  | none => rw [e] at h; cases h
  | some x => rw [e] at h; cases h; exact ⟨x, rfl, rfl⟩
end Nl
namespace Nl
open PySem PySem.Spec PyProof.Rows L2
theorem blT {Q : VK} {c : Prop} [Decidable c] {H : Hp} (h : c) (q : Q (.bl true) H) : Q (.bl (decide c)) H := by
  rw [decide_eq_true h]
  exact q
theorem ifT {c A B : Prop} [Decidable c] (h : c) (q : A) : if decide c = true then A else B := by
  rw [decide_eq_true h]
  exact iteT q
theorem ifF {c A B : Prop} [Decidable c] (h : ¬ c) (q : B) : if decide c = true then A else B := by
  rw [decide_eq_false h]
  exact iteF q
theorem ifD {c A B : Prop} [Decidable c] (h1 : c → A) (h2 : ¬ c → B) : if decide c = true then A else B := by
  by_cases h : c
  · exact ifT h (h1 h)
  · exact ifF h (h2 h)
theorem ifNT {c A B : Prop} [Decidable c] (h : ¬ c) (q : A) : if (!decide c) = true then A else B := by
  rw [decide_eq_false h]
  exact iteT q
theorem ifNF {c A B : Prop} [Decidable c] (h : c) (q : B) : if (!decide c) = true then A else B := by
  rw [decide_eq_true h]
  exact iteF q
/-! ### promises -/
def spIsInteger : Sp := fun vs H Q _ => ∃ i : Int, vs = [.int i] ∧ Q (.bl true) H
def spIsWithin : Sp := fun vs H Q _ => ∃ a l m : Int, vs = [.int a, .int l, .int m] ∧ l ≤ a ∧ a ≤ m ∧ Q (.bl true) H
def spIsFrom : Sp := fun vs H Q _ => ∃ a l : Int, vs = [.int a, .int l] ∧ l ≤ a ∧ Q (.bl true) H
def spIsPair : Sp := fun vs H Q _ => ∃ (p : Addr) (x y : Int), vs = [.ref p] ∧ Tp2 H p x y ∧ Q (.bl true) H
def spGcd : Sp := fun vs H Q _ => ∃ a b : Int, vs = [.int a, .int b] ∧ Q (.int (Nat.gcd a.natAbs b.natAbs : Nat)) H
def spIsShare : Sp := fun vs H Q _ => ∃ (p : Addr) (a b : Int), vs = [.ref p] ∧ Tp2 H p a b ∧ ShOk a b ∧ Q (.bl true) H
def spCheckShare : Sp := fun vs H Q _ => ∃ (p : Addr) (a b : Int), vs = [.ref p] ∧ Tp2 H p a b ∧ ShOk a b ∧ Q .non H
def EvOk (n : Nat) (e : Ev) : Prop := e.b < n ∧ e.a < n ∧ 1 ≤ e.t ∧ e.t ≤ 39 ∧ -4 ≤ e.p ∧ e.p ≤ 4
def spIsEvent : Sp := fun vs H Q _ => ∃ (p : Addr) (e : Ev) (n : Nat), vs = [.ref p, .int n] ∧ EvT H p e ∧ EvOk n e ∧ Q (.bl true) H
section
variable {P : Program} {w : World} {K : PySem.W.Frag} {mg : Str → Option Value} {base : Heap}
abbrev n_is_integer : List Str := ["thing"]
theorem sc_is_integer : FnScope n_is_integer ["thing"] (defScope s_is_integer) := ⟨rfl, rfl, rfl, by decide +kernel, rfl, by decide +kernel, by decide +kernel⟩
theorem ok_is_integer (D : Df K mg "is_integer" s_is_integer) (T : TX K mg) : Fk P w K mg base 1 "is_integer" ["thing"] spIsInteger := by
  refine fk_of D sc_is_integer (fun _ _ _ _ _ _ us hl => match us, hl with | [_], _ => rfl) (fun vs H Q E h => ?_) (fun f cdv A outer s H vs Q E hr h => ?_)
  · obtain ⟨i, rfl, _⟩ := h
    rfl
  · obtain ⟨i, rfl, q⟩ := h
    refine ⟨_, (pss_one (ps_ret (pe_and (pe_isi (C := "int") T.isinstance T.int (pv 0)) (pe_one (pe_not (pe_isi (C := "bool") T.isinstance T.bool (pv 0))))))), ?_⟩
    exact ⟨_, rfl, isi_of (.int i) kb_ii ⟨true, rfl, iteT ⟨_, rfl, isi_of (.int i) kb_ib ⟨false, rfl, q⟩⟩⟩⟩
abbrev n_is_within : List Str := ["thing", "least", "most"]
theorem sc_is_within : FnScope n_is_within ["thing", "least", "most"] (defScope s_is_within) := ⟨rfl, rfl, rfl, by decide +kernel, rfl, by decide +kernel, by decide +kernel⟩
theorem ok_is_within (D : Df K mg "is_within" s_is_within) (T : TX K mg) (g_is_integer : Fk P w K mg base 1 "is_integer" ["thing"] spIsInteger) : Fk P w K mg base 2 "is_within" ["thing", "least", "most"] spIsWithin := by
  refine fk_of D sc_is_within (fun _ _ _ _ _ _ us hl => match us, hl with | [_, _, _], _ => rfl) (fun vs H Q E h => ?_) (fun f cdv A outer s H vs Q E hr h => ?_)
  · obtain ⟨_, _, _, rfl, _⟩ := h
    rfl
  · obtain ⟨a, l, m, rfl, h1, h2, q⟩ := h
    refine ⟨_, (pss_one (ps_ret (pe_and (pe_fk g_is_integer hr (by rfl) (pa_cons (pv 0) pa_nil)) (pe_one (pe_chain op_le op_le (pv 1) (pv 0) (pv 2)))))), ?_⟩
    exact ⟨_, rfl, a, rfl, true, rfl, iteT ⟨_, rfl, _, rfl, l, a, rfl, rfl, _, rfl, ifT h1 ⟨_, rfl, a, m, rfl, rfl, blT (Q := Q) h2 q⟩⟩⟩
abbrev n_is_from : List Str := ["thing", "least"]
theorem sc_is_from : FnScope n_is_from ["thing", "least"] (defScope s_is_from) := ⟨rfl, rfl, rfl, by decide +kernel, rfl, by decide +kernel, by decide +kernel⟩
theorem ok_is_from (D : Df K mg "is_from" s_is_from) (T : TX K mg) (g_is_integer : Fk P w K mg base 1 "is_integer" ["thing"] spIsInteger) : Fk P w K mg base 2 "is_from" ["thing", "least"] spIsFrom := by
  refine fk_of D sc_is_from (fun _ _ _ _ _ _ us hl => match us, hl with | [_, _], _ => rfl) (fun vs H Q E h => ?_) (fun f cdv A outer s H vs Q E hr h => ?_)
  · obtain ⟨_, _, rfl, _⟩ := h
    rfl
  · obtain ⟨a, l, rfl, h1, q⟩ := h
    refine ⟨_, (pss_one (ps_ret (pe_and (pe_fk g_is_integer hr (by rfl) (pa_cons (pv 0) pa_nil)) (pe_one (pe_cmpR op_ge (pv 0) (pv 1) (nomark _)))))), ?_⟩
    exact ⟨_, rfl, a, rfl, true, rfl, iteT ⟨_, rfl, _, rfl, a, l, rfl, rfl, blT (Q := Q) h1 q⟩⟩
abbrev n_is_pair : List Str := ["thing"]
theorem sc_is_pair : FnScope n_is_pair ["thing"] (defScope s_is_pair) := ⟨rfl, rfl, rfl, by decide +kernel, rfl, by decide +kernel, by decide +kernel⟩
theorem ok_is_pair (D : Df K mg "is_pair" s_is_pair) (T : TX K mg) : Fk P w K mg base 1 "is_pair" ["thing"] spIsPair := by
  refine fk_of D sc_is_pair (fun _ _ _ _ _ _ us hl => match us, hl with | [_], _ => rfl) (fun vs H Q E h => ?_) (fun f cdv A outer s H vs Q E hr h => ?_)
  · obtain ⟨_, _, _, rfl, _⟩ := h
    rfl
  · obtain ⟨p, x, y, rfl, hp, q⟩ := h
    refine ⟨_, (pss_one (ps_ret (pe_and (pe_isi (C := "tuple") T.isinstance T.tuple (pv 0)) (pe_one (pe_cmpR op_eqI (pe_callB call_len_seq (by rfl) T.len (by decide +kernel) (pa_cons (pv 0) pa_nil)) pe_int (nomark _)))))), ?_⟩
    exact ⟨_, rfl, isi_of (.tup hp) kb_tt ⟨true, rfl, iteT ⟨_, rfl, p, _, rfl, .inr (SqT.of hp), 2, 2, rfl, rfl, blT (Q := Q) rfl q⟩⟩⟩
abbrev n_common_divisor : List Str := ["one", "other"]
theorem sc_common_divisor : FnScope n_common_divisor ["one", "other"] (defScope s_common_divisor) := ⟨rfl, rfl, rfl, by decide +kernel, rfl, by decide +kernel, by decide +kernel⟩
theorem abs_nat (i : Int) : (if i < 0 then -i else i) = (i.natAbs : Int) := by split <;> omega
theorem ok_common_divisor (D : Df K mg "common_divisor" s_common_divisor) (T : TX K mg) : Fk P w K mg base 1 "common_divisor" ["one", "other"] spGcd := by
  refine fk_of D sc_common_divisor (fun _ _ _ _ _ _ us hl => match us, hl with | [_, _], _ => rfl) (fun vs H Q E h => ?_) (fun f cdv A outer s H vs Q E hr h => ?_)
  · obtain ⟨_, _, rfl, _⟩ := h
    rfl
  · obtain ⟨a, b, rfl, q⟩ := h
    refine ⟨_, (pss_cons (ps_set (i := 0) sc_common_divisor.nd rfl (Or.inl rfl) (pe_callB call_abs (by rfl) T.abs (by decide +kernel) (pa_cons (pv 0) pa_nil)))
      (pss_cons (ps_set (i := 1) sc_common_divisor.nd rfl (Or.inl rfl) (pe_callB call_abs (by rfl) T.abs (by decide +kernel) (pa_cons (pv 1) pa_nil)))
      (pss_cons (ps_while PassesOwn.never (pt_cmpR op_gt (pv 1) pe_int (nomark _)) (pss_one (ps_par (i := 0) (j := 1) (by rfl) sc_common_divisor.nd rfl rfl (by decide) rfl rfl (pa_cons (pv 1) (pa_cons (pe_op op_mod (pv 0) (pv 1)) pa_nil)) (by rfl))))
      (pss_one (ps_ret (pv 0)))))), ?_⟩
    refine ⟨_, rfl, a, rfl, _, rfl, b, rfl, ?_⟩
    rw [abs_nat, abs_nat]
    refine while_by (fun σ H' => ∃ x y : Nat, σ = [some (.int x), some (.int y)] ∧ Nat.gcd x y = Nat.gcd a.natAbs b.natAbs ∧ H' = H) (fun σ _ => match σ with | [_, some (.int y)] => y.natAbs | _ => 0) ⟨_, _, rfl, rfl, rfl⟩ ?_ (fun σ H Q Q' hq ⟨v, e, i, j, e1, e2, k, e3, q⟩ => ⟨v, e, i, j, e1, e2, k, e3, hq _ _ q⟩)
    rintro σ H' ⟨x, y, rfl, hg, rfl⟩
    refine ⟨_, rfl, (y : Int), 0, rfl, rfl, _, rfl, ifD (fun hy => ?_) fun hy => ?_⟩
    · refine ⟨_, rfl, _, rfl, _, rfl, (x : Int), (y : Int), rfl, rfl, hy, _, _, rfl, ⟨y, x % y, ?_, ?_, rfl⟩, ?_⟩
      · rw [Int.natCast_emod]; rfl
      · rw [gcd_step, hg]
      · show ((x : Int) % (y : Int)).natAbs < ((y : Int)).natAbs
        rw [← Int.natCast_emod, Int.natAbs_natCast, Int.natAbs_natCast]
        exact Nat.mod_lt _ (by omega)
    · have e0 : y = 0 := by omega
      subst e0
      refine ⟨_, rfl, ?_⟩
      rw [← hg, Nat.gcd_zero_right] at q
      exact q
abbrev n_is_share : List Str := ["thing"]
theorem sc_is_share : FnScope n_is_share ["thing"] (defScope s_is_share) := ⟨rfl, rfl, rfl, by decide +kernel, rfl, by decide +kernel, by decide +kernel⟩
theorem ok_is_share (D : Df K mg "is_share" s_is_share) (T : TX K mg) (g_is_integer : Fk P w K mg base 1 "is_integer" ["thing"] spIsInteger) (g_is_pair : Fk P w K mg base 1 "is_pair" ["thing"] spIsPair) (g_is_from : Fk P w K mg base 2 "is_from" ["thing", "least"] spIsFrom)
    (g_common_divisor : Fk P w K mg base 1 "common_divisor" ["one", "other"] spGcd) : Fk P w K mg base 3 "is_share" ["thing"] spIsShare := by
  refine fk_of D sc_is_share (fun _ _ _ _ _ _ us hl => match us, hl with | [_], _ => rfl) (fun vs H Q E h => ?_) (fun f cdv A outer s H vs Q E hr h => ?_)
  · obtain ⟨_, _, _, rfl, _⟩ := h
    rfl
  · obtain ⟨p, a, b, rfl, hp, hs, q⟩ := h
    refine ⟨_, (pss_cons (ps_if (PW.pt (pw_or (pt_not (pt_val (pe_fk g_is_pair hr (by rfl) (pa_cons (pv 0) pa_nil)))) (pw_or (pt_not (pt_val (pe_fk g_is_integer hr (by rfl) (pa_cons (pe_ix ix_tup (pv 0) pe_int (fun _ _ => rfl)) pa_nil)))) (pw_or1 (pt_not (pt_val (pe_fk g_is_from hr (by rfl) (pa_cons (pe_ix ix_tup (pv 0) pe_int (fun _ _ => rfl)) (pa_cons pe_int pa_nil))))))))) (pss_one (ps_ret pe_bl)) pss_nil)
      (pss_one (ps_ret (pe_cmpR op_eqI (pe_fk g_common_divisor hr (by rfl) (pa_cons (pe_ix ix_tup (pv 0) pe_int (fun _ _ => rfl)) (pa_cons (pe_ix ix_tup (pv 0) pe_int (fun _ _ => rfl)) pa_nil))) pe_int (nomark _))))), ?_⟩
    refine ⟨_, rfl, p, a, b, rfl, hp, true, rfl, iteF ?_⟩
    refine ⟨_, rfl, p, _, 0, .int a, rfl, rfl, SqT.of hp, atI_nat (j := 0) rfl, a, rfl, true, rfl, iteF ?_⟩
    refine ⟨_, rfl, p, _, 1, .int b, rfl, rfl, SqT.of hp, atI_nat (j := 1) rfl, b, 1, rfl, hs.b1, true, rfl, iteF ?_⟩
    refine ⟨_, rfl, p, _, 0, .int a, rfl, rfl, SqT.of hp, atI_nat (j := 0) rfl, _, rfl, p, _, 1, .int b, rfl, rfl, SqT.of hp, atI_nat (j := 1) rfl, a, b, rfl, _, 1, rfl, rfl, blT (Q := Q) ?_ q⟩
    rw [hs.co]
    rfl
abbrev n_check_share : List Str := ["thing"]
theorem sc_check_share : FnScope n_check_share ["thing"] (defScope s_check_share) := ⟨rfl, rfl, rfl, by decide +kernel, rfl, by decide +kernel, by decide +kernel⟩
theorem ok_check_share (D : Df K mg "check_share" s_check_share) (T : TX K mg) (g_is_share : Fk P w K mg base 3 "is_share" ["thing"] spIsShare) : Fk P w K mg base 4 "check_share" ["thing"] spCheckShare := by
  refine fk_of D sc_check_share (fun _ _ _ _ _ _ us hl => match us, hl with | [_], _ => rfl) (fun vs H Q E h => ?_) (fun f cdv A outer s H vs Q E hr h => ?_)
  · obtain ⟨_, _, _, rfl, _⟩ := h
    rfl
  · obtain ⟨p, a, b, rfl, hp, hs, q⟩ := h
    refine ⟨_, (pss_one (ps_if (pt_not (pt_val (pe_fk g_is_share hr (by rfl) (pa_cons (pv 0) pa_nil)))) (pss_one ps_never) pss_nil)), ?_⟩
    exact ⟨_, rfl, p, a, b, rfl, hp, hs, true, rfl, iteF q⟩
abbrev n_is_event : List Str := ["thing", "standings"]
theorem sc_is_event : FnScope n_is_event ["thing", "standings"] (defScope s_is_event) := ⟨rfl, rfl, rfl, by decide +kernel, rfl, by decide +kernel, by decide +kernel⟩
theorem ok_is_event (D : Df K mg "is_event" s_is_event) (T : TX K mg) (g_is_within : Fk P w K mg base 2 "is_within" ["thing", "least", "most"] spIsWithin) : Fk P w K mg base 3 "is_event" ["thing", "standings"] spIsEvent := by
  refine fk_of D sc_is_event (fun _ _ _ _ _ _ us hl => match us, hl with | [_, _], _ => rfl) (fun vs H Q E h => ?_) (fun f cdv A outer s H vs Q E hr h => ?_)
  · obtain ⟨_, _, _, rfl, _⟩ := h
    rfl
  · obtain ⟨p, e, n, rfl, hp, ⟨o1, o2, o3, o4, o5, o6⟩, q⟩ := h
    refine ⟨_, (pss_cons (ps_if (PW.pt (pw_or (pt_not (pt_val (pe_isi (C := "tuple") T.isinstance T.tuple (pv 0)))) (pw_or1 (pt_cmpR op_neI (pe_callB call_len_seq (by rfl) T.len (by decide +kernel) (pa_cons (pv 0) pa_nil)) pe_int (nomark _))))) (pss_one (ps_ret pe_bl)) pss_nil)
      (pss_cons (ps_if (PW.pt (pw_or (pt_not (pt_val (pe_fk g_is_within hr (by rfl) (pa_cons (pe_ix ix_tup (pv 0) pe_int (fun _ _ => rfl)) (pa_cons pe_int (pa_cons (pe_op op_sub (pv 1) pe_int) pa_nil)))))) (pw_or1 (pt_not (pt_val (pe_fk g_is_within hr (by rfl) (pa_cons (pe_ix ix_tup (pv 0) pe_int (fun _ _ => rfl)) (pa_cons pe_int (pa_cons (pe_op op_sub (pv 1) pe_int) pa_nil))))))))) (pss_one (ps_ret pe_bl)) pss_nil)
      (pss_one (ps_ret (pe_and (pe_fk g_is_within hr (by rfl) (pa_cons (pe_ix ix_tup (pv 0) pe_int (fun _ _ => rfl)) (pa_cons pe_int (pa_cons (pe_cint T.MOST_TRIES_machines rfl) pa_nil)))) (pe_one (pe_fk g_is_within hr (by rfl) (pa_cons (pe_ix ix_tup (pv 0) pe_int (fun _ _ => rfl)) (pa_cons (pe_un un_neg (pe_cint T.MOST_POINTS rfl)) (pa_cons (pe_cint T.MOST_POINTS rfl) pa_nil)))))))))), ?_⟩
    have hp : H p = some (.tup [.int (e.b : Nat), .int (e.a : Nat), .int (e.t : Nat), .int e.p]) := hp
    refine ⟨_, rfl, isi_of (.tup hp) kb_tt ⟨true, rfl, iteF ?_⟩⟩
    refine ⟨_, rfl, p, _, rfl, .inr (SqT.of hp), 4, 4, rfl, rfl, _, rfl, ifNF rfl ?_⟩
    refine ⟨_, rfl, p, _, 0, _, rfl, rfl, SqT.of hp, atI_nat (j := 0) rfl, _, rfl, (n : Int), 1, rfl, rfl, (e.b : Int), 0, (n : Int) - 1, rfl, by omega, by omega, true, rfl, iteF ?_⟩
    refine ⟨_, rfl, p, _, 1, _, rfl, rfl, SqT.of hp, atI_nat (j := 1) rfl, _, rfl, (n : Int), 1, rfl, rfl, (e.a : Int), 0, (n : Int) - 1, rfl, by omega, by omega, true, rfl, iteF ?_⟩
    refine ⟨_, rfl, p, _, 2, _, rfl, rfl, SqT.of hp, atI_nat (j := 2) rfl, (e.t : Int), 1, 40, rfl, by omega, by omega, true, rfl, iteT ?_⟩
    exact ⟨_, rfl, p, _, 3, _, rfl, rfl, SqT.of hp, atI_nat (j := 3) rfl, 400, rfl, e.p, -400, 400, rfl, by omega, by omega, q⟩
end
end Nl
namespace Nl
open PySem PySem.Spec PyProof.Rows L2
/-! ### a machine is made -/
structure Dm (K : PySem.W.Frag) (m q : Str) (st : Stmt) (f : Addr) : Prop where
  ex : ∃ fd : FuncData, FunD K m q (defArgs st) (defBody st) (defScope st) [] [] f fd
abbrev mC (K : PySem.W.Frag) : Addr := He.ga K "Machine"
theorem outs_snoc (l : List Ev) (e : Ev) (q : Nat) : outs (l ++ [e]) q = outs l q ++ (if e.b = q then [l.length] else []) := by
  unfold outs
  rw [List.length_append, List.length_singleton, List.range_succ, List.filter_append]
  have h1 : List.filter (fun j => isOut q (l ++ [e])[j]?) (List.range l.length) = List.filter (fun j => isOut q l[j]?) (List.range l.length) := by
    refine List.filter_congr fun j hj => ?_
    rw [List.getElem?_append_left (List.mem_range.mp hj)]
  have h2 : (l ++ [e])[l.length]? = some e := by rw [List.getElem?_append_right (Nat.le_refl _), Nat.sub_self]; rfl
  rw [h1, List.filter_cons, List.filter_nil, h2]
  by_cases h : e.b = q
  · rw [if_pos h, if_pos (show isOut q (some e) = true from decide_eq_true h)]
  · rw [if_neg h, if_neg (show ¬ isOut q (some e) = true from fun z => h (of_decide_eq_true z))]
theorem take_snoc {α : Type} {l : List α} {i : Nat} {x : α} (h : l[i]? = some x) : l.take (i + 1) = l.take i ++ [x] := by
  rw [List.take_add_one, h]
  rfl
/-- a machine whose lists are new since H0 -/
structure MachX (C : Addr) (H0 H : Hp) (p : Addr) (n : Nat) (es : List Ev) : Prop where
  ex : ∃ (dx ea ko : Addr) (ks : List Addr) (fs : List (Str × V)), H p = some (.ins C dx fs) ∧ fs.lookup ("events" : Str) = some (.ref ea) ∧ fs.lookup ("kept_out" : Str) = some (.ref ko) ∧ EvsAt H ea es ∧
    H ko = some (.lst (ks.map V.ref)) ∧ ks.length = n ∧ (∀ q, q < n → ∃ k, ks[q]? = some k ∧ H k = some (.lst ((outs es q).map fun j => V.int (j : Nat)))) ∧ H0 ko = none ∧ ∀ k ∈ ks, H0 k = none
theorem MachX.at {C : Addr} {H0 H : Hp} {p : Addr} {n : Nat} {es : List Ev} (h : MachX C H0 H p n es) : MachAt C H p n es := by
  obtain ⟨dx, ea, ko, ks, fs, h1, h2, h3, h4, h5, h6, h7, _⟩ := h.ex
  exact ⟨dx, ea, ko, ks, fs, h1, h2, h3, h4, h5, h6, h7⟩
theorem MachX.back {C : Addr} {H0 H1 H : Hp} {p : Addr} {n : Nat} {es : List Ev} (h : MachX C H1 H p n es) (s : Same H0 H1) : MachX C H0 H p n es := by
  obtain ⟨dx, ea, ko, ks, fs, h1, h2, h3, h4, h5, h6, h7, h8, h9⟩ := h.ex
  exact ⟨dx, ea, ko, ks, fs, h1, h2, h3, h4, h5, h6, h7, s.free h8, fun k hk => s.free (h9 k hk)⟩
/-- behind keep: the machine stands at p, all else as it was -/
def spKeep (K : PySem.W.Frag) : Sp := fun vs H Q _ => ∃ (p dx ea : Addr) (n : Nat) (es : List Ev), vs = [.ref p, .int n, .ref ea] ∧ H p = some (.ins (mC K) dx []) ∧ EvsAt H ea es ∧ n ≤ 12 ∧ es.length ≤ 30 ∧ (∀ e ∈ es, e.b < n) ∧
  ∀ H' : Hp, (∀ b o, H b = some o → b ≠ p → H' b = some o) → MachX (mC K) H H' p n es → Q .non H'
def spInit (K : PySem.W.Frag) : Sp := fun vs H Q _ => ∃ (p dx ea : Addr) (n : Nat) (es : List Ev), vs = [.ref p, .int n, .ref ea] ∧ H p = some (.ins (mC K) dx []) ∧ EvsAt H ea es ∧ 1 ≤ n ∧ n ≤ 12 ∧ es.length ≤ 30 ∧ (∀ e ∈ es, EvOk n e) ∧
  ∀ H' : Hp, (∀ b o, H b = some o → b ≠ p → H' b = some o) → MachX (mC K) H H' p n es → Q .non H'
theorem ek_ : ¬ (("events" : Str) = "kept_out") := by decide +kernel
theorem ek2_ : ¬ (("kept_out" : Str) = "events") := by decide +kernel
section
variable {P : Program} {w : World} {K : PySem.W.Frag} {mg : Str → Option Value} {base : Heap}
abbrev n_M_keep : List Str := ["self", "standings", "events", "number", "event", "standing"]
theorem sc_M_keep : FnScope n_M_keep ["self", "standings", "events"] (defScope s_M_keep) := ⟨rfl, rfl, rfl, by decide +kernel, rfl, by decide +kernel, by decide +kernel⟩
theorem ok_keep {f : Addr} {fd : FuncData} (F : FunD K "keep" "Machine.keep" (defArgs s_M_keep) (defBody s_M_keep) (defScope s_M_keep) [] [] f fd) (T : TX K mg) : FnOk P w K mg base CX0 1 f fd ["self", "standings", "events"] (spKeep K) := by
  refine F.ok sc_M_keep (fun vs H Q E h => ?_) (fun cdv A outer s H vs Q E hr h => ?_)
  · obtain ⟨_, _, _, _, _, rfl, _⟩ := h
    rfl
  · obtain ⟨p, dx, ea, n, es, rfl, hp, hev, hn, hel, heb, q⟩ := h
    refine ⟨_, PSs.nox (pss_cons (ps_fld (pv 0) (pv 1) rfl)
      (pss_cons (ps_fld (pv 0) (pv 2) rfl)
      (pss_cons (ps_fld (pv 0) (pe_lc (own := [("standing", 5)]) (g := gName 5) (tt := tYes) (by rfl) sc_M_keep.nd (pi_range1 (by rfl) T.range (pa_cons (pv 1) pa_nil)) (blkOk_by (own := [("standing", 5)]) (N := n_M_keep) (sc := defScope s_M_keep) (by decide +kernel)) (fun _ _ _ _ _ => (pg_name (i := 5) sc_M_keep.nd rfl (Or.inl rfl))) (fun _ _ _ _ _ => pts_nil) (fun _ _ _ _ _ => (pe_lst pa_nil))) rfl)
      (pss_one (ps_for PassesOwn.never (by rfl) (pi_enumT (by rfl) T.enumerate (pa_cons (pv 2) pa_nil)) (pg_tup rfl (pgs_cons (pg_name (i := 3) sc_M_keep.nd rfl (Or.inl rfl)) (pgs_cons (pg_name (i := 4) sc_M_keep.nd rfl (Or.inl rfl)) pgs_nil)))
       (pss_one (ps_expr (pe_bm PySem.F.plainAttrs_list PySem.F.slot_list_append PySem.F.type_list_append mt_append (pe_ix ix_list (pe_fld (pv 0) rfl) (pe_ix ix_tup (pv 4) pe_int (fun _ _ => rfl)) (fun _ _ => rfl)) (pa_cons (pv 3) pa_nil))))))))), ?_⟩
    obtain ⟨as, ha, hal, hat⟩ := hev.ex
    have npe : ea ≠ p := ne_of ha hp (by intro z; cases z)
    refine ⟨_, rfl, _, rfl, p, _, dx, [], rfl, hp, T.cl, T.nSt, (by show 0 < 1000; decide), ?_⟩
    refine ⟨_, rfl, _, rfl, p, _, dx, _, rfl, upd_same, T.cl, T.nEv, (by show 1 < 1000; decide), ?_⟩
    -- the heap ahead of the lists
    generalize hfs : putF "events" (V.ref ea) (putF "standings" (V.int n) []) = fs2
    generalize hH2 : upd (upd H p (.ins (mC K) dx (putF "standings" (V.int n) []))) p (.ins (mC K) dx fs2) = H2
    have hp2 : H2 p = some (.ins (mC K) dx fs2) := by rw [← hH2, upd_same]
    have off2 : ∀ b, b ≠ p → H2 b = H b := fun b hb => by rw [← hH2, upd_ne hb, upd_ne hb]
    refine ⟨_, rfl, (n : Int), rfl, by omega, by omega, fun Dl nD => lc_range (lo := 0) (n := (n : Int).toNat) (fun i H' => ∃ ks : List Addr, Same H2 H' ∧ H' Dl = some (.lst (ks.map V.ref)) ∧ ks.length = i ∧ ks.Nodup ∧ Dl ∉ ks ∧ ∀ k ∈ ks, H' k = some (.lst []) ∧ H2 k = none)
      ⟨[], same_new nD, upd_same, rfl, List.nodup_nil, by simp, fun k hk => by cases hk⟩ ?_ ?_⟩
    · rintro i H' hi ⟨ks, sm, hD, hl, nd, hDk, hk⟩
      refine ⟨rfl, ⟨Nat.zero_le _, fun k nk => ⟨ks.map V.ref, ?_, ?_, ks ++ [k], ?_, ?_, ?_, ?_, ?_, ?_⟩⟩⟩
      · rw [upd_ne (ne_of_none hD nk)]; exact hD
      · rw [List.length_map]; exact lt_line (by omega)
      · intro b o e
        have nbD : b ≠ Dl := fun z => by rw [z, nD] at e; cases e
        rw [upd_ne nbD, upd_ne (ne_of_none (sm _ _ e) nk)]
        exact sm _ _ e
      · rw [upd_same, List.map_append]; rfl
      · rw [List.length_append, List.length_singleton, hl]
      · refine List.nodup_append.mpr ⟨nd, by simp, fun a ha b hb => ?_⟩
        rw [List.mem_singleton.mp hb]
        exact ne_of_none (hk a ha).1 nk
      · intro z
        rcases List.mem_append.mp z with z | z
        · exact hDk z
        · exact ne_of_none hD nk (List.mem_singleton.mp z)
      · intro b hb
        rcases List.mem_append.mp hb with z | z
        · have nb : b ≠ Dl := fun y => hDk (y ▸ z)
          rw [upd_ne nb, upd_ne (ne_of_none (hk b z).1 nk)]
          exact hk b z
        · rw [List.mem_singleton.mp z]
          refine ⟨by rw [upd_ne (ne_of_none hD nk).symm, upd_same], ?_⟩
          exact sm.free nk
    · rintro H3 ⟨ks, sm, hD, hl, nd, hDk, hk⟩
      have hl : ks.length = n := by rw [hl]; omega
      have hp3 := sm _ _ hp2
      have npD : Dl ≠ p := fun z => by rw [z, hp2] at nD; cases nD
      refine ⟨_, rfl, p, _, dx, _, rfl, hp3, T.cl, T.nKo, (by rw [← hfs]; show 2 < 1000; decide), ?_⟩
      generalize hfs3 : putF "kept_out" (V.ref Dl) fs2 = fs3
      generalize hH4 : upd H3 p (.ins (mC K) dx fs3) = H4
      have hp4 : H4 p = some (.ins (mC K) dx fs3) := by rw [← hH4, upd_same]
      have off4 : ∀ b, b ≠ p → H4 b = H3 b := fun b hb => by rw [← hH4, upd_ne hb]
      have lko : fs3.lookup ("kept_out" : Str) = some (.ref Dl) := by rw [← hfs3, lookup_putF, if_pos rfl]
      have lev : fs3.lookup ("events" : Str) = some (.ref ea) := by rw [← hfs3, lookup_putF, if_neg ek_, ← hfs, lookup_putF, if_pos rfl]
      have hD4 : H4 Dl = some (.lst (ks.map V.ref)) := by rw [off4 _ npD]; exact hD
      have keep4 : ∀ b o, H b = some o → b ≠ p → H4 b = some o := fun b o e hb => by rw [off4 _ hb]; exact sm _ _ (by rw [off2 _ hb]; exact e)
      have hk4 : ∀ k ∈ ks, H4 k = some (.lst []) ∧ H k = none := fun k h => by
        have nkp : k ≠ p := fun z => by
          have := (hk k h).2
          rw [z, hp2] at this
          cases this
        exact ⟨by rw [off4 _ nkp]; exact (hk k h).1, by rw [← off2 _ nkp]; exact (hk k h).2⟩
      have ha4 := keep4 _ _ ha npe
      have DnotK : Dl ∉ ks := hDk
      refine ⟨_, rfl, ea, as.map V.ref, rfl, ha4, for_it walk_enumT (fun i σ H' => ∃ v3 v4 v5, σ = [some (.ref p), some (.int n), some (.ref ea), v3, v4, v5] ∧ (∀ b o, H4 b = some o → b ∉ ks → H' b = some o) ∧
          ∀ (q : Nat) (k : Addr), ks[q]? = some k → H' k = some (.lst ((outs (es.take i) q).map fun j => V.int (j : Nat))))
        ⟨none, none, none, rfl, fun b o e _ => e, fun q k hq => (hk4 k (List.mem_of_getElem? hq)).1⟩ (fun i σ H' _ ⟨_, _, _, _, h1, _⟩ => h1 _ _ ha4 fun z => ?_) ?_ ?_⟩
      · have := (hk4 _ z).1
        rw [ha4] at this
        cases this
      · rintro i x σ H' H'' hi ⟨v3, v4, v5, rfl, h1, h2⟩ ⟨Tt, y, rfl, nT, rfl, hy⟩
        rw [List.length_map] at hi
        obtain ⟨ax, hax, rfl⟩ := of_map_get hy
        have hie : i < es.length := by omega
        obtain ⟨e, he⟩ : ∃ e, es[i]? = some e := ⟨es[i], List.getElem?_eq_getElem hie⟩
        obtain ⟨ax', g1, g2⟩ := hat i e he
        rw [hax] at g1
        cases g1
        have nap : ax ≠ p := ne_of g2 hp (by intro z; cases z)
        have g4 := keep4 _ _ g2 nap
        have nak : ax ∉ ks := fun z => by
          have := (hk4 _ z).1
          rw [g4] at this
          cases this
        have g5 := h1 _ _ g4 nak
        have hp5 := h1 _ _ hp4 (fun z => by
          have := (hk4 _ z).1
          rw [hp4] at this
          cases this)
        have hD5 := h1 _ _ hD4 DnotK
        have hbq : e.b < ks.length := by rw [hl]; exact heb e (List.mem_of_getElem? he)
        obtain ⟨k, hkq⟩ : ∃ k, ks[e.b]? = some k := ⟨ks[e.b], List.getElem?_eq_getElem hbq⟩
        have hkv := h2 e.b k hkq
        have smT : Same H' (upd H' Tt (.tup [.int (i : Nat), .ref ax])) := same_new nT
        refine ⟨Tt, _, rfl, SqT.of upd_same, rfl, _, _, rfl, _, _, rfl, rfl, ?_⟩
        refine ⟨_, rfl, p, _, dx, _, _, rfl, smT _ _ hp5, T.cl, T.nKo, lko, _, rfl, ax, _, 0, _, rfl, rfl, SqT.of (smT _ _ g5), atI_nat (j := 0) rfl, Dl, _, (e.b : Int), .ref k, rfl, rfl, SqL.of (smT _ _ hD5), at_of rfl (map_get hkq), .inl ⟨rfl, _, SqL.of (smT _ _ hkv)⟩, _, rfl, k, _, _, rfl, rfl, smT _ _ hkv, ?_, ?_⟩
        · rw [List.length_map]
          have := outs_len (es.take i) e.b
          rw [List.length_take] at this
          exact lt_line (by omega)
        · refine ⟨_, _, _, rfl, fun b o hb hbk => ?_, fun q2 k2 hq2 => ?_⟩
          · have nbk : b ≠ k := fun z => hbk (by rw [z]; exact List.mem_of_getElem? hkq)
            rw [upd_ne nbk]
            exact smT _ _ (h1 b o hb hbk)
          · rw [take_snoc he, outs_snoc]
            by_cases hqq : e.b = q2
            · subst hqq
              rw [hkq] at hq2
              cases hq2
              rw [upd_same, if_pos rfl, List.map_append, List.length_take, Nat.min_eq_left (Nat.le_of_lt hie)]
              rfl
            · have nk2 : k2 ≠ k := fun z => hqq (nd_ix nd hkq (by rw [← z]; exact hq2))
              rw [upd_ne nk2, if_neg hqq, List.append_nil]
              exact smT _ _ (h2 q2 k2 hq2)
      · rintro σ H' ⟨v3, v4, v5, rfl, h1, h2⟩
        rw [List.length_map, hal] at h2
        rw [List.take_length] at h2
        refine q H' (fun b o e hb => h1 b o (keep4 b o e hb) fun z => ?_) ⟨dx, ea, Dl, ks, fs3, h1 _ _ hp4 (fun z => ?_), lev, lko, ⟨as, h1 _ _ ha4 (fun z => ?_), hal, fun j e he => ?_⟩, h1 _ _ hD4 DnotK, hl, fun q2 hq2 => ?_, by rw [← off2 _ npD]; exact nD, fun k hk => (hk4 k hk).2⟩
        · rw [(hk4 _ z).2] at e
          cases e
        · have := (hk4 _ z).1
          rw [hp4] at this
          cases this
        · have := (hk4 _ z).1
          rw [ha4] at this
          cases this
        · obtain ⟨x, g1, g2⟩ := hat j e he
          refine ⟨x, g1, h1 _ _ (keep4 _ _ g2 (ne_of g2 hp (by intro z; cases z))) fun z => ?_⟩
          have := (hk4 _ z).2
          rw [show H x = _ from g2] at this
          cases this
        · obtain ⟨k, hkq⟩ : ∃ k, ks[q2]? = some k := ⟨ks[q2], List.getElem?_eq_getElem (by omega)⟩
          exact ⟨k, hkq, h2 q2 k hkq⟩
abbrev n_M_init : List Str := ["self", "standings", "events", "number", "thing"]
theorem sc_M_init : FnScope n_M_init ["self", "standings", "events"] (defScope s_M_init) := ⟨rfl, rfl, rfl, by decide +kernel, rfl, by decide +kernel, by decide +kernel⟩
theorem lk_none (m : Str) : ([] : List (Str × V)).lookup m = none := rfl
theorem ok_init {f fK : Addr} {fd fdK : FuncData} (F : FunD K "__init__" "Machine.__init__" (defArgs s_M_init) (defBody s_M_init) (defScope s_M_init) [] [] f fd) (T : TX K mg) (gK : FnOk P w K mg base CX0 1 (He.ma K (He.ga K "Machine") "keep") fdK ["self", "standings", "events"] (spKeep K)) (bK : Binds K fdK ["self", "standings", "events"] [])
    (g_is_within : Fk P w K mg base 2 "is_within" ["thing", "least", "most"] spIsWithin) (g_is_event : Fk P w K mg base 3 "is_event" ["thing", "standings"] spIsEvent) : FnOk P w K mg base CX0 4 f fd ["self", "standings", "events"] (spInit K) := by
  refine F.ok sc_M_init (fun vs H Q E h => ?_) (fun cdv A outer s H vs Q E hr h => ?_)
  · obtain ⟨_, _, _, _, _, rfl, _⟩ := h
    rfl
  · obtain ⟨p, dx, ea, n, es, rfl, hp, hev, h1n, hn, hel, heo, q⟩ := h
    have hr1 : Room 1 _ := hr.mono (by decide)
    refine ⟨_, PSs.nox (pss_cons (ps_if (pt_not (pt_val (pe_fk g_is_within hr (by rfl) (pa_cons (pv 1) (pa_cons pe_int (pa_cons (pe_cint T.MOST_STANDINGS rfl) pa_nil)))))) (pss_one ps_never) pss_nil)
      (pss_cons (ps_if (PW.pt (pw_or (pt_not (pt_val (pe_isi (C := "tuple") T.isinstance T.tuple (pv 2)))) (pw_or1 (pt_cmpR op_gt (pe_callB call_len_seq (by rfl) T.len (by decide +kernel) (pa_cons (pv 2) pa_nil)) (pe_cint T.MOST_EVENTS rfl) (nomark _))))) (pss_one ps_never) pss_nil)
      (pss_cons (ps_for PassesOwn.never (by rfl) (pi_enumT (by rfl) T.enumerate (pa_cons (pv 2) pa_nil)) (pg_tup rfl (pgs_cons (pg_name (i := 3) sc_M_init.nd rfl (Or.inl rfl)) (pgs_cons (pg_name (i := 4) sc_M_init.nd rfl (Or.inl rfl)) pgs_nil)))
       (pss_one (ps_if (pt_not (pt_val (pe_fk g_is_event hr (by rfl) (pa_cons (pv 4) (pa_cons (pv 1) pa_nil))))) (pss_one ps_never) pss_nil)))
      (pss_one (ps_expr (pe_meth (pv 0) T.cl T.mK gK hr1 bK .nil pass0 (pa_cons (pv 1) (pa_cons (pv 2) pa_nil)))))))), ?_⟩
    obtain ⟨as, ha, hal, hat⟩ := hev.ex
    refine ⟨_, rfl, (n : Int), 1, 12, rfl, by omega, by omega, true, rfl, iteF ?_⟩
    refine ⟨_, rfl, isi_of (.tup ha) kb_tt ⟨true, rfl, iteF ?_⟩⟩
    refine ⟨_, rfl, ea, _, rfl, .inr (SqT.of ha), _, 30, rfl, rfl, _, rfl, ifF (by rw [List.length_map]; omega) ?_⟩
    refine ⟨_, rfl, ea, as.map V.ref, rfl, ha, for_it walk_enumT (fun i σ H' => ∃ v3 v4, σ = [some (.ref p), some (.int n), some (.ref ea), v3, v4] ∧ Same H H') ⟨none, none, rfl, Same.refl H⟩ (fun i σ H' _ ⟨_, _, _, h1⟩ => h1 _ _ ha) ?_ ?_⟩
    · rintro i x σ H' H'' hi ⟨v3, v4, rfl, sm⟩ ⟨Tt, y, rfl, nT, rfl, hy⟩
      rw [List.length_map] at hi
      obtain ⟨ax, hax, rfl⟩ := of_map_get hy
      have hie : i < es.length := by omega
      obtain ⟨ax', g1, g2⟩ := hat i es[i] (List.getElem?_eq_getElem hie)
      rw [hax] at g1
      cases g1
      have smT : Same H (upd H' Tt (.tup [.int (i : Nat), .ref ax])) := sm.trans (same_new nT)
      refine ⟨Tt, _, rfl, SqT.of upd_same, rfl, _, _, rfl, _, _, rfl, rfl, ?_⟩
      exact ⟨_, rfl, _, rfl, ax, es[i], n, rfl, smT _ _ g2, heo _ (List.getElem_mem hie), true, rfl, iteF ⟨_, _, rfl, smT⟩⟩
    · rintro σ H' ⟨v3, v4, rfl, sm⟩
      refine ⟨_, rfl, p, dx, _, rfl, sm _ _ hp, rfl, _, rfl, _, rfl, p, dx, ea, n, es, rfl, sm _ _ hp, hev.same sm, hn, hel, fun e he => (heo e he).1, fun H3 k1 k2 => ?_⟩
      exact q H3 (fun b o e hb => k1 b o (sm _ _ e) hb) (k2.back sm)
end
end Nl
namespace Nl
open PySem PySem.Spec PyProof.Rows L2
/-! ### in the midst of a run -/
structure Mid (es : List Ev) (g : Nat → Int → Int) (t0 : Nat) (s0 : Sta) (t : Nat) (s : Sta) (l : List Nat) (i ti : Nat) (si : Sta) : Prop where
  ex : ∃ c c', Way es g t0 s0 ti si (l.take i) c ∧ Way es g ti si t s (l.drop i) c'
section
variable {es : List Ev} {g : Nat → Int → Int} {t0 t : Nat} {s0 s : Sta} {l : List Nat}
theorem Mid.zero {c : Int} (w : Way es g t0 s0 t s l c) : Mid es g t0 s0 t s l 0 t0 s0 := ⟨0, c, Way.nil, w⟩
theorem Mid.next {i ti : Nat} {si : Sta} (h : Mid es g t0 s0 t s l i ti si) {j : Nat} (hj : l[i]? = some j) : ∃ e, es[j]? = some e ∧ e.b = si.1 ∧ Mid es g t0 s0 t s l (i + 1) (ti + e.t) (e.a, si.2 + e.p) := by
  obtain ⟨c, c', w1, w2⟩ := h.ex
  have hl := (List.getElem?_eq_some_iff.mp hj).1
  have hd : l.drop i = j :: l.drop (i + 1) := by
    rw [List.drop_eq_getElem_cons hl]
    rw [List.getElem?_eq_getElem hl] at hj
    rw [Option.some.inj hj]
  obtain ⟨e, c2, k1, k2, k3, _⟩ := w2.uncons j _ hd
  have w3 := Way.snoc w1 k1 k2
  rw [← take_snoc hj] at w3
  exact ⟨e, k1, k2, _, _, w3, k3⟩
theorem Mid.last {ti : Nat} {si : Sta} (h : Mid es g t0 s0 t s l l.length ti si) : ti = t ∧ si = s := by
  obtain ⟨c, c', w1, w2⟩ := h.ex
  rw [List.drop_length] at w2
  obtain ⟨h1, h2, _⟩ := w2.of_nil rfl
  exact ⟨h1.symm, h2.symm⟩
theorem Mid.bds {i ti : Nat} {si : Sta} (h : Mid es g t0 s0 t s l i ti si) {j : Nat} (hj : l[i]? = some j) {e : Ev} (he : es[j]? = some e) : bds es t0 s0.2 (l.take (i + 1)) = bds es t0 s0.2 (l.take i) ++ [(ti + e.t, si.2 + e.p)] := by
  obtain ⟨c, c', w1, _⟩ := h.ex
  rw [take_snoc hj]
  exact bds_snoc w1 he
theorem Mid.bl {i ti : Nat} {si : Sta} (h : Mid es g t0 s0 t s l i ti si) : (Nl.bds es t0 s0.2 (l.take i)).length = (l.take i).length := by
  obtain ⟨c, c', w1, _⟩ := h.ex
  exact bds_len w1
end
theorem Way.evs {es : List Ev} {g : Nat → Int → Int} {t0 t : Nat} {s0 s : Sta} {l : List Nat} {c : Int} (w : Way es g t0 s0 t s l c) : ∀ j ∈ l, j < es.length := by
  induction w with
  | nil => intro j h; cases h
  | snoc w h hb ih =>
    intro j hj
    rcases List.mem_append.mp hj with q | q
    · exact ih j q
    · rw [List.mem_singleton.mp q]
      exact (List.getElem?_eq_some_iff.mp h).1
/-- one more board at the list's end -/
theorem BdsAt.push {H : Hp} {a : Addr} {bs : List (Nat × Int)} {as : List V} {k : Addr} {x : Nat} {y : Int} (h : BdsAt H a bs) (ha : H a = some (.lst as)) (nk : H k = none) :
    BdsAt (upd (upd H k (.tup [.int (x : Nat), .int y])) a (.lst (as ++ [.ref k]))) a (bs ++ [(x, y)]) := by
  obtain ⟨as', h1, h2, h3⟩ := h.ex
  rw [ha] at h1
  injection h1 with h1
  injection h1 with h1
  subst h1
  have nka : k ≠ a := (ne_of_none ha nk).symm
  refine ⟨as' ++ [k], by rw [upd_same, List.map_append]; rfl, by rw [List.length_append, List.length_append, h2]; rfl, fun i b e => ?_⟩
  rcases Nat.lt_or_ge i bs.length with hi | hi
  · rw [List.getElem?_append_left hi] at e
    obtain ⟨z, k1, k2⟩ := h3 i b e
    refine ⟨z, by rw [List.getElem?_append_left (by omega)]; exact k1, ?_⟩
    have k2 : H z = some (.tup [.int (b.1 : Nat), .int b.2]) := k2
    show upd _ _ _ z = _
    rw [upd_ne (ne_of k2 ha (by intro z; cases z)), upd_ne (ne_of_none k2 nk)]
    exact k2
  · rw [List.getElem?_append_right hi] at e
    have e0 : i - bs.length = 0 := by
      have := (List.getElem?_eq_some_iff.mp e).1
      rw [List.length_singleton] at this
      omega
    rw [e0] at e
    cases e
    refine ⟨k, by rw [List.getElem?_append_right (by omega), h2, e0]; rfl, ?_⟩
    show upd _ _ _ k = _
    rw [upd_ne nka, upd_same]
/-! ### promises -/
def spStepAt (K : PySem.W.Frag) : Sp := fun vs H Q _ => ∃ (m : Addr) (j n : Nat) (es : List Ev) (e : Ev), vs = [.ref m, .int j] ∧ MachAt (mC K) H m n es ∧ es[j]? = some e ∧ ∀ x, EvT H x e → Q (.ref x) H
def spIsEventOf (K : PySem.W.Frag) : Sp := fun vs H Q _ => ∃ (m : Addr) (j n : Nat) (es : List Ev), vs = [.ref m, .int j] ∧ MachAt (mC K) H m n es ∧ j < es.length ∧ Q (.bl true) H
def RunOk (K : PySem.W.Frag) (m r : Addr) (H : Hp) (es : List Ev) (l : List Nat) : Prop := ∃ (n t : Nat) (s : Sta) (c : Int), MachAt (mC K) H m n es ∧ RunT H r l ∧ Way es g0 0 (0, 0) t s l c ∧ l.length ≤ 1000
def spRunThere (K : PySem.W.Frag) : Sp := fun vs H Q _ => ∃ (m r : Addr) (es : List Ev) (l : List Nat), vs = [.ref m, .ref r] ∧ RunOk K m r H es l ∧ ∀ H', Same H H' → Q (.bl true) H'
def spCheckRun (K : PySem.W.Frag) : Sp := fun vs H Q _ => ∃ (m r : Addr) (es : List Ev) (l : List Nat), vs = [.ref m, .ref r] ∧ RunOk K m r H es l ∧ ∀ H', Same H H' → Q .non H'
def spBoards (K : PySem.W.Frag) : Sp := fun vs H Q _ => ∃ (m r : Addr) (es : List Ev) (l : List Nat), vs = [.ref m, .ref r] ∧ RunOk K m r H es l ∧ ∀ p H', Same H H' → BdsAt H' p (bds es 0 0 l) → Q (.ref p) H'
theorem RunOk.same {K : PySem.W.Frag} {m r : Addr} {H H' : Hp} {es : List Ev} {l : List Nat} (h : RunOk K m r H es l) (s : Same H H') : RunOk K m r H' es l := by
  obtain ⟨n, t, q, c, h1, h2, h3, h4⟩ := h
  exact ⟨n, t, q, c, h1.same s, s _ _ h2, h3, h4⟩
section
variable {P : Program} {w : World} {K : PySem.W.Frag} {mg : Str → Option Value} {base : Heap}
abbrev n_step_at : List Str := ["machine", "event"]
theorem sc_step_at : FnScope n_step_at ["machine", "event"] (defScope s_step_at) := ⟨rfl, rfl, rfl, by decide +kernel, rfl, by decide +kernel, by decide +kernel⟩
theorem ok_step_at (D : Df K mg "step_at" s_step_at) (T : TX K mg) : Fk P w K mg base 1 "step_at" ["machine", "event"] (spStepAt K) := by
  refine fk_of D sc_step_at (fun _ _ _ _ _ _ us hl => match us, hl with | [_, _], _ => rfl) (fun vs H Q E h => ?_) (fun f cdv A outer s H vs Q E hr h => ?_)
  · obtain ⟨_, _, _, _, _, rfl, _⟩ := h
    rfl
  · obtain ⟨m, j, n, es, e, rfl, hm, he, q⟩ := h
    refine ⟨_, (pss_one (ps_ret (pe_ix ix_tup (pe_fld (pv 0) rfl) (pv 1) (fun _ _ => rfl)))), ?_⟩
    obtain ⟨dx, ea, ko, ks, fs, h1, h2, h3, h4, h5, h6, h7⟩ := hm.ex
    obtain ⟨as, g1, g2, g3⟩ := h4.ex
    obtain ⟨x, g4, g5⟩ := g3 j e he
    exact ⟨_, rfl, m, _, dx, _, _, rfl, h1, T.cl, T.nEv, h2, _, rfl, ea, _, (j : Int), .ref x, rfl, rfl, SqT.of g1, at_of rfl (map_get g4), q x g5⟩
abbrev n_is_event_of : List Str := ["machine", "thing"]
theorem sc_is_event_of : FnScope n_is_event_of ["machine", "thing"] (defScope s_is_event_of) := ⟨rfl, rfl, rfl, by decide +kernel, rfl, by decide +kernel, by decide +kernel⟩
theorem ok_is_event_of (D : Df K mg "is_event_of" s_is_event_of) (T : TX K mg) (g_is_within : Fk P w K mg base 2 "is_within" ["thing", "least", "most"] spIsWithin) : Fk P w K mg base 3 "is_event_of" ["machine", "thing"] (spIsEventOf K) := by
  refine fk_of D sc_is_event_of (fun _ _ _ _ _ _ us hl => match us, hl with | [_, _], _ => rfl) (fun vs H Q E h => ?_) (fun f cdv A outer s H vs Q E hr h => ?_)
  · obtain ⟨_, _, _, _, rfl, _⟩ := h
    rfl
  · obtain ⟨m, j, n, es, rfl, hm, hj, q⟩ := h
    refine ⟨_, (pss_one (ps_ret (pe_fk g_is_within hr (by rfl) (pa_cons (pv 1) (pa_cons pe_int (pa_cons (pe_op op_sub (pe_callB call_len_seq (by rfl) T.len (by decide +kernel) (pa_cons (pe_fld (pv 0) rfl) pa_nil)) pe_int) pa_nil)))))), ?_⟩
    obtain ⟨dx, ea, ko, ks, fs, h1, h2, h3, h4, h5, h6, h7⟩ := hm.ex
    obtain ⟨as, g1, g2, g3⟩ := h4.ex
    refine ⟨_, rfl, _, rfl, m, _, dx, _, _, rfl, h1, T.cl, T.nEv, h2, ea, _, rfl, .inr (SqT.of g1), _, 1, rfl, rfl, (j : Int), 0, _, rfl, by omega, ?_, q⟩
    rw [List.length_map]
    omega
abbrev n_is_run_there : List Str := ["machine", "thing", "event", "standing"]
theorem sc_is_run_there : FnScope n_is_run_there ["machine", "thing"] (defScope s_is_run_there) := ⟨rfl, rfl, rfl, by decide +kernel, rfl, by decide +kernel, by decide +kernel⟩
theorem ok_is_run_there (D : Df K mg "is_run_there" s_is_run_there) (T : TX K mg) (g_is_event_of : Fk P w K mg base 3 "is_event_of" ["machine", "thing"] (spIsEventOf K)) (g_step_at : Fk P w K mg base 1 "step_at" ["machine", "event"] (spStepAt K)) :
    Fk P w K mg base 4 "is_run_there" ["machine", "thing"] (spRunThere K) := by
  refine fk_of D sc_is_run_there (fun _ _ _ _ _ _ us hl => match us, hl with | [_, _], _ => rfl) (fun vs H Q E h => ?_) (fun f cdv A outer s H vs Q E hr h => ?_)
  · obtain ⟨_, _, _, _, rfl, _⟩ := h
    rfl
  · obtain ⟨m, r, es, l, rfl, ⟨n, t, s, c, hm, hrt, hw, hll⟩, q⟩ := h
    refine ⟨_, (pss_cons (ps_if (PW.pt (pw_or (pt_not (pt_val (pe_isi (C := "tuple") T.isinstance T.tuple (pv 1)))) (pw_or1 (pt_not (pt_val (pe_callB (cr_all (by rfl)) (by rfl) T.all (by decide +kernel) (pa_cons (pe_lc (own := [("event", 2)]) (g := gName 2) (tt := tYes) (by rfl) sc_is_run_there.nd (pi_tup (pv 1)) (blkOk_by (own := [("event", 2)]) (N := n_is_run_there) (sc := defScope s_is_run_there) (by decide +kernel)) (fun _ _ _ _ _ => (pg_name (i := 2) sc_is_run_there.nd rfl (Or.inl rfl))) (fun _ _ _ _ _ => pts_nil) (fun _ _ _ _ _ => (pe_fk g_is_event_of hr (by rfl) (pa_cons (pv 0) (pa_cons (pv 2) pa_nil))))) pa_nil))))))) (pss_one (ps_ret pe_bl)) pss_nil)
      (pss_cons (ps_set (i := 3) sc_is_run_there.nd rfl (Or.inl rfl) pe_int)
      (pss_cons (ps_for PassesOwn.never (by rfl) (pi_tup (pv 1)) (pg_name (i := 2) sc_is_run_there.nd rfl (Or.inl rfl))
       (pss_cons (ps_if (pt_cmpR op_neI (pe_ix ix_tup (pe_fk g_step_at hr (by rfl) (pa_cons (pv 0) (pa_cons (pv 2) pa_nil))) pe_int (fun _ _ => rfl)) (pv 3) (nomark _)) (pss_one (ps_ret pe_bl)) pss_nil)
       (pss_one (ps_set (i := 3) sc_is_run_there.nd rfl (Or.inl rfl) (pe_ix ix_tup (pe_fk g_step_at hr (by rfl) (pa_cons (pv 0) (pa_cons (pv 2) pa_nil))) pe_int (fun _ _ => rfl))))))
      (pss_one (ps_ret pe_bl))))), ?_⟩
    have hrt : H r = some (.tup (l.map fun j => V.int (j : Nat))) := hrt
    refine ⟨_, rfl, isi_of (.tup hrt) kb_tt ⟨true, rfl, iteF ?_⟩⟩
    refine ⟨_, rfl, r, rfl, ⟨_, SqT.of hrt⟩, fun Dl nD => lc_it walk_tup (fun i H' => Same H H' ∧ H' Dl = some (.lst (((l.take i).map fun _ => true).map V.bl))) ⟨same_new nD, upd_same⟩ (fun i H' _ ⟨s1, _⟩ => SqT.of (s1 _ _ hrt)) ?_ ?_⟩
    · rintro i x H' H'' hi ⟨s1, hD⟩ ⟨rfl, hx⟩
      obtain ⟨j, hj, rfl⟩ := of_map_get hx
      refine ⟨rfl, _, rfl, _, rfl, m, j, n, es, rfl, hm.same s1, hw.evs j (List.mem_of_getElem? hj), _, hD, ?_, fun b o e => ?_, ?_⟩
      · rw [List.length_map, List.length_map, List.length_take]
        exact lt_line (by omega)
      · rw [upd_ne (ne_of_none e nD)]
        exact s1 _ _ e
      · rw [upd_same, take_snoc hj, List.map_append, List.map_append]
        rfl
    · rintro H1 ⟨s1, hD⟩
      refine ⟨Dl, _, rfl, SqL.of hD, true, ?_, iteF ?_⟩
      · rw [List.length_map, List.take_length]
        have : ∀ l : List Nat, (l.map fun _ => true).all id = true := fun l => by simp
        rw [this]
      refine ⟨_, rfl, r, rfl, ⟨_, SqT.of (s1 _ _ hrt)⟩, for_tup (fun i σ H' => ∃ v2 ti si, σ = [some (.ref m), some (.ref r), v2, some (.int (si.1 : Nat))] ∧ Mid es g0 0 (0, 0) t s l i ti si ∧ Same H H')
        ⟨none, 0, (0, 0), rfl, Mid.zero hw, s1⟩ (fun i σ H' _ ⟨_, _, _, _, _, s2⟩ => SqT.of (s2 _ _ hrt)) ?_ ?_⟩
      · rintro i x σ H' hx ⟨v2, ti, si, rfl, hmid, s2⟩
        obtain ⟨j, hj, rfl⟩ := of_map_get hx
        obtain ⟨e, he, hb, hmid2⟩ := hmid.next hj
        refine ⟨_, rfl, _, rfl, m, j, n, es, e, rfl, hm.same s2, he, fun x hx => ⟨x, _, 0, .int (e.b : Nat), rfl, rfl, SqT.of hx, atI_nat (j := 0) rfl, _, rfl, (e.b : Int), (si.1 : Int), rfl, rfl, _, rfl, ifNF (by rw [hb]) ?_⟩⟩
        exact ⟨_, rfl, _, rfl, m, j, n, es, e, rfl, hm.same s2, he, fun x hx => ⟨x, _, 1, .int (e.a : Nat), rfl, rfl, SqT.of hx, atI_nat (j := 1) rfl, _, _, _, rfl, hmid2, s2⟩⟩
      · rintro σ H' ⟨v2, ti, si, rfl, hmid, s2⟩
        exact q H' s2
abbrev n_check_run : List Str := ["machine", "thing"]
theorem sc_check_run : FnScope n_check_run ["machine", "thing"] (defScope s_check_run) := ⟨rfl, rfl, rfl, by decide +kernel, rfl, by decide +kernel, by decide +kernel⟩
theorem ok_check_run (D : Df K mg "check_run" s_check_run) (T : TX K mg) (g_is_run_there : Fk P w K mg base 4 "is_run_there" ["machine", "thing"] (spRunThere K)) : Fk P w K mg base 5 "check_run" ["machine", "thing"] (spCheckRun K) := by
  refine fk_of D sc_check_run (fun _ _ _ _ _ _ us hl => match us, hl with | [_, _], _ => rfl) (fun vs H Q E h => ?_) (fun f cdv A outer s H vs Q E hr h => ?_)
  · obtain ⟨_, _, _, _, rfl, _⟩ := h
    rfl
  · obtain ⟨m, r, es, l, rfl, hk, q⟩ := h
    refine ⟨_, (pss_one (ps_if (pt_not (pt_val (pe_fk g_is_run_there hr (by rfl) (pa_cons (pv 0) (pa_cons (pv 1) pa_nil))))) (pss_one ps_never) pss_nil)), ?_⟩
    exact ⟨_, rfl, _, rfl, m, r, es, l, rfl, hk, fun H' s1 => ⟨true, rfl, iteF (q H' s1)⟩⟩
abbrev n_boards_of : List Str := ["machine", "run", "tries", "points", "found", "event", "step"]
theorem sc_boards_of : FnScope n_boards_of ["machine", "run"] (defScope s_boards_of) := ⟨rfl, rfl, rfl, by decide +kernel, rfl, by decide +kernel, by decide +kernel⟩
theorem ok_boards_of (D : Df K mg "boards_of" s_boards_of) (T : TX K mg) (g_step_at : Fk P w K mg base 1 "step_at" ["machine", "event"] (spStepAt K)) : Fk P w K mg base 2 "boards_of" ["machine", "run"] (spBoards K) := by
  refine fk_of D sc_boards_of (fun _ _ _ _ _ _ us hl => match us, hl with | [_, _], _ => rfl) (fun vs H Q E h => ?_) (fun f cdv A outer s H vs Q E hr h => ?_)
  · obtain ⟨_, _, _, _, rfl, _⟩ := h
    rfl
  · obtain ⟨m, r, es, l, rfl, ⟨n, t, s, c, hm, hrt, hw, hll⟩, q⟩ := h
    refine ⟨_, (pss_cons (ps_set (i := 2) sc_boards_of.nd rfl (Or.inl rfl) pe_int)
      (pss_cons (ps_set (i := 3) sc_boards_of.nd rfl (Or.inl rfl) pe_int)
      (pss_cons (ps_set (i := 4) sc_boards_of.nd rfl (Or.inl rfl) (pe_lst pa_nil))
      (pss_cons (ps_for PassesOwn.never (by rfl) (pi_tup (pv 1)) (pg_name (i := 5) sc_boards_of.nd rfl (Or.inl rfl))
       (pss_cons (ps_set (i := 6) sc_boards_of.nd rfl (Or.inl rfl) (pe_fk g_step_at hr (by rfl) (pa_cons (pv 0) (pa_cons (pv 5) pa_nil))))
       (pss_cons (ps_aug (i := 2) sc_boards_of.nd rfl (.inl rfl) (pe_ix ix_tup (pv 6) pe_int (fun _ _ => rfl)) ip_add)
       (pss_cons (ps_aug (i := 3) sc_boards_of.nd rfl (.inl rfl) (pe_ix ix_tup (pv 6) pe_int (fun _ _ => rfl)) ip_add)
       (pss_one (ps_expr (pe_bm PySem.F.plainAttrs_list PySem.F.slot_list_append PySem.F.type_list_append mt_append (pv 4) (pa_cons (pe_tup (pa_cons (pv 2) (pa_cons (pv 3) pa_nil))) pa_nil))))))))
      (pss_one (ps_ret (pv 4))))))), ?_⟩
    have hrt : H r = some (.tup (l.map fun j => V.int (j : Nat))) := hrt
    refine ⟨Nat.zero_le _, fun Dl nD => ⟨_, rfl, r, rfl, ⟨_, SqT.of (same_new nD _ _ hrt)⟩, for_tup (fun i σ H' => ∃ v5 v6 ti si, σ = [some (.ref m), some (.ref r), some (.int (ti : Nat)), some (.int si.2), some (.ref Dl), v5, v6] ∧ Mid es g0 0 (0, 0) t s l i ti si ∧ Same H H' ∧ BdsAt H' Dl (bds es 0 0 (l.take i)))
        ⟨none, none, 0, (0, 0), rfl, Mid.zero hw, same_new nD, [], upd_same, rfl, fun i b h => by cases h⟩ (fun i σ H' _ ⟨_, _, _, _, _, _, s2, _⟩ => SqT.of (s2 _ _ hrt)) ?_ ?_⟩⟩
    · rintro i x σ H' hx ⟨v5, v6, ti, si, rfl, hmid, s2, hbd⟩
      obtain ⟨j, hj, rfl⟩ := of_map_get hx
      obtain ⟨e, he, hb, hmid2⟩ := hmid.next hj
      obtain ⟨as, a1, a2, a3⟩ := hbd.ex
      have hlen : as.length = i := by
        have hl := (List.getElem?_eq_some_iff.mp hj).1
        rw [a2]
        show (bds es 0 ((0, 0) : Sta).2 (l.take i)).length = i
        rw [hmid.bl, List.length_take]
        omega
      have hl := (List.getElem?_eq_some_iff.mp hj).1
      refine ⟨_, rfl, _, rfl, m, j, n, es, e, rfl, hm.same s2, he, fun x hx => ?_⟩
      refine ⟨_, rfl, _, rfl, x, _, 2, .int (e.t : Nat), rfl, rfl, SqT.of hx, atI_nat (j := 2) rfl, _, _, rfl, rfl, ?_⟩
      refine ⟨_, rfl, _, rfl, x, _, 3, .int e.p, rfl, rfl, SqT.of hx, atI_nat (j := 3) rfl, _, _, rfl, rfl, ?_⟩
      refine ⟨_, rfl, .inl ⟨rfl, _, SqL.of a1⟩, _, rfl, _, rfl, (le_line (n := 2) (by decide)), fun k nk => ⟨Dl, as.map V.ref, _, rfl, rfl, ?_, ?_, ?_⟩⟩
      · rw [upd_ne (ne_of_none a1 nk)]; exact a1
      · rw [List.length_map, hlen]; exact lt_line (by omega)
      · refine ⟨_, _, ti + e.t, (e.a, si.2 + e.p), rfl, hmid2, fun b o eb => ?_, ?_⟩
        · rw [upd_ne (ne_of_none eb nD), upd_ne (ne_of_none (s2 _ _ eb) nk)]
          exact s2 _ _ eb
        · have hbb : bds es 0 0 (l.take (i + 1)) = bds es 0 0 (l.take i) ++ [(ti + e.t, si.2 + e.p)] := hmid.bds hj he
          rw [hbb]
          exact hbd.push a1 nk
    · rintro σ H' ⟨v5, v6, ti, si, rfl, hmid, s2, hbd⟩
      rw [List.length_map, List.take_length] at hbd
      exact ⟨_, rfl, q Dl H' s2 hbd⟩
abbrev n_is_run : List Str := ["machine", "thing"]
theorem sc_is_run : FnScope n_is_run ["machine", "thing"] (defScope s_is_run) := ⟨rfl, rfl, rfl, by decide +kernel, rfl, by decide +kernel, by decide +kernel⟩
theorem ok_is_run (D : Df K mg "is_run" s_is_run) (T : TX K mg) (g_is_run_there : Fk P w K mg base 4 "is_run_there" ["machine", "thing"] (spRunThere K)) : Fk P w K mg base 5 "is_run" ["machine", "thing"] (spRunThere K) := by
  refine fk_of D sc_is_run (fun _ _ _ _ _ _ us hl => match us, hl with | [_, _], _ => rfl) (fun vs H Q E h => ?_) (fun f cdv A outer s H vs Q E hr h => ?_)
  · obtain ⟨_, _, _, _, rfl, _⟩ := h
    rfl
  · obtain ⟨m, r, es, l, rfl, hk, q⟩ := h
    refine ⟨_, (pss_one (ps_ret (pe_fk g_is_run_there hr (by rfl) (pa_cons (pv 0) (pa_cons (pv 1) pa_nil))))), ?_⟩
    exact ⟨_, rfl, _, rfl, m, r, es, l, rfl, hk, q⟩
abbrev n_boards : List Str := ["machine", "run"]
theorem sc_boards : FnScope n_boards ["machine", "run"] (defScope s_boards) := ⟨rfl, rfl, rfl, by decide +kernel, rfl, by decide +kernel, by decide +kernel⟩
theorem ok_boards (D : Df K mg "boards" s_boards) (T : TX K mg) (g_check_run : Fk P w K mg base 5 "check_run" ["machine", "thing"] (spCheckRun K)) (g_boards_of : Fk P w K mg base 2 "boards_of" ["machine", "run"] (spBoards K)) : Fk P w K mg base 6 "boards" ["machine", "run"] (spBoards K) := by
  refine fk_of D sc_boards (fun _ _ _ _ _ _ us hl => match us, hl with | [_, _], _ => rfl) (fun vs H Q E h => ?_) (fun f cdv A outer s H vs Q E hr h => ?_)
  · obtain ⟨_, _, _, _, rfl, _⟩ := h
    rfl
  · obtain ⟨m, r, es, l, rfl, hk, q⟩ := h
    refine ⟨_, (pss_cons (ps_expr (pe_fk g_check_run hr (by rfl) (pa_cons (pv 0) (pa_cons (pv 1) pa_nil))))
      (pss_one (ps_ret (pe_fk g_boards_of hr (by rfl) (pa_cons (pv 0) (pa_cons (pv 1) pa_nil)))))), ?_⟩
    exact ⟨_, rfl, _, rfl, m, r, es, l, rfl, hk, fun H1 s1 => ⟨_, rfl, _, rfl, m, r, es, l, rfl, hk.same s1, fun p H2 s2 hb => q p H2 (s1.trans s2) hb⟩⟩
end
end Nl
namespace Nl
open PySem PySem.Spec PyProof.Rows L2
/-! ### dicts whose keys are states -/
abbrev kS (s : Sta) : List L2.Key := pk s.1 s.2
theorem kS_inj {s s' : Sta} (h : kS s = kS s') : s = s' := by
  injection h with h1 h2
  injection h1 with h1
  injection h2 with h2 _
  injection h2 with h2
  exact Prod.ext (Int.ofNat.inj h1) h2
def BoxS (s : Sta) : Prop := s.1 < 4 ∧ -3000 ≤ s.2 ∧ s.2 ≤ 3000
theorem nd_le : ∀ (n : Nat) (l : List Nat), l.Nodup → (∀ x ∈ l, x < n) → l.length ≤ n
  | 0, [], _, _ => Nat.le_refl _
  | 0, a :: r, _, h => absurd (h a (List.mem_cons_self ..)) (by omega)
  | n + 1, l, nd, h => by
    have h1 : (l.filter fun x => decide (x ≠ n)).length ≤ n := nd_le n _ (nd.sublist List.filter_sublist) fun x hx => by
      obtain ⟨k1, k2⟩ := List.mem_filter.mp hx
      have := h x k1
      have := of_decide_eq_true k2
      omega
    have h2 : ∀ l : List Nat, l.Nodup → l.length ≤ (l.filter fun x => decide (x ≠ n)).length + 1 := fun l => by
      induction l with
      | nil => intro _; simp
      | cons a r ih =>
        intro nd
        obtain ⟨n1, n2⟩ := List.nodup_cons.mp nd
        by_cases e : a = n
        · subst e
          rw [List.filter_cons, if_neg (by simp)]
          have : r.filter (fun x => decide (x ≠ a)) = r := List.filter_eq_self.mpr fun x hx => by
            refine decide_eq_true fun e => n1 (by rw [← e]; exact hx)
          rw [this, List.length_cons]
          exact Nat.le_refl _
        · rw [List.filter_cons, if_pos (by simp [e]), List.length_cons, List.length_cons]
          have := ih n2
          omega
    have := h2 l nd
    omega
def kc : List L2.Key → Nat
  | [.inl a, .inl x] => a.toNat * 6001 + (x + 3000).toNat
  | _ => 0
structure Box {α : Type} (kvs : List (List L2.Key × α)) : Prop where
  nd : (kvs.map (·.1)).Nodup
  bx : ∀ k ∈ kvs.map (·.1), ∃ s, k = kS s ∧ BoxS s
theorem Box.nil {α : Type} : Box ([] : List (List L2.Key × α)) := ⟨List.nodup_nil, fun k h => by cases h⟩
theorem Box.len {α : Type} {kvs : List (List L2.Key × α)} (b : Box kvs) : kvs.length ≤ 24004 := by
  have h := nd_le 24004 ((kvs.map (·.1)).map kc) ?_ ?_
  · rw [List.length_map, List.length_map] at h
    exact h
  · refine List.pairwise_map.mpr (List.Pairwise.imp_of_mem (fun {a c} ha hc hne e => ?_) b.nd)
    obtain ⟨s, rfl, h1, h2, h3⟩ := b.bx _ ha
    obtain ⟨s', rfl, h1', h2', h3'⟩ := b.bx _ hc
    refine hne (congrArg kS (Prod.ext ?_ ?_))
    · have e : (s.1 : Int).toNat * 6001 + (s.2 + 3000).toNat = (s'.1 : Int).toNat * 6001 + (s'.2 + 3000).toNat := e
      omega
    · have e : (s.1 : Int).toNat * 6001 + (s.2 + 3000).toNat = (s'.1 : Int).toNat * 6001 + (s'.2 + 3000).toNat := e
      omega
  · intro x hx
    obtain ⟨k, hk, rfl⟩ := List.mem_map.mp hx
    obtain ⟨s, rfl, h1, h2, h3⟩ := b.bx _ hk
    show (s.1 : Int).toNat * 6001 + (s.2 + 3000).toNat < _
    omega
theorem Box.lt {α : Type} {kvs : List (List L2.Key × α)} (b : Box kvs) : kvs.length < sizeLine := lt_line (by have := b.len; omega)
theorem valV_mem {κ : Type} [DecidableEq κ] : ∀ {kvs : List (κ × V)}, (kvs.map (·.1)).Nodup → ∀ q ∈ kvs, valV kvs q.1 = some q.2
  | [], _, q, h => by cases h
  | p :: r, nd, q, h => by
    rw [List.map_cons, List.nodup_cons] at nd
    rcases List.mem_cons.mp h with e | h
    · subst e
      exact valV_pos rfl
    · by_cases e : p.1 = q.1
      · exact absurd (List.mem_map.mpr ⟨q, h, e.symm⟩) nd.1
      · rw [valV_neg e]
        exact valV_mem nd.2 q h
theorem valV_get {κ : Type} [DecidableEq κ] : ∀ {kvs : List (κ × V)} {k : κ} {v : V}, valV kvs k = some v → ∃ i : Nat, kvs[i]? = some (k, v)
  | [], k, v, h => by cases h
  | p :: r, k, v, h => by
    by_cases e : p.1 = k
    · rw [valV_pos e] at h
      subst e
      cases h
      exact ⟨0, rfl⟩
    · rw [valV_neg e] at h
      obtain ⟨i, hi⟩ := valV_get h
      exact ⟨i + 1, by rw [List.getElem?_cons_succ]; exact hi⟩
theorem keys_putK_old {κ : Type} [DecidableEq κ] {kvs : List (κ × V)} {k : κ} {v v0 : V} (h : valV kvs k = some v0) : (putK kvs k v).map (·.1) = kvs.map (·.1) := by
  unfold putK
  rw [valV_any, h, if_pos (show (some v0).isSome = true from rfl), List.map_map]
  refine List.map_congr_left fun q _ => ?_
  show (if q.1 = k then (q.1, v) else q).1 = q.1
  split <;> rfl
theorem Box.put {kvs : List (List L2.Key × V)} (b : Box kvs) {s : Sta} (hs : BoxS s) (v : V) : Box (putK kvs (kS s) v) := by
  cases e : valV kvs (kS s) with
  | none =>
    refine ⟨nd_putK v b.nd e, fun k hk => ?_⟩
    rw [putK_new v e, List.map_append] at hk
    rcases List.mem_append.mp hk with h | h
    · exact b.bx k h
    · exact ⟨s, List.mem_singleton.mp h, hs⟩
  | some v0 =>
    have e2 := keys_putK_old (v := v) e
    exact ⟨by rw [e2]; exact b.nd, fun k hk => b.bx k (by rw [← e2]; exact hk)⟩
/-! ### the layers' entries -/
def EntAt (H : Hp) (a : Addr) : Ent → Prop
  | (c, none) => H a = some (.tup [.int c, .non, .non])
  | (c, some (j, s)) => ∃ ka, H a = some (.tup [.int c, .int (j : Nat), .ref ka]) ∧ Tp2 H ka (s.1 : Nat) s.2
def TupK (H H' : Hp) : Prop := ∀ b xs, H b = some (.tup xs) → H' b = some (.tup xs)
theorem TupK.of {H H' : Hp} (s : Same H H') : TupK H H' := fun b xs h => s _ _ h
theorem TupK.trans {H H1 H2 : Hp} (a : TupK H H1) (b : TupK H1 H2) : TupK H H2 := fun c xs h => b _ _ (a _ _ h)
theorem TupK.upd {H : Hp} {d : Addr} {o u : HO} (h : H d = some u) (hu : ∀ xs, u ≠ .tup xs) : TupK H (upd H d o) := fun b xs e => by
  rw [upd_ne (fun z => by rw [z, h] at e; exact hu xs (Option.some.inj e))]
  exact e
theorem EntAt.keep {H H' : Hp} {a : Addr} : ∀ {en : Ent}, EntAt H a en → TupK H H' → EntAt H' a en
  | (_, none), h, k => k _ _ h
  | (_, some _), ⟨ka, h1, h2⟩, k => ⟨ka, k _ _ h1, k _ _ h2⟩
theorem EntAt.head {H : Hp} {a : Addr} : ∀ {en : Ent}, EntAt H a en → ∃ r, H a = some (.tup (.int en.1 :: r))
  | (_, none), h => ⟨_, h⟩
  | (_, some _), ⟨_, h1, _⟩ => ⟨_, h1⟩
def LayV (H : Hp) (kvs : List (List L2.Key × V)) (T : Sta → Option Ent) : Prop := ∀ s, (T s = none → valV kvs (kS s) = none) ∧ ∀ en, T s = some en → ∃ a, valV kvs (kS s) = some (.ref a) ∧ EntAt H a en
structure LayAt (H : Hp) (d : Addr) (T : Sta → Option Ent) : Prop where
  ex : ∃ kvs, H d = some (.dT kvs) ∧ Box kvs ∧ LayV H kvs T
theorem LayV.keep {H H' : Hp} {kvs : List (List L2.Key × V)} {T : Sta → Option Ent} (h : LayV H kvs T) (k : TupK H H') : LayV H' kvs T := fun s => ⟨(h s).1, fun en e => by
  obtain ⟨a, h1, h2⟩ := (h s).2 en e
  exact ⟨a, h1, h2.keep k⟩⟩
theorem LayV.put {H : Hp} {kvs : List (List L2.Key × V)} {T : Sta → Option Ent} (h : LayV H kvs T) {s : Sta} {a : Addr} {en : Ent} (he : EntAt H a en) : LayV H (putK kvs (kS s) (.ref a)) (fun s2 => if s2 = s then some en else T s2) := fun s2 => by
  rw [valV_put]
  by_cases e : s2 = s
  · rw [if_pos (by rw [e])]
    refine ⟨fun z => ?_, fun en2 z => ?_⟩
    · simp only [if_pos e] at z
      cases z
    · simp only [if_pos e] at z
      cases z
      exact ⟨a, rfl, he⟩
  · rw [if_neg (fun z => e (kS_inj z))]
    simp only [if_neg e]
    exact h s2
/-- what stands at the i-th place -/
theorem LayV.at {H : Hp} {kvs : List (List L2.Key × V)} {T : Sta → Option Ent} (h : LayV H kvs T) (b : Box kvs) {i : Nat} {q : List L2.Key × V} (e : kvs[i]? = some q) : ∃ s en a, q = (kS s, .ref a) ∧ T s = some en ∧ EntAt H a en ∧ BoxS s := by
  have hm := List.mem_of_getElem? e
  obtain ⟨s, h1, h2⟩ := b.bx q.1 (List.mem_map.mpr ⟨q, hm, rfl⟩)
  have hv := valV_mem b.nd q hm
  rw [h1] at hv
  cases eT : T s with
  | none =>
    rw [(h s).1 eT] at hv
    cases hv
  | some en =>
    obtain ⟨a, k1, k2⟩ := (h s).2 en eT
    rw [k1] at hv
    exact ⟨s, en, a, Prod.ext h1 (Option.some.inj hv).symm, eT, k2, h2⟩
theorem LayV.ix {H : Hp} {kvs : List (List L2.Key × V)} {T : Sta → Option Ent} (h : LayV H kvs T) {s : Sta} (e : T s ≠ none) : ∃ (i : Nat) (v : V), kvs[i]? = some (kS s, v) := by
  cases eT : T s with
  | none => exact absurd eT e
  | some en =>
    obtain ⟨a, k1, _⟩ := (h s).2 en eT
    obtain ⟨i, hi⟩ := valV_get k1
    exact ⟨i, _, hi⟩
structure LaysAt (H : Hp) (p : Addr) (ds : List Addr) (T : Nat → Sta → Option Ent) : Prop where
  at_ : H p = some (.lst (ds.map V.ref))
  nd : ds.Nodup
  lay : ∀ k d, ds[k]? = some d → LayAt H d (T k)
theorem LayAt.same {H H' : Hp} {d : Addr} {T : Sta → Option Ent} (h : LayAt H d T) (s : Same H H') : LayAt H' d T := by
  obtain ⟨kvs, h1, h2, h3⟩ := h.ex
  exact ⟨kvs, s _ _ h1, h2, h3.keep (.of s)⟩
theorem LaysAt.same {H H' : Hp} {p : Addr} {ds : List Addr} {T : Nat → Sta → Option Ent} (h : LaysAt H p ds T) (s : Same H H') : LaysAt H' p ds T := ⟨s _ _ h.at_, h.nd, fun k d e => (h.lay k d e).same s⟩
theorem LaysAt.put {H : Hp} {p : Addr} {ds : List Addr} {T : Nat → Sta → Option Ent} (h : LaysAt H p ds T) {k : Nat} {d : Addr} (hk : ds[k]? = some d) {kvs : List (List L2.Key × V)} (hd : H d = some (.dT kvs)) {s : Sta} {a : Addr} {en : Ent} (he : EntAt H a en) (hs : BoxS s) :
    LaysAt (upd H d (.dT (putK kvs (kS s) (.ref a)))) p ds (setT T k s en) := by
  have npd : p ≠ d := ne_of h.at_ hd (by intro z; cases z)
  have tk : TupK H (upd H d (.dT (putK kvs (kS s) (.ref a)))) := TupK.upd hd (by intro xs z; cases z)
  refine ⟨by rw [upd_ne npd]; exact h.at_, h.nd, fun k2 d2 e => ?_⟩
  obtain ⟨kvs2, h1, h2, h3⟩ := (h.lay k2 d2 e).ex
  by_cases ek : k2 = k
  · subst ek
    rw [hk] at e
    cases e
    rw [hd] at h1
    injection h1 with h1
    injection h1 with h1
    subst h1
    refine ⟨_, upd_same, h2.put hs _, fun s2 => ?_⟩
    have q := (h3.put (s := s) he).keep tk s2
    have e2 : setT T k2 s en k2 s2 = if s2 = s then some en else T k2 s2 := by
      unfold setT
      by_cases z : s2 = s
      · rw [if_pos ⟨rfl, z⟩, if_pos z]
      · rw [if_neg (fun y => z y.2), if_neg z]
    rw [e2]
    exact q
  · have nd2 : d2 ≠ d := fun z => ek (nd_ix h.nd e (by rw [z]; exact hk))
    refine ⟨kvs2, by rw [upd_ne nd2]; exact h1, h2, fun s2 => ?_⟩
    rw [setT_ne (fun z => ek z.1)]
    exact h3.keep tk s2
end Nl
namespace Nl
open PySem PySem.Spec PyProof.Rows L2
theorem cmul_small {i j : Int} (h1 : i.natAbs ≤ 1000000) (h2 : j.natAbs ≤ 1000000) : CMulW i j :=
  wide_mul (a := 20) (b := 20) (Nat.lt_of_le_of_lt h1 (by decide)) (Nat.lt_of_le_of_lt h2 (by decide)) (by decide) (by decide) (by decide)
theorem blF {Q : VK} {c : Prop} [Decidable c] {H : Hp} (h : ¬ c) (q : Q (.bl false) H) : Q (.bl (decide c)) H := by
  rw [decide_eq_false h]
  exact q
theorem ix_tupK {X : Cx} {K : PySem.W.Frag} (h : X.K = K) : IxR X (rIxT K) := by
  subst h
  exact ix_tup
theorem ix_listK {X : Cx} {K : PySem.W.Frag} (h : X.K = K) : IxR X (rIxL K) := by
  subst h
  exact ix_list
/-- behind a lock -/
theorem same_unlock {H H' : Hp} {d : Addr} {u : HO} {od : Obj} (h : Same (upd H d (.frz od u)) H') (e : H d = some u) : Same H (upd H' d u) := fun b o hb => by
  by_cases z : b = d
  · subst z
    rw [upd_same, ← e]
    exact hb
  · rw [upd_ne z]
    exact h b o (by rw [upd_ne z]; exact hb)
theorem BdsAt.add {H : Hp} {a : Addr} {bs : List (Nat × Int)} {as : List V} {k : Addr} {x : Nat} {y : Int} (h : BdsAt H a bs) (ha : H a = some (.lst as)) (hk : Tp2 H k (x : Nat) y) : BdsAt (upd H a (.lst (as ++ [.ref k]))) a (bs ++ [(x, y)]) := by
  obtain ⟨as', h1, h2, h3⟩ := h.ex
  rw [ha] at h1
  injection h1 with h1
  injection h1 with h1
  subst h1
  have tk : TupK H (upd H a (.lst (as'.map V.ref ++ [.ref k]))) := TupK.upd ha (by intro xs z; cases z)
  refine ⟨as' ++ [k], by rw [upd_same, List.map_append]; rfl, by rw [List.length_append, List.length_append, h2]; rfl, fun i b e => ?_⟩
  rcases Nat.lt_or_ge i bs.length with hi | hi
  · rw [List.getElem?_append_left hi] at e
    obtain ⟨z, k1, k2⟩ := h3 i b e
    exact ⟨z, by rw [List.getElem?_append_left (by omega)]; exact k1, tk _ _ k2⟩
  · rw [List.getElem?_append_right hi] at e
    have e0 : i - bs.length = 0 := by
      have := (List.getElem?_eq_some_iff.mp e).1
      rw [List.length_singleton] at this
      omega
    rw [e0] at e
    cases e
    exact ⟨k, by rw [List.getElem?_append_right (by omega), h2, e0]; rfl, tk _ _ hk⟩
/-! ### promises -/
def spIsFirst : Sp := fun vs H Q _ => ∃ (p : Addr) (t x : Int), vs = [.ref p] ∧ Tp2 H p t x ∧ 0 ≤ t ∧ (0 < t ∨ x = 0) ∧ Q (.bl true) H
def spCheckBoards : Sp := fun vs H Q _ => ∃ (p q : Addr) (t x t' x' : Int), vs = [.ref p, .ref q] ∧ Tp2 H p t x ∧ Tp2 H q t' x' ∧ 0 ≤ t ∧ (0 < t ∨ x = 0) ∧ t + 1 ≤ t' ∧ Q .non H
def spCheckTries : Sp := fun vs H Q _ => ∃ (p : Addr) (t x : Int), vs = [.ref p] ∧ Tp2 H p t x ∧ t ≤ 300 ∧ Q .non H
def spNothing : Sp := fun vs H Q _ => ∃ t x : Int, vs = [.int t, .int x] ∧ Q (.int 0) H
def spKeepBetter : Sp := fun vs H Q _ => ∃ (d ga ea : Addr) (sg c : Int) (s : Sta) (kvs : List (List L2.Key × V)) (r : List V), vs = [.ref d, .ref ga, .ref ea, .int sg] ∧ Tp2 H ga (s.1 : Nat) s.2 ∧ H d = some (.dT kvs) ∧ kvs.length < sizeLine ∧ H ea = some (.tup (.int c :: r)) ∧ CMulW sg c ∧
  (valV kvs (kS s) = none → Q .non (upd H d (.dT (putK kvs (kS s) (.ref ea))))) ∧
  (∀ v, valV kvs (kS s) = some v → ∃ (oa : Addr) (c2 : Int) (r2 : List V), v = .ref oa ∧ H oa = some (.tup (.int c2 :: r2)) ∧ CMulW sg c2 ∧ (sg * c < sg * c2 → Q .non (upd H d (.dT (putK kvs (kS s) (.ref ea))))) ∧ (¬ sg * c < sg * c2 → Q .non H))
def spBeginsOf : Sp := fun vs H Q _ => ∃ (p f : Addr) (ds : List Addr) (T : Nat → Sta → Option Ent) (m : Nat) (t x : Int), vs = [.ref p, .ref f] ∧ LaysAt H p ds T ∧ ds.length = m + 1 ∧ Tp2 H f t x ∧
  ∀ H' L ss, Same H H' → BdsAt H' L ss → ss.length ≤ 24004 → (∀ s : Sta, s ∈ ss ↔ T m s ≠ none ∧ s.2 = x) → Q (.ref L) H'
def spWayBack (K : PySem.W.Frag) : Sp := fun vs H Q _ => ∃ (mp p sa : Addr) (n : Nat) (es : List Ev) (g : Nat → Int → Int) (sg : Int) (bg m : Nat) (T0 : Sta → Option Int) (i : Nat) (Dn : Nat → Sta → Nat → Prop) (T : Nat → Sta → Option Ent) (ds : List Addr) (s : Sta) (en : Ent),
  vs = [.ref mp, .ref p, .ref sa] ∧ MachAt (mC K) H mp n es ∧ MOk n es ∧ LaysAt H p ds T ∧ ds.length = m + 1 ∧ m ≤ 1000 ∧ TInv es g sg bg m T0 i Dn T ∧ Tp2 H sa (s.1 : Nat) s.2 ∧ T m s = some en ∧
  ∀ (H' : Hp) (L : Addr) (r : List Nat) (s0 : Sta) (c0 c1 : Int), Same H H' → H' L = some (.lst (r.map fun j => V.int (j : Nat))) → T0 s0 = some c0 → Way es g bg s0 (bg + m) s r c1 → en.1 = c0 + c1 → Q (.ref L) H'
section
variable {P : Program} {w : World} {K : PySem.W.Frag} {mg : Str → Option Value} {base : Heap}
abbrev n_is_first : List Str := ["thing"]
theorem sc_is_first : FnScope n_is_first ["thing"] (defScope s_is_first) := ⟨rfl, rfl, rfl, by decide +kernel, rfl, by decide +kernel, by decide +kernel⟩
theorem ok_is_first (D : Df K mg "is_first" s_is_first) (T : TX K mg) (g_is_integer : Fk P w K mg base 1 "is_integer" ["thing"] spIsInteger) (g_is_pair : Fk P w K mg base 1 "is_pair" ["thing"] spIsPair) (g_is_from : Fk P w K mg base 2 "is_from" ["thing", "least"] spIsFrom) :
    Fk P w K mg base 3 "is_first" ["thing"] spIsFirst := by
  refine fk_of D sc_is_first (fun _ _ _ _ _ _ us hl => match us, hl with | [_], _ => rfl) (fun vs H Q E h => ?_) (fun f cdv A outer s H vs Q E hr h => ?_)
  · obtain ⟨_, _, _, rfl, _⟩ := h
    rfl
  · obtain ⟨p, t, x, rfl, hp, h1, h2, q⟩ := h
    refine ⟨_, (pss_cons (ps_if (PW.pt (pw_or (pt_not (pt_val (pe_fk g_is_pair hr (by rfl) (pa_cons (pv 0) pa_nil)))) (pw_or (pt_not (pt_val (pe_fk g_is_from hr (by rfl) (pa_cons (pe_ix ix_tup (pv 0) pe_int (fun _ _ => rfl)) (pa_cons pe_int pa_nil))))) (pw_or1 (pt_not (pt_val (pe_fk g_is_integer hr (by rfl) (pa_cons (pe_ix ix_tup (pv 0) pe_int (fun _ _ => rfl)) pa_nil)))))))) (pss_one (ps_ret pe_bl)) pss_nil)
      (pss_one (ps_ret (pe_or (pe_cmpR op_gt (pe_ix ix_tup (pv 0) pe_int (fun _ _ => rfl)) pe_int (nomark _)) (pe_one (pe_cmpR op_eqI (pe_ix ix_tup (pv 0) pe_int (fun _ _ => rfl)) pe_int (nomark _))))))), ?_⟩
    refine ⟨_, rfl, p, _, _, rfl, hp, true, rfl, iteF ?_⟩
    refine ⟨_, rfl, p, _, 0, .int t, rfl, rfl, SqT.of hp, atI_nat (j := 0) rfl, t, 0, rfl, h1, true, rfl, iteF ?_⟩
    refine ⟨_, rfl, p, _, 1, .int x, rfl, rfl, SqT.of hp, atI_nat (j := 1) rfl, x, rfl, true, rfl, iteF ?_⟩
    refine ⟨_, rfl, p, _, 0, .int t, rfl, rfl, SqT.of hp, atI_nat (j := 0) rfl, t, 0, rfl, rfl, ?_⟩
    by_cases ht : 0 < t
    · exact ⟨true, congrArg V.bl (decide_eq_true ht), iteT q⟩
    · refine ⟨false, congrArg V.bl (decide_eq_false ht), iteF ?_⟩
      refine ⟨_, rfl, p, _, 1, .int x, rfl, rfl, SqT.of hp, atI_nat (j := 1) rfl, x, 0, rfl, rfl, blT (Q := Q) (h2.resolve_left ht) q⟩
abbrev n_check_boards : List Str := ["first", "last"]
theorem sc_check_boards : FnScope n_check_boards ["first", "last"] (defScope s_check_boards) := ⟨rfl, rfl, rfl, by decide +kernel, rfl, by decide +kernel, by decide +kernel⟩
theorem ok_check_boards (D : Df K mg "check_boards" s_check_boards) (T : TX K mg) (g_is_integer : Fk P w K mg base 1 "is_integer" ["thing"] spIsInteger) (g_is_pair : Fk P w K mg base 1 "is_pair" ["thing"] spIsPair) (g_is_from : Fk P w K mg base 2 "is_from" ["thing", "least"] spIsFrom)
    (g_is_first : Fk P w K mg base 3 "is_first" ["thing"] spIsFirst) : Fk P w K mg base 4 "check_boards" ["first", "last"] spCheckBoards := by
  refine fk_of D sc_check_boards (fun _ _ _ _ _ _ us hl => match us, hl with | [_, _], _ => rfl) (fun vs H Q E h => ?_) (fun f cdv A outer s H vs Q E hr h => ?_)
  · obtain ⟨_, _, _, _, _, _, rfl, _⟩ := h
    rfl
  · obtain ⟨p, p2, t, x, t', x', rfl, hp, hp2, h1, h2, h3, q⟩ := h
    refine ⟨_, (pss_cons (ps_if (pt_not (pt_val (pe_fk g_is_first hr (by rfl) (pa_cons (pv 0) pa_nil)))) (pss_one ps_never) pss_nil)
      (pss_one (ps_if (PW.pt (pw_or (pt_not (pt_val (pe_fk g_is_pair hr (by rfl) (pa_cons (pv 1) pa_nil)))) (pw_or (pt_not (pt_val (pe_fk g_is_from hr (by rfl) (pa_cons (pe_ix ix_tup (pv 1) pe_int (fun _ _ => rfl)) (pa_cons (pe_op op_add (pe_ix ix_tup (pv 0) pe_int (fun _ _ => rfl)) pe_int) pa_nil))))) (pw_or1 (pt_not (pt_val (pe_fk g_is_integer hr (by rfl) (pa_cons (pe_ix ix_tup (pv 1) pe_int (fun _ _ => rfl)) pa_nil)))))))) (pss_one ps_never) pss_nil))), ?_⟩
    refine ⟨_, rfl, p, t, x, rfl, hp, h1, h2, true, rfl, iteF ?_⟩
    refine ⟨_, rfl, p2, _, _, rfl, hp2, true, rfl, iteF ?_⟩
    refine ⟨_, rfl, p2, _, 0, .int t', rfl, rfl, SqT.of hp2, atI_nat (j := 0) rfl, _, rfl, p, _, 0, .int t, rfl, rfl, SqT.of hp, atI_nat (j := 0) rfl, t, 1, rfl, rfl, t', t + 1, rfl, h3, true, rfl, iteF ?_⟩
    exact ⟨_, rfl, p2, _, 1, .int x', rfl, rfl, SqT.of hp2, atI_nat (j := 1) rfl, x', rfl, true, rfl, iteF q⟩
abbrev n_check_tries : List Str := ["last"]
theorem sc_check_tries : FnScope n_check_tries ["last"] (defScope s_check_tries) := ⟨rfl, rfl, rfl, by decide +kernel, rfl, by decide +kernel, by decide +kernel⟩
theorem ok_check_tries (D : Df K mg "check_tries" s_check_tries) (T : TX K mg) : Fk P w K mg base 1 "check_tries" ["last"] spCheckTries := by
  refine fk_of D sc_check_tries (fun _ _ _ _ _ _ us hl => match us, hl with | [_], _ => rfl) (fun vs H Q E h => ?_) (fun f cdv A outer s H vs Q E hr h => ?_)
  · obtain ⟨_, _, _, rfl, _⟩ := h
    rfl
  · obtain ⟨p, t, x, rfl, hp, h1, q⟩ := h
    refine ⟨_, (pss_one (ps_if (pt_cmpR op_gt (pe_ix ix_tup (pv 0) pe_int (fun _ _ => rfl)) (pe_cint T.MOST_TRIES_betweens rfl) (nomark _)) (pss_one ps_never) pss_nil)), ?_⟩
    exact ⟨_, rfl, p, _, 0, .int t, rfl, rfl, SqT.of hp, atI_nat (j := 0) rfl, t, 300, rfl, rfl, _, rfl, ifF (by omega) q⟩
abbrev n_nothing : List Str := ["tries", "points"]
theorem sc_nothing : FnScope n_nothing ["tries", "points"] (defScope s_nothing) := ⟨rfl, rfl, rfl, by decide +kernel, rfl, by decide +kernel, by decide +kernel⟩
theorem ok_nothing (D : Df K mg "nothing" s_nothing) (T : TX K mg) : Fk P w K mg base 1 "nothing" ["tries", "points"] spNothing := by
  refine fk_of D sc_nothing (fun _ _ _ _ _ _ us hl => match us, hl with | [_, _], _ => rfl) (fun vs H Q E h => ?_) (fun f cdv A outer s H vs Q E hr h => ?_)
  · obtain ⟨_, _, rfl, _⟩ := h
    rfl
  · obtain ⟨t, x, rfl, q⟩ := h
    exact ⟨_, (pss_one (ps_ret pe_int)), q⟩
abbrev n_keep_better : List Str := ["layer", "goal", "entry", "sign"]
theorem sc_keep_better : FnScope n_keep_better ["layer", "goal", "entry", "sign"] (defScope s_keep_better) := ⟨rfl, rfl, rfl, by decide +kernel, rfl, by decide +kernel, by decide +kernel⟩
theorem ok_keep_better (D : Df K mg "keep_better" s_keep_better) (T : TX K mg) : Fk P w K mg base 1 "keep_better" ["layer", "goal", "entry", "sign"] spKeepBetter := by
  refine fk_of D sc_keep_better (fun _ _ _ _ _ _ us hl => match us, hl with | [_, _, _, _], _ => rfl) (fun vs H Q E h => ?_) (fun f cdv A outer s H vs Q E hr h => ?_)
  · obtain ⟨_, _, _, _, _, _, _, _, rfl, _⟩ := h
    rfl
  · obtain ⟨d, ga, ea, sg, c, s, kvs, r, rfl, hg, hd, hl, he, hm, q1, q2⟩ := h
    refine ⟨_, (pss_one (ps_if (PW.pt (pw_or (pt_cmp (pc_dnotin (hu_of hr) (pv 1) (pv 0)) rfl) (pw_or1 (pt_cmpR op_lt (pe_op op_mulW (pv 3) (pe_ix ix_tup (pv 2) pe_int (fun _ _ => rfl))) (pe_op op_mulW (pv 3) (pe_ix ix_tup (pe_dget (hu_of hr) (pv 0) (pv 1) (fun _ _ => rfl)) pe_int (fun _ _ => rfl))) (nomark _))))) (pss_one (ps_dput (hu_of hr) (pv 0) (pv 1) (pv 2) rfl)) pss_nil)), ?_⟩
    have put : Q .non (upd H d (.dT (putK kvs (kS s) (.ref ea)))) → sDPut (tVar 0) (tVar 1) (tVar 2) { nx := fun x H' => Q V.non H', rt := Q } (L2.start n_keep_better [V.ref d, V.ref ga, V.ref ea, V.int sg]) H := fun q => ⟨_, rfl, _, rfl, _, rfl, d, _, rfl, DPut.t hd hg.key hl, q⟩
    cases ev : valV kvs (kS s) with
    | none => exact ⟨_, rfl, _, rfl, d, _, rfl, DGet.t hd hg.key, true, congrArg (fun o : Option V => V.bl (!o.isSome)) ev, iteT (put (q1 ev))⟩
    | some v =>
      obtain ⟨oa, c2, r2, rfl, ho, hm2, k1, k2⟩ := q2 v ev
      refine ⟨_, rfl, _, rfl, d, _, rfl, DGet.t hd hg.key, false, congrArg (fun o : Option V => V.bl (!o.isSome)) ev, iteF ?_⟩
      have ev' : some (V.ref oa) = valV kvs (kS s) := ev.symm
      refine ⟨_, rfl, _, rfl, ea, _, 0, .int c, rfl, rfl, SqT.of he, atI_nat (j := 0) rfl, sg, c, rfl, rfl, hm, ?_⟩
      refine ⟨_, rfl, _, rfl, _, rfl, d, .ref oa, rfl, by rw [ev']; exact DGet.t hd hg.key, oa, _, 0, .int c2, rfl, rfl, SqT.of ho, atI_nat (j := 0) rfl, sg, c2, rfl, rfl, hm2, sg * c, sg * c2, rfl, rfl, _, rfl, ifD (fun z => put (k1 z)) fun z => k2 z⟩
abbrev n_begins_of : List Str := ["layers", "first", "state"]
theorem sc_begins_of : FnScope n_begins_of ["layers", "first"] (defScope s_begins_of) := ⟨rfl, rfl, rfl, by decide +kernel, rfl, by decide +kernel, by decide +kernel⟩
theorem ok_begins_of (D : Df K mg "begins_of" s_begins_of) (T : TX K mg) : Fk P w K mg base 1 "begins_of" ["layers", "first"] spBeginsOf := by
  refine fk_of D sc_begins_of (fun _ _ _ _ _ _ us hl => match us, hl with | [_, _], _ => rfl) (fun vs H Q E h => ?_) (fun f cdv A outer s H vs Q E hr h => ?_)
  · obtain ⟨_, _, _, _, _, _, _, rfl, _⟩ := h
    rfl
  · obtain ⟨p, f, ds, T, m, t, x, rfl, hL, hdl, hf, q⟩ := h
    refine ⟨_, (pss_one (ps_ret (pe_lock (pe_lc (own := [("state", 2)]) (g := gName 2) (by rfl) sc_begins_of.nd (pi_keys (pe_ix ix_list (pv 0) (pe_un un_neg pe_int) (fun _ _ => rfl))) (blkOk_by (own := [("state", 2)]) (N := n_begins_of) (sc := defScope s_begins_of) (by decide +kernel)) (fun _ _ _ _ _ => (pg_name (i := 2) sc_begins_of.nd rfl (Or.inl rfl))) (fun _ _ _ _ _ => (pts_one (pt_cmpR op_eqI (pe_ix (ix_tupK (K := K) rfl) (pv 2) pe_int (fun _ _ => rfl)) (pe_ix (ix_tupK (K := K) rfl) (pv 1) pe_int (fun _ _ => rfl)) (nomark _)))) (fun _ _ _ _ _ => (pv 2)))))), ?_⟩
    obtain ⟨d, hd⟩ : ∃ d, ds[m]? = some d := ⟨ds[m], List.getElem?_eq_getElem (by omega)⟩
    obtain ⟨kvs, k1, k2, k3⟩ := (hL.lay m d hd).ex
    refine ⟨d, _, k1, True.intro, fun od => ?_⟩
    have npd : p ≠ d := ne_of hL.at_ k1 (by intro z; cases z)
    have hp : upd H d (.frz od (.dT kvs)) p = some (.lst (ds.map V.ref)) := by rw [upd_ne npd]; exact hL.at_
    have hff : Tp2 (upd H d (.frz od (.dT kvs))) f t x := TupK.upd k1 (by intro xs z; cases z) _ _ hf
    have dsl : ∃ ds0, ds = ds0 ++ [d] := by
      refine ⟨ds.take m, ?_⟩
      have := List.take_append_drop m ds
      rw [List.drop_eq_getElem_cons (by omega), List.drop_eq_nil_of_le (by omega)] at this
      rw [List.getElem?_eq_getElem (by omega)] at hd
      rw [Option.some.inj hd] at this
      exact this.symm
    obtain ⟨ds0, e0⟩ := dsl
    refine ⟨_, rfl, 1, rfl, p, ds.map V.ref, _, .ref d, rfl, rfl, SqL.of hp, by rw [e0, List.map_append]; exact atI_last _ _, d, od, rfl, .inr ⟨kvs, upd_same, fun Dl nD => ?_⟩⟩
    refine lc_it walk_keysT (fun i H' => Same (upd H d (.frz od (.dT kvs))) H' ∧ ∃ ss : List Sta, BdsAt H' Dl ss ∧ ss.length ≤ i ∧ ∀ s : Sta, s ∈ ss ↔ s.2 = x ∧ ∃ j, j < i ∧ (kvs[j]?.map (·.1)) = some (kS s))
      ⟨same_new nD, [], ⟨[], upd_same, rfl, fun i b h => by cases h⟩, Nat.le_refl _, fun s => ⟨fun h => (by cases h), fun ⟨_, j, hj, _⟩ => absurd hj (Nat.not_lt_zero _)⟩⟩ (fun i H' _ ⟨s1, _⟩ => s1 _ _ upd_same) ?_ ?_
    · rintro i v H'' H' hi ⟨s1, ss, hb, hsl, hss⟩ ⟨rfl, kk, vv, qa, e1, rfl, e3⟩
      obtain ⟨s, en, ea, hq, hT, hE, hB⟩ := k3.at k2 e1
      cases hq
      have hqa : Tp2 H' qa (s.1 : Nat) s.2 := e3
      have hqa2 : H' qa = some (.tup [.int (s.1 : Nat), .int s.2]) := e3
      refine ⟨rfl, _, rfl, qa, _, 1, .int s.2, rfl, rfl, SqT.of hqa2, atI_nat (j := 1) rfl, _, rfl, f, _, 1, .int x, rfl, rfl, SqT.of (s1 _ _ hff), atI_nat (j := 1) rfl, s.2, x, rfl, rfl, _, rfl, ifD (fun hsx => ?_) fun hsx => ?_⟩
      · obtain ⟨as, a1, a2, a3⟩ := hb.ex
        refine ⟨_, rfl, as.map V.ref, a1, ?_, fun b o eb => ?_, ss ++ [s], hb.add a1 hqa, by rw [List.length_append, List.length_singleton]; omega, fun s2 => ?_⟩
        · rw [List.length_map, a2]
          have := k2.len
          exact lt_line (by omega)
        · rw [upd_ne (ne_of_none eb nD)]
          exact s1 _ _ eb
        · rw [List.mem_append, List.mem_singleton, hss]
          constructor
          · rintro (⟨z1, j, z2, z3⟩ | rfl)
            · exact ⟨z1, j, by omega, z3⟩
            · exact ⟨hsx, i, by omega, by rw [e1]; rfl⟩
          · rintro ⟨z1, j, z2, z3⟩
            by_cases hji : j < i
            · exact .inl ⟨z1, j, hji, z3⟩
            · have : j = i := by omega
              subst this
              rw [e1] at z3
              exact .inr (kS_inj (Option.some.inj z3)).symm
      · refine ⟨s1, ss, hb, by omega, fun s2 => ?_⟩
        rw [hss]
        constructor
        · rintro ⟨z1, j, z2, z3⟩
          exact ⟨z1, j, by omega, z3⟩
        · rintro ⟨z1, j, z2, z3⟩
          by_cases hji : j < i
          · exact ⟨z1, j, hji, z3⟩
          · have : j = i := by omega
            subst this
            rw [e1] at z3
            rw [← kS_inj (Option.some.inj z3)] at z1
            exact absurd z1 hsx
    · rintro H' ⟨s1, ss, hb, hsl, hss⟩
      refine ⟨s1 _ _ upd_same, q _ Dl ss (same_unlock s1 k1) ?_ (by have := k2.len; omega) fun s2 => ?_⟩
      · obtain ⟨as, a1, a2, a3⟩ := hb.ex
        have hfd := s1 _ _ (upd_same (H := H) (a := d) (o := .frz od (.dT kvs)))
        refine ⟨as, by rw [upd_ne (ne_of a1 hfd (by intro z; cases z))]; exact a1, a2, fun i b e => ?_⟩
        obtain ⟨y, z1, z2⟩ := a3 i b e
        exact ⟨y, z1, TupK.upd hfd (by intro xs z; cases z) _ _ z2⟩
      · rw [hss]
        constructor
        · rintro ⟨z1, j, z2, z3⟩
          refine ⟨?_, z1⟩
          cases e : kvs[j]? with
          | none => rw [e] at z3; cases z3
          | some qq =>
            rw [e] at z3
            obtain ⟨s3, en, ea, hq, hT, _⟩ := k3.at k2 e
            subst hq
            rw [← kS_inj (Option.some.inj z3), hT]
            simp
        · rintro ⟨z1, z2⟩
          obtain ⟨j, v, hj⟩ := k3.ix z1
          exact ⟨z2, j, (List.getElem?_eq_some_iff.mp hj).1, by rw [hj]; rfl⟩
end
end Nl
namespace Nl
open PySem PySem.Spec PyProof.Rows L2
section
variable {P : Program} {w : World} {K : PySem.W.Frag} {mg : Str → Option Value} {base : Heap}
abbrev n_way_back : List Str := ["machine", "layers", "state", "found", "at", "entry"]
theorem sc_way_back : FnScope n_way_back ["machine", "layers", "state"] (defScope s_way_back) := ⟨rfl, rfl, rfl, by decide +kernel, rfl, by decide +kernel, by decide +kernel⟩
theorem ok_way_back (D : Df K mg "way_back" s_way_back) (T : TX K mg) (g_step_at : Fk P w K mg base 1 "step_at" ["machine", "event"] (spStepAt K)) : Fk P w K mg base 2 "way_back" ["machine", "layers", "state"] (spWayBack K) := by
  refine fk_of D sc_way_back (fun _ _ _ _ _ _ us hl => match us, hl with | [_, _, _], _ => rfl) (fun vs H Q E h => ?_) (fun f cdv A outer s H vs Q E hr h => ?_)
  · obtain ⟨_, _, _, _, _, _, _, _, _, _, _, _, _, _, _, _, rfl, _⟩ := h
    rfl
  · obtain ⟨mp, p, sa, n, es, g, sg, bg, m, T0, i, Dn, TT, ds, sz, en, rfl, hm, hM, hL, hdl, hmm, hI, hsa, hen, q⟩ := h
    refine ⟨_, (pss_cons (ps_set (i := 3) sc_way_back.nd rfl (Or.inl rfl) (pe_lst pa_nil))
      (pss_cons (ps_set (i := 4) sc_way_back.nd rfl (Or.inl rfl) (pe_op op_sub (pe_callB call_len_seq (by rfl) T.len (by decide +kernel) (pa_cons (pv 1) pa_nil)) pe_int))
      (pss_cons (ps_set (i := 5) sc_way_back.nd rfl (Or.inl rfl) (pe_dget (hu_of hr) (pe_ix ix_list (pv 1) (pv 4) (fun _ _ => rfl)) (pv 2) (fun _ _ => rfl)))
      (pss_cons (ps_while PassesOwn.never (pt_cmp (pc_notN (pe_ix ix_tup (pv 5) pe_int (fun _ _ => rfl)))) (pss_cons (ps_expr (pe_bm PySem.F.plainAttrs_list PySem.F.slot_list_append PySem.F.type_list_append mt_append (pv 3) (pa_cons (pe_ix ix_tup (pv 5) pe_int (fun _ _ => rfl)) pa_nil)))
       (pss_cons (ps_aug (i := 4) sc_way_back.nd rfl (.inl rfl) (pe_ix ix_tup (pe_fk g_step_at hr (by rfl) (pa_cons (pv 0) (pa_cons (pe_ix ix_tup (pv 5) pe_int (fun _ _ => rfl)) pa_nil))) pe_int (fun _ _ => rfl)) ip_sub)
       (pss_one (ps_set (i := 5) sc_way_back.nd rfl (Or.inl rfl) (pe_dget (hu_of hr) (pe_ix ix_list (pv 1) (pv 4) (fun _ _ => rfl)) (pe_ix ix_tup (pv 5) pe_int (fun _ _ => rfl)) (fun _ _ => rfl)))))))
      (pss_one (ps_ret (pe_revL (pv 3)))))))), ?_⟩
    refine ⟨Nat.zero_le _, fun Dl nD => ?_⟩
    have sD : Same H (upd H Dl (.lst [])) := same_new nD
    obtain ⟨d, hd⟩ : ∃ d, ds[m]? = some d := ⟨ds[m], List.getElem?_eq_getElem (by omega)⟩
    obtain ⟨kvs, k1, k2, k3⟩ := (hL.lay m d hd).ex
    obtain ⟨ea, v1, v2⟩ := (k3 sz).2 en hen
    have em : (m : Int) + 1 - 1 = (m : Int) := by omega
    refine ⟨_, rfl, p, _, rfl, .inl (SqL.of (sD _ _ hL.at_)), (m : Int) + 1, 1, by rw [List.length_map, hdl]; rfl, rfl, ?_⟩
    refine ⟨_, rfl, _, rfl, p, _, (m : Int) + 1 - 1, .ref d, rfl, rfl, SqL.of (sD _ _ hL.at_), at_of em (map_get hd), _, rfl, d, .ref ea, rfl, by rw [← v1]; exact DGet.t (sD _ _ k1) (Tp2.key (sD _ _ hsa)), ?_⟩
    refine while_by (fun σ H' => ∃ (k : Nat) (sk : Sta) (ek : Ent) (r2 : List Nat) (c2 : Int) (ea : Addr), σ = [some (.ref mp), some (.ref p), some (.ref sa), some (.ref Dl), some (.int (k : Nat)), some (.ref ea)] ∧ k ≤ m ∧ Same H H' ∧ H' Dl = some (.lst (r2.reverse.map fun j => V.int (j : Nat))) ∧
        TT k sk = some ek ∧ EntAt H' ea ek ∧ Way es g (bg + k) sk (bg + m) sz r2 c2 ∧ en.1 = ek.1 + c2) (fun σ _ => match σ with | [_, _, _, _, some (.int y), _] => y.toNat | _ => 0)
      ⟨m, sz, en, [], 0, ea, (by show [_, _, _, _, some (V.int ((m : Int) + 1 - 1)), _] = _; rw [em]), Nat.le_refl _, sD, upd_same, hen, v2.keep (.of sD), Way.nil, by omega⟩ ?_ ?_
    · rintro σ H' ⟨k, sk, ⟨ck, vk⟩, r2, c2, ea, rfl, hk, sm, hDl, hT, hE, hw, hc⟩
      cases vk with
      | none =>
        have hE : H' ea = some (.tup [.int ck, .non, .non]) := hE
        refine ⟨_, rfl, ea, _, 1, .non, rfl, rfl, SqT.of hE, atI_nat (j := 1) rfl, _, rfl, iteF ?_⟩
        have e0 := hI.non k sk ck hT
        subst e0
        rw [hI.zero] at hT
        have hT0 : T0 sk = some ck := by
          cases e : T0 sk with
          | none => rw [e] at hT; cases hT
          | some c0 => rw [e] at hT; cases hT; rfl
        refine ⟨_, rfl, Dl, _, rfl, SqL.of hDl, fun pz nz => ?_⟩
        refine q _ pz r2 sk ck c2 (sm.trans (same_new nz)) ?_ hT0 hw hc
        rw [upd_same, ← List.map_reverse, List.reverse_reverse]
      | some js =>
        obtain ⟨j, s'⟩ := js
        obtain ⟨ka, hE1, hE2⟩ := hE
        obtain ⟨e, c', v', h1, h2, h3, h4, h5, h6, h7⟩ := hI.via k sk ck j s' hT
        refine ⟨_, rfl, ea, _, 1, .int (j : Nat), rfl, rfl, SqT.of hE1, atI_nat (j := 1) rfl, _, rfl, iteT ?_⟩
        have hlen : r2.length ≤ m := by
          have := hw.len hM
          omega
        have ndl : ∀ b o, H b = some o → b ≠ Dl := fun b o e => ne_of_none e nD
        have tD : TupK H' (upd H' Dl (.lst (r2.reverse.map (fun j => V.int (j : Nat)) ++ [.int (j : Nat)]))) := TupK.upd hDl (by intro xs z; cases z)
        have sm2 : Same H (upd H' Dl (.lst (r2.reverse.map (fun j => V.int (j : Nat)) ++ [.int (j : Nat)]))) := fun b o eb => by
          rw [upd_ne (ndl b o eb)]
          exact sm _ _ eb
        refine ⟨_, rfl, .inl ⟨rfl, _, SqL.of hDl⟩, _, rfl, ea, _, 1, .int (j : Nat), rfl, rfl, SqT.of hE1, atI_nat (j := 1) rfl, Dl, _, _, rfl, rfl, hDl, ?_, ?_⟩
        · rw [List.length_map, List.length_reverse]
          exact lt_line (by omega)
        have ht := (hM.at h1).2.2.1
        obtain ⟨d', hd'⟩ : ∃ d', ds[k - e.t]? = some d' := ⟨ds[k - e.t]'(by omega), List.getElem?_eq_getElem (by omega)⟩
        obtain ⟨kvs', y1, y2, y3⟩ := ((hL.same sm2).lay _ d' hd').ex
        obtain ⟨ea', z1, z2⟩ := (y3 s').2 _ h6
        refine ⟨_, rfl, _, rfl, _, rfl, ea, _, 1, .int (j : Nat), rfl, rfl, SqT.of (tD _ _ hE1), atI_nat (j := 1) rfl, mp, j, n, es, e, rfl, hm.same sm2, h1, fun x hx => ?_⟩
        refine ⟨x, _, 2, .int (e.t : Nat), rfl, rfl, SqT.of hx, atI_nat (j := 2) rfl, _, _, rfl, rfl, ?_⟩
        refine ⟨_, rfl, _, rfl, p, _, _, .ref d', rfl, rfl, SqL.of (hL.same sm2).at_, at_of (j := k - e.t) ?_ (map_get hd'), _, rfl, ea, _, 2, .ref ka, rfl, rfl, SqT.of (tD _ _ hE1), atI_nat (j := 2) rfl, d', .ref ea', rfl, by rw [← z1]; exact DGet.t y1 (Tp2.key (tD _ _ hE2)), ?_⟩
        · show (k : Int) - (e.t : Int) = _
          omega
        have ek : ((k : Int) - (e.t : Int)) = ((k - e.t : Nat) : Int) := by omega
        refine ⟨⟨k - e.t, s', (c', v'), j :: r2, g (bg + k) sk.2 + c2, ea', ?_, by omega, sm2, ?_, h6, z2, ?_, ?_⟩, ?_⟩
        · show [_, _, _, _, some (V.int ((k : Int) - (e.t : Int))), _] = _
          rw [ek]
        · rw [upd_same, List.reverse_cons, List.map_append]
          rfl
        · have eb : bg + (k - e.t) + e.t = bg + k := by omega
          have w2 := Way.cons (es := es) (g := g) (t := bg + (k - e.t)) (s := s') h1 h2 (t2 := bg + m) (s2 := sz) (r := r2) (c := c2) (by rw [eb, ← h3]; exact hw)
          rw [eb] at w2
          rw [h3]
          exact w2
        · rw [hc, h7]
          show c' + _ + c2 = c' + (_ + c2)
          omega
        · show ((k : Int) - (e.t : Int)).toNat < ((k : Nat) : Int).toNat
          omega
    · intro σ H Q Q' hq h
      obtain ⟨v, e, a, xs, i, x, e1, e2, e3, e4, b, e5, q⟩ := h
      exact ⟨v, e, a, xs, i, x, e1, e2, e3, e4, b, e5, hq _ _ q⟩
end
end Nl
namespace Nl
open PySem PySem.Spec PyProof.Rows L2
structure StartAt (H : Hp) (a : Addr) (T0 : Sta → Option Int) : Prop where
  ex : ∃ kvs, H a = some (.dT kvs) ∧ Box kvs ∧ ∀ s, (T0 s = none → valV kvs (kS s) = none) ∧ ∀ c, T0 s = some c → valV kvs (kS s) = some (.int c)
def T0Ok (n : Nat) (T0 : Sta → Option Int) : Prop := ∀ s c, T0 s = some c → s.1 < n ∧ -1500 ≤ s.2 ∧ s.2 ≤ 1500 ∧ 0 ≤ c ∧ c ≤ 1
section
variable {es : List Ev} {g : Nat → Int → Int} {n : Nat} {sg : Int} {bg m : Nat} {T0 : Sta → Option Int} {i : Nat} {Dn : Nat → Sta → Nat → Prop} {T : Nat → Sta → Option Ent}
theorem TInv.small (M : MOk n es) (I : TInv es g sg bg m T0 i Dn T) (hg : ∀ t x, 0 ≤ g t x ∧ g t x ≤ 1) (h0 : T0Ok n T0) (hm : m ≤ 300) {k : Nat} {s : Sta} {c : Int} {v : Option (Nat × Sta)} (h : T k s = some (c, v)) : k ≤ m ∧ s.1 < n ∧ -2700 ≤ s.2 ∧ s.2 ≤ 2700 ∧ 0 ≤ c ∧ c ≤ 301 := by
  have hk : k ≤ m := by
    rcases Nat.lt_or_ge m k with q | q
    · rw [I.top k s q] at h; cases h
    · exact q
  obtain ⟨s0, c0, r, c1, e0, w, ec⟩ := I.chain M k s c v h
  obtain ⟨z1, z2, z3, z4, z5⟩ := h0 s0 c0 e0
  obtain ⟨b1, b2, b3⟩ := w.box M z1
  obtain ⟨c2, c3⟩ := w.cnt M hg
  refine ⟨hk, b1, by omega, by omega, by omega, by omega⟩
theorem ix0 (m : Nat) : ixN (m + 1) 0 = some 0 := by
  unfold ixN
  rw [if_pos (by omega), if_pos (by omega)]
  rfl
def T1 (T0 : Sta → Option Int) : Nat → Sta → Option Ent := fun k s => if k = 0 then (T0 s).map fun c => (c, none) else none
theorem TInv.init : TInv es g sg bg m T0 0 (fun k _ _ => k < 0) (T1 T0) := by
  refine ⟨fun s => rfl, fun k s c h => ?_, fun k s c j s' h => ?_, fun k s h => if_neg (by omega), fun k s j e c v h => absurd h (Nat.not_lt_zero _)⟩
  · unfold T1 at h
    split at h
    · assumption
    · cases h
  · unfold T1 at h
    split at h
    · cases e : T0 s with
      | none => rw [e] at h; cases h
      | some c0 => rw [e] at h; cases h
    · cases h
end
/-- the call of the function in slot i, by what it counts -/
def tGain (i : Nat) (fg : Addr) (GH : Hp → Prop) (g : Nat → Int → Int) (t : TA) : TE := fun σ H Q => σ[i]? = some (some (.ref fg)) ∧ GH H ∧ t σ H fun vs H1 => ∃ (a : Nat) (x : Int), vs = [.int (a : Nat), .int x] ∧ a ≤ 100000 ∧ x.natAbs ≤ 100000 ∧ GH H1 ∧ Q (.int (g a x)) H1
def TrPre (K : PySem.W.Frag) (GH : Hp → Prop) (g : Nat → Int → Int) (fg : Addr) (vs : List V) (H : Hp) (Q : VK) : Prop :=
  ∃ (mp sp : Addr) (n : Nat) (es : List Ev) (sg : Int) (bg m : Nat) (T0 : Sta → Option Int), vs = [.ref mp, .ref sp, .int (bg : Nat), .int ((bg + m : Nat) : Int), .ref fg, .int sg] ∧ MachAt (mC K) H mp n es ∧ MOk n es ∧ StartAt H sp T0 ∧ T0Ok n T0 ∧ (sg = 1 ∨ sg = -1) ∧ m ≤ 300 ∧ bg ≤ 1000 ∧ GH H ∧
    ∀ (H' : Hp) (p : Addr) (ds : List Addr) (T : Nat → Sta → Option Ent), Same H H' → LaysAt H' p ds T → ds.length = m + 1 → TInv es g sg bg m T0 m (fun k _ _ => k < m) T → Q (.ref p) H'
abbrev n_traced : List Str := ["machine", "starts", "begin", "end", "gain", "sign", "tries", "layers", "state", "entry", "event", "step", "later", "goal"]
theorem sc_traced : FnScope n_traced ["machine", "starts", "begin", "end", "gain", "sign"] (defScope s_traced) := ⟨rfl, rfl, rfl, by decide +kernel, rfl, by decide +kernel, by decide +kernel⟩
section
variable {P : Program} {w : World} {K : PySem.W.Frag} {mg : Str → Option Value} {base : Heap}
theorem traced_walk {k : Nat} {f : Addr} {cdv : Value} {A : Around} {outer : List Env} {s : Shared} {H : Hp} {E : XK} {GH : Hp → Prop} {g : Nat → Int → Int} {fg : Addr} (T : TX K mg) (g_step_at : Fk P w K mg base 1 "step_at" ["machine", "event"] (spStepAt K)) (g_keep_better : Fk P w K mg base 1 "keep_better" ["layer", "goal", "entry", "sign"] spKeepBetter)
    (hr : Room k (A.deeper (envOfC "traced" (defScope s_traced) s.heap.objs.size f cdv))) (hk : 1 ≤ k) (hgm : ∀ H H', GH H → Same H H' → GH H') (hg01 : ∀ t x, 0 ≤ g t x ∧ g t x ≤ 1)
    (hG : ∀ (e : Expr) (es : List Expr) (p pos : Pos) (t : TA), PA (cxOf CX0 P w K mg base n_traced "traced" (defScope s_traced) f cdv A outer s H E).nox (e :: es) t →
      starEach (e :: es) (cxOf CX0 P w K mg base n_traced "traced" (defScope s_traced) f cdv A outer s H E).nox.env = (false, eval e (cxOf CX0 P w K mg base n_traced "traced" (defScope s_traced) f cdv A outer s H E).nox.env) :: starEach es (cxOf CX0 P w K mg base n_traced "traced" (defScope s_traced) f cdv A outer s H E).nox.env →
      (backTo pos (starEach es (cxOf CX0 P w K mg base n_traced "traced" (defScope s_traced) f cdv A outer s H E).nox.env)).any (·.1) = false →
      PE (cxOf CX0 P w K mg base n_traced "traced" (defScope s_traced) f cdv A outer s H E).nox (.Call (.Name "gain" p) (e :: es) [] pos) (tGain 4 fg GH g t)) :
    ∃ t, PSs (cxOf CX0 P w K mg base n_traced "traced" (defScope s_traced) f cdv A outer s H E).nox (defBody s_traced) t ∧ ∀ vs Q, TrPre K GH g fg vs H Q → t { nx := fun _ H' => Q .non H', rt := Q } (start n_traced vs) H := by
  refine ⟨_, (pss_cons (ps_setLc (i := 7) (own := [("tries", 6)]) (g := gName 6) (tt := tYes) (by rfl) sc_traced.nd rfl rfl (sw_true rfl rfl rfl (by decide +kernel)) (pi_range2 (by rfl) T.range (pa_cons (pv 2) (pa_cons (pe_op op_add (pv 3) pe_int) pa_nil))) (blkOk_by (own := [("tries", 6)]) (N := n_traced) (sc := defScope s_traced) (by decide +kernel)) (fun _ _ _ _ _ => (pg_name (i := 6) sc_traced.nd rfl (Or.inl rfl))) (fun _ _ _ _ _ => pts_nil) (fun _ _ _ _ _ => pe_dnewT))
      (pss_cons (ps_asg (pe_lock (pe_dcT (own := [("state", 8)]) (g := gName 8) (Nat.lt_of_succ_lt (hu_of hr)) (by rfl) sc_traced.nd (pi_keys (pv 1)) (blkOk_by (own := [("state", 8)]) (N := n_traced) (sc := defScope s_traced) (by decide +kernel)) (fun _ _ _ _ _ => (pg_name (i := 8) sc_traced.nd rfl (Or.inl rfl))) (fun _ _ _ _ _ => (pv 8)) (fun _ _ _ _ _ _ _ _ => (pe_tup (pa_cons (pe_dget (hu_of hr) (pv 1) (pv 8) (fun _ _ => rfl)) (pa_cons pe_non (pa_cons pe_non pa_nil))))))) (pg_sub (pv 7) pe_int set_list))
      (pss_cons (ps_for PassesOwn.never (by rfl) (pi_range2 (by rfl) T.range (pa_cons (pv 2) (pa_cons (pv 3) pa_nil))) (pg_name (i := 6) sc_traced.nd rfl (Or.inl rfl))
       (pss_one (ps_for PassesOwn.never (by rfl) (pi_list (pe_callTy (call_listItT (by rfl)) (by rfl) T.list (by decide +kernel) (pa_cons (pe_bm0 PySem.F.plainAttrs_dict PySem.F.slot_dict_items PySem.F.type_dict_items L2.DX.mt_itemsT (pe_ix ix_list (pv 7) (pe_op op_sub (pv 6) (pv 2)) (fun _ _ => rfl))) pa_nil))) (pg_tup rfl (pgs_cons (pg_name (i := 8) sc_traced.nd rfl (Or.inl rfl)) (pgs_cons (pg_name (i := 9) sc_traced.nd rfl (Or.inl rfl)) pgs_nil)))
        (pss_one (ps_for PassesOwn.never (by rfl) (pi_list (pe_ix ix_list (pe_fld (pv 0) rfl) (pe_ix ix_tup (pv 8) pe_int (fun _ _ => rfl)) (fun _ _ => rfl))) (pg_name (i := 10) sc_traced.nd rfl (Or.inl rfl))
         (pss_cons (ps_set (i := 11) sc_traced.nd rfl (Or.inl rfl) (pe_fk g_step_at hr (by rfl) (pa_cons (pv 0) (pa_cons (pv 10) pa_nil)) hk))
         (pss_cons (ps_set (i := 12) sc_traced.nd rfl (Or.inl rfl) (pe_op op_add (pv 6) (pe_ix ix_tup (pv 11) pe_int (fun _ _ => rfl))))
         (pss_cons (ps_set (i := 13) sc_traced.nd rfl (Or.inl rfl) (pe_tup (pa_cons (pe_ix ix_tup (pv 11) pe_int (fun _ _ => rfl)) (pa_cons (pe_op op_add (pe_ix ix_tup (pv 8) pe_int (fun _ _ => rfl)) (pe_ix ix_tup (pv 11) pe_int (fun _ _ => rfl))) pa_nil))))
         (pss_one (ps_if (pt_cmpR op_le (pv 12) (pv 3) (nomark _)) (pss_one (ps_expr (pe_fk g_keep_better hr (by rfl) (pa_cons (pe_ix ix_list (pv 7) (pe_op op_sub (pv 12) (pv 2)) (fun _ _ => rfl)) (pa_cons (pv 13) (pa_cons (pe_tup (pa_cons (pe_op op_add (pe_ix ix_tup (pv 9) pe_int (fun _ _ => rfl)) (hG _ _ _ _ _ (pa_cons (pv 12) (pa_cons (pe_ix ix_tup (pv 13) pe_int (fun _ _ => rfl)) pa_nil)) (by rfl) (by rfl))) (pa_cons (pv 10) (pa_cons (pv 8) pa_nil)))) (pa_cons (pv 5) pa_nil)))) hk))) pss_nil))))))))))
      (pss_one (ps_ret (pv 7)))))), ?_⟩
  intro vs Q h
  obtain ⟨mp, sp, n, es, sg, bg, m, T0, rfl, hm, hM, hst, hT0, hsg, hm300, hbg, hGH, q⟩ := h
  -- the layers, still empty
  have el : ((bg : Int) + m + 1 - bg).toNat = m + 1 := by omega
  refine ⟨_, rfl, _, rfl, ((bg + m : Nat) : Int), 1, rfl, rfl, (bg : Int), ((bg + m : Nat) : Int) + 1, rfl, by omega, fun Dl nD => lc_range (lo := (bg : Int)) (n := (((bg + m : Nat) : Int) + 1 - (bg : Int)).toNat) (fun i H' => ∃ ks : List Addr, Same H H' ∧ H' Dl = some (.lst (ks.map V.ref)) ∧ ks.length = i ∧ ks.Nodup ∧ Dl ∉ ks ∧ ∀ k ∈ ks, H' k = some (.dT []) ∧ H k = none)
      ⟨[], same_new nD, upd_same, rfl, List.nodup_nil, by simp, fun k hk => by cases hk⟩ ?_ ?_⟩
  · rintro i H' hi ⟨ks, sm, hD, hl, nd, hDk, hk⟩
    refine ⟨rfl, fun k nk => ⟨ks.map V.ref, ?_, ?_, ks ++ [k], ?_, ?_, ?_, ?_, ?_, ?_⟩⟩
    · rw [upd_ne (ne_of_none hD nk)]; exact hD
    · rw [List.length_map]; exact lt_line (by omega)
    · intro b o e
      have nbD : b ≠ Dl := fun z => by rw [z, nD] at e; cases e
      rw [upd_ne nbD, upd_ne (ne_of_none (sm _ _ e) nk)]
      exact sm _ _ e
    · rw [upd_same, List.map_append]; rfl
    · rw [List.length_append, List.length_singleton, hl]
    · refine List.nodup_append.mpr ⟨nd, by simp, fun a ha b hb => ?_⟩
      rw [List.mem_singleton.mp hb]
      exact ne_of_none (hk a ha).1 nk
    · intro z
      rcases List.mem_append.mp z with z | z
      · exact hDk z
      · exact ne_of_none hD nk (List.mem_singleton.mp z)
    · intro b hb
      rcases List.mem_append.mp hb with z | z
      · have nb : b ≠ Dl := fun y => hDk (y ▸ z)
        rw [upd_ne nb, upd_ne (ne_of_none (hk b z).1 nk)]
        exact hk b z
      · rw [List.mem_singleton.mp z]
        refine ⟨by rw [upd_ne (ne_of_none hD nk).symm, upd_same], ?_⟩
        exact sm.free nk
  rintro H1 ⟨ks, sm1, hD1, hl1, nd1, hDk1, hk1⟩
  have hl1 : ks.length = m + 1 := by rw [hl1]; omega
  -- the first layer
  obtain ⟨skv, s1, s2, s3⟩ := hst.ex
  have sp1 := sm1 _ _ s1
  refine ⟨sp, .dT skv, sp1, True.intro, fun od => ⟨_, rfl, sp, od, rfl, .inr ⟨skv, upd_same, fun Dd nDd => ?_⟩⟩⟩
  have tkL : TupK H1 (upd H1 sp (.frz od (.dT skv))) := TupK.upd sp1 (by intro xs z; cases z)
  refine dc_it walk_keysT (fun i H' => Same (upd H1 sp (.frz od (.dT skv))) H' ∧ ∃ (kv2 : List (List L2.Key × V)) (T' : Sta → Option Ent), H' Dd = some (.dT kv2) ∧ Box kv2 ∧ LayV H' kv2 T' ∧ (∀ s en, T' s = some en → (T0 s).map (fun c => ((c, none) : Ent)) = some en) ∧ ∀ j, j < i → ∀ s, (skv[j]?.map (·.1)) = some (kS s) → T' s ≠ none)
    ⟨same_new nDd, [], fun _ => none, upd_same, Box.nil, fun s => ⟨fun _ => rfl, fun en e => by cases e⟩, fun s en e => (by cases e), fun j hj => absurd hj (Nat.not_lt_zero _)⟩ (fun i H' _ ⟨z, _⟩ => z _ _ upd_same) ?_ ?_
  · rintro i x H2 H' hi ⟨sm2, kv2, T', d1, d2, d3, d4, d5⟩ ⟨rfl, kk, vv, qa, e1, rfl, e3⟩
    have hmem := List.mem_of_getElem? e1
    obtain ⟨st, h1, hB⟩ := s2.bx kk (List.mem_map.mpr ⟨_, hmem, rfl⟩)
    subst h1
    have hv := valV_mem s2.nd _ hmem
    have hv : valV skv (kS st) = some vv := hv
    obtain ⟨c0, hc0⟩ : ∃ c0, T0 st = some c0 := by
      cases e : T0 st with
      | none => rw [(s3 st).1 e] at hv; cases hv
      | some c0 => exact ⟨c0, rfl⟩
    have hvv := (s3 st).2 c0 hc0
    refine ⟨rfl, _, rfl, _, rfl, _, rfl, sp, .int c0, rfl, .inr ⟨skv, kS st, qa, .inr ⟨od, sm2 _ _ upd_same⟩, rfl, e3, hvv.symm⟩, le_line (n := 3) (by decide), fun ea nea => ?_⟩
    have sm3 := sm2.trans (same_new (o := HO.tup [.int c0, .non, .non]) nea)
    have nDe : Dd ≠ ea := ne_of_none d1 nea
    have hqa : upd H' ea (.tup [.int c0, .non, .non]) qa = some (.tup ((kS st).map kV)) := by rw [upd_ne (ne_of_none e3 nea)]; exact e3
    have d1' : upd H' ea (.tup [.int c0, .non, .non]) Dd = some (.dT kv2) := by rw [upd_ne nDe]; exact d1
    have en : EntAt (upd H' ea (.tup [.int c0, .non, .non])) ea (c0, none) := upd_same
    have d3' := (d3.keep (.of (same_new (o := HO.tup [.int c0, .non, .non]) nea))).put (s := st) en
    refine ⟨kv2, kS st, qa, rfl, hqa, d1', d2.lt, fun b o eb => ?_, _, _, upd_same, d2.put hB _, d3'.keep (TupK.upd d1' (by intro xs z; cases z)), fun s4 en4 h4 => ?_, fun j hj s4 h4 => ?_⟩
    · rw [upd_ne (ne_of_none eb nDd)]
      exact sm3 _ _ eb
    · by_cases z : s4 = st
      · simp only [if_pos z] at h4
        subst z
        rw [hc0]
        exact h4
      · simp only [if_neg z] at h4
        exact d4 s4 en4 h4
    · by_cases z : s4 = st
      · simp only [if_pos z]
        simp
      · simp only [if_neg z]
        by_cases hji : j < i
        · exact d5 j hji s4 h4
        · have : j = i := by omega
          subst this
          rw [e1] at h4
          exact absurd (kS_inj (Option.some.inj h4)).symm z
  rintro H2 ⟨sm2, kv2, T', d1, d2, d3, d4, d5⟩
  have eT' : ∀ s, T' s = (T0 s).map fun c => ((c, none) : Ent) := fun s4 => by
    cases e : T' s4 with
    | some en => exact (d4 s4 en e).symm
    | none =>
      cases e0 : T0 s4 with
      | none => rfl
      | some c0 =>
        obtain ⟨j, hj⟩ := valV_get ((s3 s4).2 c0 e0)
        exact absurd e (d5 j (List.getElem?_eq_some_iff.mp hj).1 s4 (by rw [hj]; rfl))
  have smu := same_unlock sm2 sp1
  have hspf := sm2 _ _ (upd_same (H := H1) (a := sp) (o := .frz od (.dT skv)))
  refine ⟨hspf, _, rfl, Dl, ks.map V.ref, 0, 0, rfl, rfl, smu _ _ hD1, by rw [List.length_map, hl1]; exact ix0 m, ?_⟩
  generalize hHb : upd (upd H2 sp (.dT skv)) Dl (.lst ((ks.map V.ref).set 0 (.ref Dd))) = H3
  have nDds : Dd ≠ sp := fun z => by rw [z, hspf] at d1; cases d1
  have nDdl : Dd ≠ Dl := fun z => by
    have := sm2 Dl (.lst (ks.map V.ref)) (by rw [upd_ne (fun z => by rw [z, sp1] at hD1; cases hD1)]; exact hD1)
    rw [← z, d1] at this
    cases this
  have nDdk : Dd ∉ ks := fun z => by
    have h1 := (hk1 _ z).1
    have h2 : upd H1 sp (.frz od (.dT skv)) Dd = some (.dT []) := by rw [upd_ne nDds]; exact h1
    rw [nDd] at h2
    cases h2
  have hH : ∀ b o, H b = some o → b ≠ Dl := fun b o e z => by rw [z, nD] at e; cases e
  have sm3 : Same H H3 := fun b o e => by
    rw [← hHb, upd_ne (hH b o e)]
    exact smu _ _ (sm1 _ _ e)
  have off3 : ∀ b, b ≠ Dl → b ≠ sp → H3 b = H2 b := fun b h1 h2 => by rw [← hHb, upd_ne h1, upd_ne h2]
  have tk3 : TupK H2 H3 := by
    rw [← hHb]
    refine TupK.trans (TupK.upd (o := .dT skv) hspf (by intro xs z; cases z)) (TupK.upd (smu _ _ hD1) (by intro xs z; cases z))
  obtain ⟨k0, kr, rfl⟩ : ∃ k0 kr, ks = k0 :: kr := by
    cases ks with
    | nil => cases hl1
    | cons a r => exact ⟨a, r, rfl⟩
  have nd3 : (Dd :: kr).Nodup := List.nodup_cons.mpr ⟨fun z => nDdk (List.mem_cons.mpr (.inr z)), (List.nodup_cons.mp nd1).2⟩
  have hL3 : LaysAt H3 Dl (Dd :: kr) (T1 T0) := by
    refine ⟨by rw [← hHb, upd_same]; rfl, nd3, fun k d e => ?_⟩
    cases k with
    | zero =>
      cases e
      refine ⟨kv2, by rw [off3 _ nDdl nDds]; exact d1, d2, fun s4 => ?_⟩
      have := (d3.keep tk3) s4
      rw [eT'] at this
      exact this
    | succ k =>
      have hd : d ∈ kr := List.mem_of_getElem? (show kr[k]? = some d from e)
      obtain ⟨z1, z2⟩ := hk1 d (List.mem_cons.mpr (.inr hd))
      have z3 : d ≠ sp := fun y => by rw [y, s1] at z2; cases z2
      have z4 : d ≠ Dl := fun y => hDk1 (by rw [← y]; exact List.mem_cons.mpr (.inr hd))
      refine ⟨[], by rw [off3 _ z4 z3]; exact sm2 _ _ (by rw [upd_ne z3]; exact z1), Box.nil, fun s4 => ⟨fun _ => rfl, fun en e => ?_⟩⟩
      have : T1 T0 (k + 1) s4 = none := if_neg (by omega)
      rw [this] at e
      cases e
  have hfree : ∀ d ∈ Dd :: kr, H d = none := fun d hd => by
    rcases List.mem_cons.mp hd with e | e
    · subst e
      have h2 : H1 d = none := by
        rw [upd_ne nDds] at nDd
        exact nDd
      exact sm1.free h2
    · exact (hk1 d (List.mem_cons.mpr (.inr e))).2
  have hdl3 : (Dd :: kr).length = m + 1 := hl1
  generalize (Dd :: kr) = ds at hL3 hfree hdl3
  clear hHb off3 tk3 d1 d2 d3 d4 d5 sm2 smu hspf nDds nDdl nDdk nd3 hk1 hDk1 nd1 hD1 sm1 sp1 tkL nDd hl1
  -- the turns
  refine ⟨_, rfl, _, rfl, (bg : Int), ((bg + m : Nat) : Int), rfl, by omega, for_range (lo := (bg : Int)) (n := (((bg + m : Nat) : Int) - (bg : Int)).toNat) (fun i σ H' => ∃ v6 v8 v9 v10 v11 v12 v13 TT, σ = [some (.ref mp), some (.ref sp), some (.int (bg : Nat)), some (.int ((bg + m : Nat) : Int)), some (.ref fg), some (.int sg), v6, some (.ref Dl), v8, v9, v10, v11, v12, v13] ∧
      Same H H' ∧ LaysAt H' Dl ds TT ∧ TInv es g sg bg m T0 i (fun k _ _ => k < i) TT) ⟨_, _, _, _, _, _, _, T1 T0, rfl, sm3, hL3, TInv.init⟩ ?_ ?_⟩
  · rintro i σ H4 hi ⟨v6, v8, v9, v10, v11, v12, v13, TT, rfl, sm4, hL4, hI4⟩
    have him : i < m := by omega
    obtain ⟨d, hd⟩ : ∃ d, ds[i]? = some d := ⟨ds[i]'(by omega), List.getElem?_eq_getElem (by omega)⟩
    obtain ⟨kvs, y1, y2, y3⟩ := (hL4.lay i d hd).ex
    refine ⟨_, rfl, _, rfl, _, rfl, (bg : Int) + (i : Int), (bg : Int), rfl, rfl, Dl, _, _, .ref d, rfl, rfl, SqL.of hL4.at_, at_of (j := i) (by omega) (map_get hd), .inr (.inr (.inl ⟨rfl, .inr ⟨kvs, y1⟩⟩)), d, kvs, rfl, rfl, y1, fun vp nvp => ?_⟩
    refine ⟨vp, d, kvs, rfl, upd_same, by rw [upd_ne (ne_of_none y1 nvp)]; exact y1, fun H5 l ts sm5 nl hl hlen hts => ?_⟩
    have sm45 : Same H4 H5 := (same_new nvp).trans sm5
    refine ⟨l, rfl, ⟨_, SqL.of hl⟩, ?_⟩
    have hdl : ∀ x ∈ ds, x ≠ l := fun x hx => by
      obtain ⟨jx, hjx⟩ := List.mem_iff_getElem?.mp hx
      obtain ⟨kx, hkx, _⟩ := (hL4.lay jx x hjx).ex
      exact ne_of (sm45 _ _ hkx) hl (by intro z; cases z)
    refine for_list (fun a σ H' => ∃ v8 v9 v10 v11 v12 v13 TT', σ = [some (.ref mp), some (.ref sp), some (.int (bg : Nat)), some (.int ((bg + m : Nat) : Int)), some (.ref fg), some (.int sg), some (.int ((bg : Int) + (i : Int))), some (.ref Dl), v8, v9, v10, v11, v12, v13] ∧
        Same H H' ∧ H' l = some (.lst (ts.map V.ref)) ∧ TupK H5 H' ∧ LaysAt H' Dl ds TT' ∧ (∀ s, TT' i s = TT i s) ∧
        TInv es g sg bg m T0 i (fun k s j => k < i ∨ (k = i ∧ (∃ a', a' < a ∧ (kvs[a']?.map (·.1)) = some (kS s)) ∧ ∃ e, es[j]? = some e ∧ e.b = s.1)) TT')
      ⟨_, _, _, _, _, _, TT, rfl, sm4.trans sm45, hl, fun _ _ h => h, hL4.same sm45, fun s => rfl, hI4.weak fun k s j h => h.elim id fun ⟨_, ⟨a', ha', _⟩, _⟩ => absurd ha' (Nat.not_lt_zero _)⟩ (fun a σ H' _ ⟨_, _, _, _, _, _, _, _, _, z, _⟩ => SqL.of z) ?_ ?_
    · rintro a x σ H6 hx ⟨v8, v9, v10, v11, v12, v13, TT', rfl, sm6, hl6, tk6, hL6, hTi, hI6⟩
      obtain ⟨ta, hta, rfl⟩ := of_map_get hx
      have halt := (List.getElem?_eq_some_iff.mp hta).1
      obtain ⟨qq, hqq⟩ : ∃ qq, kvs[a]? = some qq := ⟨kvs[a]'(by omega), List.getElem?_eq_getElem (by omega)⟩
      obtain ⟨st, en, ea, rfl, hTs, hE, hB⟩ := y3.at y2 hqq
      obtain ⟨ta', sa, w1, w2, w3⟩ := hts a _ hqq
      rw [hta] at w1
      cases w1
      have w2 : H5 ta = some (.tup [.ref sa, .ref ea]) := w2
      have w3 : H5 sa = some (.tup [.int (st.1 : Nat), .int st.2]) := w3
      obtain ⟨c, v⟩ := en
      have hE5 : EntAt H5 ea (c, v) := hE.keep (.of sm45)
      refine ⟨ta, _, rfl, SqT.of (tk6 _ _ w2), rfl, _, _, rfl, _, _, rfl, rfl, ?_⟩
      have hms := hm.same sm6
      obtain ⟨dx, evs, ko, kk, fs, m1, m2, m3, m4, m5, m6, m7⟩ := hms.ex
      have hsm := hI6.small hM hg01 hT0 hm300 (k := i) (s := st) (c := c) (v := v) (by rw [hTi]; exact hTs)
      obtain ⟨ka, hka, hkv⟩ := m7 st.1 hsm.2.1
      refine ⟨_, rfl, mp, _, dx, _, _, rfl, m1, T.cl, T.nKo, m3, _, rfl, sa, _, 0, .int (st.1 : Nat), rfl, rfl, SqT.of (tk6 _ _ w3), atI_nat (j := 0) rfl, ko, _, (st.1 : Int), .ref ka, rfl, rfl, SqL.of m5, at_of rfl (map_get hka), ka, rfl, ⟨_, SqL.of hkv⟩, ?_⟩
      -- where the list of event numbers lies is no layer and not new
      have hkaH : ∃ o, H ka = some o := by
        obtain ⟨dx', evs', ko', kk', fs', p1, p2, p3, p4, p5, p6, p7⟩ := hm.ex
        obtain ⟨ka', u1, u2⟩ := p7 st.1 hsm.2.1
        have q1 := sm6 _ _ p1
        rw [m1] at q1
        injection q1 with q1
        injection q1 with _ _ q1
        subst q1
        rw [p3] at m3
        injection m3 with m3
        injection m3 with m3
        subst m3
        have q2 := sm6 _ _ p5
        rw [m5] at q2
        injection q2 with q2
        injection q2 with q2
        have q3 := map_get (f := V.ref) hka
        rw [q2] at q3
        obtain ⟨z, z1, z2⟩ := of_map_get q3
        rw [u1] at z1
        cases z1
        injection z2 with z2
        subst z2
        exact ⟨_, u2⟩
      obtain ⟨oka, hkaH⟩ := hkaH
      have hokaE : oka = .lst ((outs es st.1).map fun j => V.int (j : Nat)) := by
        have := sm6 _ _ hkaH
        rw [hkv] at this
        exact (Option.some.inj this).symm
      subst hokaE
      refine for_list (fun b σ H' => ∃ v10 v11 v12 v13 TT2, σ = [some (.ref mp), some (.ref sp), some (.int (bg : Nat)), some (.int ((bg + m : Nat) : Int)), some (.ref fg), some (.int sg), some (.int ((bg : Int) + (i : Int))), some (.ref Dl), some (.ref sa), some (.ref ea), v10, v11, v12, v13] ∧
          Same H H' ∧ H' l = some (.lst (ts.map V.ref)) ∧ TupK H5 H' ∧ LaysAt H' Dl ds TT2 ∧ (∀ s, TT2 i s = TT i s) ∧
          TInv es g sg bg m T0 i (fun k s j => (k < i ∨ (k = i ∧ (∃ a', a' < a ∧ (kvs[a']?.map (·.1)) = some (kS s)) ∧ ∃ e, es[j]? = some e ∧ e.b = s.1)) ∨ (k = i ∧ s = st ∧ ∃ b', b' < b ∧ (outs es st.1)[b']? = some j)) TT2)
        ⟨_, _, _, _, TT', rfl, sm6, hl6, tk6, hL6, hTi, hI6.weak fun k s j h => h.elim id fun ⟨_, _, b', hb', _⟩ => absurd hb' (Nat.not_lt_zero _)⟩ (fun b σ H' _ ⟨_, _, _, _, _, _, z, _⟩ => SqL.of (z _ _ hkaH)) ?_ ?_
      · rintro b x σ H7 hx ⟨v10, v11, v12, v13, TT2, rfl, sm7, hl7, tk7, hL7, hTi7, hI7⟩
        obtain ⟨j, hj, rfl⟩ := of_map_get hx
        obtain ⟨e, he, heb⟩ := mem_outs.mp (List.mem_of_getElem? hj)
        have hcT : TT2 i st = some (c, v) := by rw [hTi7]; exact hTs
        have hev := hM.at he
        refine ⟨_, rfl, _, rfl, mp, j, n, es, e, rfl, hm.same sm7, he, fun x hxe => ?_⟩
        have hx7 : H7 x = some (.tup [.int (e.b : Nat), .int (e.a : Nat), .int (e.t : Nat), .int e.p]) := hxe
        refine ⟨_, rfl, _, rfl, x, _, 2, .int (e.t : Nat), rfl, rfl, SqT.of hx7, atI_nat (j := 2) rfl, (bg : Int) + (i : Int), (e.t : Int), rfl, rfl, ?_⟩
        refine ⟨_, rfl, x, _, 1, .int (e.a : Nat), rfl, rfl, SqT.of hx7, atI_nat (j := 1) rfl, _, rfl, sa, _, 1, .int st.2, rfl, rfl, SqT.of (tk7 _ _ w3), atI_nat (j := 1) rfl, _, rfl, x, _, 3, .int e.p, rfl, rfl, SqT.of hx7, atI_nat (j := 3) rfl, st.2, e.p, rfl, rfl, le_line (n := 2) (by decide), fun ga nga => ?_⟩
        have smg : Same H7 (upd H7 ga (.tup [.int (e.a : Nat), .int (st.2 + e.p)])) := same_new nga
        have sm8 := sm7.trans smg
        have tk8 := tk7.trans (.of smg)
        have hga : Tp2 (upd H7 ga (.tup [.int (e.a : Nat), .int (st.2 + e.p)])) ga (e.a : Nat) (st.2 + e.p) := upd_same
        have hL8 := hL7.same smg
        have hl8 := smg _ _ hl7
        generalize upd H7 ga (.tup [.int (e.a : Nat), .int (st.2 + e.p)]) = H8 at smg sm8 tk8 hga hL8 hl8
        have hga2 : H8 ga = some (.tup [.int (e.a : Nat), .int (st.2 + e.p)]) := hga
        refine ⟨_, rfl, _, rfl, (bg : Int) + (i : Int) + (e.t : Int), ((bg + m : Nat) : Int), rfl, rfl, _, rfl, ifD (fun hle => ?_) fun hle => ?_⟩
        · have hle2 : i + e.t ≤ m := by omega
          obtain ⟨d2, hd2⟩ : ∃ d2, ds[i + e.t]? = some d2 := ⟨ds[i + e.t]'(by omega), List.getElem?_eq_getElem (by omega)⟩
          obtain ⟨r1, hr1⟩ := (hE5.keep tk8).head
          refine ⟨_, rfl, _, rfl, _, rfl, (bg : Int) + (i : Int) + (e.t : Int), (bg : Int), rfl, rfl, Dl, _, _, .ref d2, rfl, rfl, SqL.of hL8.at_, at_of (j := i + e.t) (by omega) (map_get hd2), _, rfl, _, rfl, ea, _, 0, .int c, rfl, rfl, SqT.of hr1, atI_nat (j := 0) rfl, rfl, hgm _ _ hGH sm8, _, rfl, _, rfl, ga, _, 1, .int (st.2 + e.p), rfl, rfl, SqT.of hga2, atI_nat (j := 1) rfl, bg + i + e.t, st.2 + e.p, rfl, by omega, by omega, hgm _ _ hGH sm8, c, g (bg + i + e.t) (st.2 + e.p), rfl, rfl, _, rfl, _, rfl, le_line (n := 3) (by decide), fun na nna => ?_⟩
          have smn : Same H8 (upd H8 na (.tup [.int (c + g (bg + i + e.t) (st.2 + e.p)), .int (j : Nat), .ref sa])) := same_new nna
          have hna : upd H8 na (.tup [.int (c + g (bg + i + e.t) (st.2 + e.p)), .int (j : Nat), .ref sa]) na = some (.tup [.int (c + g (bg + i + e.t) (st.2 + e.p)), .int (j : Nat), .ref sa]) := upd_same
          have sm9 := sm8.trans smn
          have tk9 := tk8.trans (.of smn)
          have hL9 := hL8.same smn
          have hl9 := smn _ _ hl8
          have hga9 := smn _ _ hga
          generalize upd H8 na (.tup [.int (c + g (bg + i + e.t) (st.2 + e.p)), .int (j : Nat), .ref sa]) = H9 at smn hna sm9 tk9 hL9 hl9 hga9
          obtain ⟨kv9, z1, z2, z3⟩ := (hL9.lay _ d2 hd2).ex
          have hEn : EntAt H9 na (c + g (bg + i + e.t) (st.2 + e.p), some (j, st)) := ⟨sa, hna, tk9 _ _ w3⟩
          have hsm7 := hI7.small hM hg01 hT0 hm300 hcT
          have hg1 := hg01 (bg + i + e.t) (st.2 + e.p)
          have hBg : BoxS (e.a, st.2 + e.p) := ⟨Nat.lt_of_lt_of_le hev.2.1 hM.n4, by show -3000 ≤ st.2 + e.p; omega, by show st.2 + e.p ≤ 3000; omega⟩
          have hsn : sg.natAbs ≤ 1000000 := by rcases hsg with z | z <;> rw [z] <;> decide
          have hd2H : H d2 = none := hfree d2 (List.mem_of_getElem? hd2)
          have hDp : ∀ k s j, ((k < i ∨ (k = i ∧ (∃ a', a' < a ∧ (kvs[a']?.map (·.1)) = some (kS s)) ∧ ∃ e, es[j]? = some e ∧ e.b = s.1)) ∨ (k = i ∧ s = st ∧ ∃ b', b' < b ∧ (outs es st.1)[b']? = some j)) → k ≤ i := fun k s j h => by
            rcases h with (h | h) | h
            · omega
            · omega
            · omega
          have wk : ∀ k s j', ((k < i ∨ (k = i ∧ (∃ a', a' < a ∧ (kvs[a']?.map (·.1)) = some (kS s)) ∧ ∃ e, es[j']? = some e ∧ e.b = s.1)) ∨ (k = i ∧ s = st ∧ ∃ b', b' < b + 1 ∧ (outs es st.1)[b']? = some j')) →
              ((k < i ∨ (k = i ∧ (∃ a', a' < a ∧ (kvs[a']?.map (·.1)) = some (kS s)) ∧ ∃ e, es[j']? = some e ∧ e.b = s.1)) ∨ (k = i ∧ s = st ∧ ∃ b', b' < b ∧ (outs es st.1)[b']? = some j')) ∨ (k = i ∧ s = st ∧ j' = j) := fun k s j' h => by
            rcases h with h | ⟨h1, h2, b', h3, h4⟩
            · exact .inl (.inl h)
            · by_cases hbb : b' < b
              · exact .inl (.inr ⟨h1, h2, b', hbb, h4⟩)
              · have : b' = b := by omega
                subst this
                rw [hj] at h4
                cases h4
                exact .inr ⟨h1, h2, rfl⟩
          have put : (∀ c2 v2, TT2 (i + e.t) (e.a, st.2 + e.p) = some (c2, v2) → sg * (c + g (bg + i + e.t) (st.2 + e.p)) < sg * c2) → ∃ v10 v11 v12 v13 TT2', ([some (.ref mp), some (.ref sp), some (.int (bg : Nat)), some (.int ((bg + m : Nat) : Int)), some (.ref fg), some (.int sg), some (.int ((bg : Int) + (i : Int))), some (.ref Dl), some (.ref sa), some (.ref ea), some (.int (j : Nat)), some (.ref x), some (.int ((bg : Int) + (i : Int) + (e.t : Int))), some (.ref ga)] : L2.St) = [some (.ref mp), some (.ref sp), some (.int (bg : Nat)), some (.int ((bg + m : Nat) : Int)), some (.ref fg), some (.int sg), some (.int ((bg : Int) + (i : Int))), some (.ref Dl), some (.ref sa), some (.ref ea), v10, v11, v12, v13] ∧
              Same H (upd H9 d2 (.dT (putK kv9 (kS (e.a, st.2 + e.p)) (.ref na)))) ∧ (upd H9 d2 (.dT (putK kv9 (kS (e.a, st.2 + e.p)) (.ref na)))) l = some (.lst (ts.map V.ref)) ∧ TupK H5 (upd H9 d2 (.dT (putK kv9 (kS (e.a, st.2 + e.p)) (.ref na)))) ∧ LaysAt (upd H9 d2 (.dT (putK kv9 (kS (e.a, st.2 + e.p)) (.ref na)))) Dl ds TT2' ∧ (∀ s, TT2' i s = TT i s) ∧
              TInv es g sg bg m T0 i (fun k s j => (k < i ∨ (k = i ∧ (∃ a', a' < a ∧ (kvs[a']?.map (·.1)) = some (kS s)) ∧ ∃ e, es[j]? = some e ∧ e.b = s.1)) ∨ (k = i ∧ s = st ∧ ∃ b', b' < b + 1 ∧ (outs es st.1)[b']? = some j)) TT2' := fun hb2 => by
            refine ⟨_, _, _, _, _, rfl, fun b o eb => ?_, ?_, tk9.trans (TupK.upd z1 (by intro xs z; cases z)), hL9.put hd2 z1 hEn hBg, fun s4 => ?_, (hI7.put hM hDp he heb hle2 hcT hb2).weak wk⟩
            · rw [upd_ne (ne_of_none eb hd2H)]
              exact sm9 _ _ eb
            · rw [upd_ne (hdl d2 (List.mem_of_getElem? hd2)).symm]
              exact hl9
            · rw [setT_ne (fun z => by omega)]
              exact hTi7 s4
          refine ⟨_, rfl, d2, ga, na, sg, c + g (bg + i + e.t) (st.2 + e.p), (e.a, st.2 + e.p), kv9, _, rfl, hga9, z1, z2.lt, hna, cmul_small hsn (by omega), fun hn => ?_, fun v0 hv0 => ?_⟩
          · refine put fun c2 v2 h2 => ?_
            obtain ⟨a2, u1, _⟩ := (z3 (e.a, st.2 + e.p)).2 _ h2
            rw [hn] at u1
            cases u1
          · cases hT2 : TT2 (i + e.t) (e.a, st.2 + e.p) with
            | none =>
              rw [(z3 (e.a, st.2 + e.p)).1 hT2] at hv0
              cases hv0
            | some en2 =>
              obtain ⟨c2, v2⟩ := en2
              obtain ⟨a2, u1, u2⟩ := (z3 (e.a, st.2 + e.p)).2 _ hT2
              rw [hv0] at u1
              cases u1
              obtain ⟨r2, hr2⟩ := u2.head
              have hsm2 := hI7.small hM hg01 hT0 hm300 hT2
              refine ⟨a2, c2, r2, rfl, hr2, cmul_small hsn (by omega), fun hlt => ?_, fun hnl => ?_⟩
              · refine put fun c3 v3 h3 => ?_
                rw [hT2] at h3
                cases h3
                exact hlt
              · exact ⟨_, _, _, _, TT2, rfl, sm9, hl9, tk9, hL9, hTi7, (hI7.keep he hcT hT2 hnl).weak wk⟩
        · have wk : ∀ k s j', ((k < i ∨ (k = i ∧ (∃ a', a' < a ∧ (kvs[a']?.map (·.1)) = some (kS s)) ∧ ∃ e, es[j']? = some e ∧ e.b = s.1)) ∨ (k = i ∧ s = st ∧ ∃ b', b' < b + 1 ∧ (outs es st.1)[b']? = some j')) →
              ((k < i ∨ (k = i ∧ (∃ a', a' < a ∧ (kvs[a']?.map (·.1)) = some (kS s)) ∧ ∃ e, es[j']? = some e ∧ e.b = s.1)) ∨ (k = i ∧ s = st ∧ ∃ b', b' < b ∧ (outs es st.1)[b']? = some j')) ∨ (k = i ∧ s = st ∧ j' = j) := fun k s j' h => by
            rcases h with h | ⟨h1, h2, b', h3, h4⟩
            · exact .inl (.inl h)
            · by_cases hbb : b' < b
              · exact .inl (.inr ⟨h1, h2, b', hbb, h4⟩)
              · have : b' = b := by omega
                subst this
                rw [hj] at h4
                cases h4
                exact .inr ⟨h1, h2, rfl⟩
          refine ⟨_, _, _, _, TT2, rfl, sm8, hl8, tk8, hL8, hTi7, (hI7.skip (j := j) (s := st) fun e' he' _ hle' => ?_).weak wk⟩
          rw [he] at he'
          cases he'
          omega
      · rintro σ H7 ⟨v10, v11, v12, v13, TT2, rfl, sm7, hl7, tk7, hL7, hTi7, hI7⟩
        refine ⟨_, _, _, _, _, _, TT2, rfl, sm7, hl7, tk7, hL7, hTi7, hI7.weak fun k s j h => ?_⟩
        rcases h with h | ⟨h1, ⟨a', h2, h3⟩, e, h4, h5⟩
        · exact .inl (.inl h)
        · by_cases haa : a' < a
          · exact .inl (.inr ⟨h1, ⟨a', haa, h3⟩, e, h4, h5⟩)
          · have : a' = a := by omega
            subst this
            rw [hqq] at h3
            have h3 := kS_inj (Option.some.inj h3)
            subst h3
            obtain ⟨b', hb'⟩ := List.mem_iff_getElem?.mp (mem_outs.mpr ⟨e, h4, h5⟩)
            refine .inr ⟨h1, rfl, b', ?_, hb'⟩
            rw [List.length_map]
            exact (List.getElem?_eq_some_iff.mp hb').1
    · rintro σ H6 ⟨v8, v9, v10, v11, v12, v13, TT', rfl, sm6, hl6, tk6, hL6, hTi, hI6⟩
      refine ⟨_, _, _, _, _, _, _, TT', rfl, sm6, hL6, hI6.next fun k s j e hk2 hT2 he heb => ?_⟩
      by_cases hki : k < i
      · exact .inl hki
      · have : k = i := by omega
        subst this
        rw [hTi] at hT2
        obtain ⟨a', v', ha'⟩ := y3.ix hT2
        refine .inr ⟨rfl, ⟨a', ?_, by rw [ha']; rfl⟩, e, he, heb⟩
        rw [List.length_map, hlen]
        exact (List.getElem?_eq_some_iff.mp ha').1
  · rintro σ H4 ⟨v6, v8, v9, v10, v11, v12, v13, TT, rfl, sm4, hL4, hI4⟩
    have ei : (((bg + m : Nat) : Int) - (bg : Int)).toNat = m := by omega
    rw [ei] at hI4
    exact ⟨_, rfl, q H4 Dl ds TT sm4 hL4 hdl3 hI4⟩
end
end Nl
namespace Nl
open PySem PySem.Spec PyProof.Rows L2 LamX NdefX
abbrev CX0 : CXT := L2.CX0
/-! ### the function that counts nothing, the layers from the begin -/
def spGain (GH : Hp → Prop) (g : Nat → Int → Int) : Sp := fun vs H Q _ => ∃ (a : Nat) (x : Int), vs = [.int (a : Nat), .int x] ∧ a ≤ 100000 ∧ x.natAbs ≤ 100000 ∧ GH H ∧ Q (.int (g a x)) H
def Tz : Sta → Option Int := fun s => if s = (0, 0) then some 0 else none
def spLeadTo (K : PySem.W.Frag) : Sp := fun vs H Q _ => ∃ (mp fa : Addr) (n : Nat) (es : List Ev) (t : Nat) (x : Int), vs = [.ref mp, .ref fa] ∧ MachAt (mC K) H mp n es ∧ MOk n es ∧ Tp2 H fa (t : Nat) x ∧ t ≤ 300 ∧
  ∀ (H' : Hp) (p : Addr) (ds : List Addr) (T : Nat → Sta → Option Ent), Same H H' → LaysAt H' p ds T → ds.length = t + 1 → TInv es g0 1 0 t Tz t (fun k _ _ => k < t) T → Q (.ref p) H'
theorem tz_ok {n : Nat} (h : 1 ≤ n) : T0Ok n Tz := fun s c e => by
  unfold Tz at e
  split at e
  · rename_i h0
    cases e
    subst h0
    exact ⟨h, by decide, by decide, by decide, by decide⟩
  · cases e
theorem disp_tz {H : Hp} {p : Addr} (h : H p = some (.dT [(kS (0, 0), .int 0)])) : StartAt H p Tz := by
  refine ⟨_, h, ⟨by simp, fun k hk => ⟨(0, 0), List.mem_singleton.mp hk, by decide, by decide, by decide⟩⟩, fun s => ?_⟩
  unfold Tz
  by_cases e : s = (0, 0)
  · subst e
    exact ⟨fun z => (by cases z), fun c z => by cases z; rfl⟩
  · rw [if_neg e]
    exact ⟨fun _ => valV_neg (fun z => e (kS_inj z).symm), fun c z => (by cases z)⟩
section
variable {P : Program} {w : World} {K : PySem.W.Frag} {mg : Str → Option Value} {base : Heap}
theorem ok_nothing0 (D : Df K mg "nothing" s_nothing) (T : TX K mg) : Fk P w K mg base 1 "nothing" ["tries", "points"] (spGain (fun _ => True) g0) := by
  refine fk_of D sc_nothing (fun _ _ _ _ _ _ us hl => match us, hl with | [_, _], _ => rfl) (fun vs H Q E h => ?_) (fun f cdv A outer s H vs Q E hr h => ?_)
  · obtain ⟨_, _, rfl, _⟩ := h
    rfl
  · obtain ⟨t, x, rfl, _, _, _, q⟩ := h
    exact ⟨_, (pss_one (ps_ret pe_int)), q⟩
abbrev n_lead_to : List Str := ["machine", "first"]
theorem sc_lead_to : FnScope n_lead_to ["machine", "first"] (defScope s_lead_to) := ⟨rfl, rfl, rfl, by decide +kernel, rfl, by decide +kernel, by decide +kernel⟩
theorem ok_lead_to (D : Df K mg "lead_to" s_lead_to) (Dt : Df K mg "traced" s_traced) (T : TX K mg) (g_nothing : Fk P w K mg base 1 "nothing" ["tries", "points"] (spGain (fun _ => True) g0)) (g_step_at : Fk P w K mg base 1 "step_at" ["machine", "event"] (spStepAt K))
    (g_keep_better : Fk P w K mg base 1 "keep_better" ["layer", "goal", "entry", "sign"] spKeepBetter) : Fk P w K mg base 3 "lead_to" ["machine", "first"] (spLeadTo K) := by
  obtain ⟨fN, fdN, FN, mN, kN, bN⟩ := g_nothing.ex
  have g_traced : Fk P w K mg base 2 "traced" ["machine", "starts", "begin", "end", "gain", "sign"] (fun vs H Q _ => TrPre K (fun _ => True) g0 fN vs H Q) := by
    refine fk_of Dt sc_traced (fun _ _ _ _ _ _ us hl => match us, hl with | [_, _, _, _, _, _], _ => rfl) (fun vs H Q E h => ?_) (fun f cdv A outer s H vs Q E hr h => ?_)
    · obtain ⟨_, _, _, _, _, _, _, _, rfl, _⟩ := h
      rfl
    · obtain ⟨t, ht, hq⟩ := traced_walk (f := f) (cdv := cdv) (A := A) (outer := outer) (s := s) (H := H) (E := E) (fg := fN) (GH := fun _ => True) (g := g0) T g_step_at g_keep_better hr (by decide) (fun _ _ _ _ => True.intro) g0_01 (fun e es p pos t ha he hpl => by
        have q := pe_callL (pos := pos) (p := p) (i := 4) (f := fN) (x := "gain") (dvs := []) (E := E0) FN hr rfl (.inl rfl) kN bN .nil pass0 ha (by decide) (by decide) he hpl
        refine ⟨fun pins s σ H Q I h => q.run pins s σ H Q I ⟨h.1, ?_⟩⟩
        have e0 : (fun (vs : List V) (H1 : Hp) => spGain (fun _ => True) g0 (vs ++ []) H1 Q E0) = fun vs H1 => spGain (fun _ => True) g0 vs H1 Q E0 := by
          funext vs H1
          rw [List.append_nil]
        show t σ H (fun vs H1 => spGain (fun _ => True) g0 (vs ++ []) H1 Q E0)
        rw [e0]
        exact h.2.2)
      exact ⟨t, ht, hq vs Q h⟩
  refine fk_of D sc_lead_to (fun _ _ _ _ _ _ us hl => match us, hl with | [_, _], _ => rfl) (fun vs H Q E h => ?_) (fun f cdv A outer s H vs Q E hr h => ?_)
  · obtain ⟨_, _, _, _, _, _, rfl, _⟩ := h
    rfl
  · obtain ⟨mp, fa, n, es, t, x, rfl, hm, hM, hf, ht, q⟩ := h
    refine ⟨_, (pss_one (ps_ret (pe_fk g_traced hr (by rfl) (pa_cons (pv 0) (pa_cons (pe_dispT (hu_of hr) (pe_tup (pa_cons pe_int (pa_cons pe_int pa_nil))) pe_int) (pa_cons pe_int (pa_cons (pe_ix ix_tup (pv 1) pe_int (fun _ _ => rfl)) (pa_cons (pe_glob (v := .ref fN) (by rfl) mN rfl) (pa_cons pe_int pa_nil))))))))), ?_⟩
    refine ⟨_, rfl, fun dp ndp => ⟨le_line (n := 2) (by decide), fun ka nka => ⟨?_, kS (0, 0), ka, rfl, upd_same, ?_⟩⟩⟩
    · rw [upd_ne (fun z => by rw [← z, upd_same] at nka; cases nka), upd_same]
    have nkd : ka ≠ dp := fun z => by rw [z, upd_same] at nka; cases nka
    have sm : Same H (upd (upd (upd H dp (.dT [])) ka (.tup [.int 0, .int 0])) dp (.dT [(kS (0, 0), .int 0)])) := fun b o e => by
      have n1 := ne_of_none e ndp
      have n2 : b ≠ ka := fun z => by rw [← z, upd_ne n1, e] at nka; cases nka
      rw [upd_ne n1, upd_ne n2, upd_ne n1]
      exact e
    refine ⟨_, rfl, fa, _, 0, .int (t : Nat), rfl, rfl, SqT.of (sm _ _ hf), atI_nat (j := 0) rfl, mp, dp, n, es, 1, 0, t, Tz, ?_, hm.same sm, hM, disp_tz upd_same, tz_ok hM.n1, .inl rfl, ht, by decide, True.intro, fun H' p ds TT s1 hL hl hI => q H' p ds TT (sm.trans s1) hL hl hI⟩
    rw [Nat.zero_add]
    rfl
end
/-! ### the function within best_run -/
theorem cell_nofr {X : Cx} {pins : List (Addr × Obj)} {σ : L2.St} {H : Hp} {s : Shared} (I : Inv X pins σ H s) (hfn : ∀ x, X.fn x = true) {x : Str} {c : Addr} (h : X.env.cells.lookup x = some c) : c ∉ frs X.stack := fun hb => by
  rcases List.mem_cons.mp (I.stkSub c hb) with e | hb
  · exact I.cne x c h e
  · obtain ⟨_, o, ho, _⟩ := I.ok.funs.mem hb
    exact absurd (Nat.lt_of_lt_of_le (Heap.lt_size ho) (I.ok.cab x c (hfn x) h)) (Nat.lt_irrefl _)
def GHc (fg : Addr) (F : NF) (sa : Addr) (a b : Int) : Hp → Prop := fun H => H fg = some (FnO fg F) ∧ H F.c = some (CodeO F.c F.qual) ∧ Tp2 H sa a b ∧ a.natAbs ≤ 1000000 ∧ b.natAbs ≤ 1000000
theorem GHc.same {fg : Addr} {F : NF} {sa : Addr} {a b : Int} {H H' : Hp} (h : GHc fg F sa a b H) (s : Same H H') : GHc fg F sa a b H' := ⟨s _ _ h.1, s _ _ h.2.1, s _ _ h.2.2.1, h.2.2.2⟩
abbrev s_gain : Stmt := (defBody s_best_run).getD 0 (.Pass ⟨0, 0, 0, 0⟩)
abbrev q_gain : Str := "best_run.<locals>.gain"
abbrev mkG (cl : List (Str × Addr)) (c : Addr) : NF := NF.of s_gain "gain" q_gain cl c
abbrev n_gain : List Str := ["tries", "points", "share"]
theorem sc_gain (cl : List (Str × Addr)) (c : Addr) : NScope n_gain ["tries", "points"] ["share"] (mkG cl c).scope := nscope_by (show nscB n_gain ["tries", "points"] ["share"] (C8.fnScope s_gain) = true by decide +kernel)
def spG : List (Option V) → Sp := fun ws vs H Q _ => ∃ (sa : Addr) (a b : Int) (t : Nat) (x : Int), ws = [some (.ref sa)] ∧ Tp2 H sa a b ∧ a.natAbs ≤ 1000000 ∧ b.natAbs ≤ 1000000 ∧ vs = [.int (t : Nat), .int x] ∧ t ≤ 100000 ∧ x.natAbs ≤ 100000 ∧ Q (.int (gn a b t x)) H
section
variable {P : Program} {w : World} {K : PySem.W.Frag} {mg : Str → Option Value} {base : Heap}
theorem nok_gain (T : TX K mg) (f : Addr) (cl : List (Str × Addr)) (c : Addr) : NOk P w K mg base CX0 1 f (mkG cl c) ["tries", "points"] ["share"] spG := by
  refine nok_of (N := n_gain) (sc_gain cl c) (fun doc pm ctv us hl => match us, hl with | [_, _], _ => rfl) (fun ws vs H Q E h => ?_) (fun A outer s H vs ws Q E hr h1 h2 hl h => ?_)
  · obtain ⟨_, _, _, _, _, _, _, _, _, rfl, _⟩ := h
    rfl
  · obtain ⟨sa, a, b, t, x, rfl, hs, ha, hb, rfl, ht, hx, q⟩ := h
    refine ⟨_, (pss_one (ps_ret (pe_callTy call_int1 (by rfl) T.int (by decide +kernel) (pa_cons (pe_and (pe_cmpR op_gt (pv 0) pe_int (nomark _)) (pe_one (pe_cmpR op_eqI (pe_op op_mulW (pv 1) (pe_ix ix_tup (pv 2) pe_int (fun _ _ => rfl))) (pe_op op_mulW (pv 0) (pe_ix ix_tup (pv 2) pe_int (fun _ _ => rfl))) (nomark _)))) pa_nil)))), ?_⟩
    have hs2 : H sa = some (.tup [.int a, .int b]) := hs
    refine ⟨_, rfl, (t : Int), 0, rfl, rfl, ?_⟩
    by_cases h0 : 0 < t
    · refine ⟨true, congrArg V.bl (decide_eq_true (by omega)), iteT ?_⟩
      refine ⟨_, rfl, _, rfl, sa, _, 1, .int b, rfl, rfl, SqT.of hs2, atI_nat (j := 1) rfl, x, b, rfl, rfl, cmul_small (by omega) hb, _, rfl, _, rfl, sa, _, 0, .int a, rfl, rfl, SqT.of hs2, atI_nat (j := 0) rfl, (t : Int), a, rfl, rfl, cmul_small (by omega) ha, x * b, (t : Int) * a, rfl, rfl, ?_⟩
      by_cases he : x * b = (t : Int) * a
      · refine .inr ⟨true, congrArg (fun z => [V.bl z]) (decide_eq_true he), ?_⟩
        have eg : gn a b t x = 1 := if_pos ⟨h0, he⟩
        rw [eg] at q
        exact q
      · refine .inr ⟨false, congrArg (fun z => [V.bl z]) (decide_eq_false he), ?_⟩
        have eg : gn a b t x = 0 := if_neg (fun z => he z.2)
        rw [eg] at q
        exact q
    · refine ⟨false, congrArg V.bl (decide_eq_false (by omega)), iteF (.inr ⟨false, rfl, ?_⟩)⟩
      have eg : gn a b t x = 0 := if_neg (fun z => h0 z.1)
      rw [eg] at q
      exact q
end
section
variable {X : Cx}
/-- a call of such a function whose captured cells are of a frame further out -/
theorem pe_clo {F : NF} {fg : Addr} {i j : Nat} {x : Str} {ws : List (Option V)} {GH : Hp → Prop} {g : Nat → Int → Int} {e : Expr} {es : List Expr} {t : TA} {p pos : Pos} (Fn : NOk X.prog X.w X.K X.mg X.base CX0 1 fg F ["tries", "points"] ["share"] spG) (C : CellsAt F.cl ["share"] ws X.s_0.heap X.H_0)
    (nf : ∀ y c, F.cl.lookup y = some c → c ∉ X.fs) (hx : ∀ y c, F.cl.lookup y = some c → c ∉ X.ex) (hr : Room j X.A) (hk : 1 ≤ j) (hN : X.N[i]? = some x) (hv : Vis X.env.scope x) (hgh : ∀ H, GH H → H fg = some (FnO fg F) ∧ H F.c = some (CodeO F.c F.qual))
    (hsp : ∀ (a : Nat) (x : Int) H Q, GH H → a ≤ 100000 → x.natAbs ≤ 100000 → Q (.int (g a x)) H → spG ws [.int (a : Nat), .int x] H Q E0) (ha : PA X (e :: es) t)
    (he : starEach (e :: es) X.env = (false, eval e X.env) :: starEach es X.env) (hpl : (backTo pos (starEach es X.env)).any (·.1) = false) (hd : (x == ("__debug__" : Str)) = false := by decide) (hcd : (x == ("__classdict__" : Str)) = false := by decide) :
    PE X (.Call (.Name x p) (e :: es) [] pos) (tGain i fg GH g t) := by
  refine ⟨fun pins s σ H Q I h => ?_⟩
  obtain ⟨hs, hg0, ht⟩ := h
  refine wpAny_Call_Name_kw (thn ((pe_var (pos := p) hN hv hd hcd).run pins s σ H (fun v H1 => v = .ref fg ∧ H1 = H) I ⟨.ref fg, hs, rfl, rfl⟩) fun u s1 ⟨v, H1, I1, r1, q1⟩ => ?_)
  obtain ⟨ev, eH⟩ := q1
  subst ev
  rw [eH] at I1
  obtain rfl : u = Value.ref fg := r1
  refine PySem.W.callWith_F (first := []) (fnAt_of I1 (hgh _ hg0).1) (thn (ha.run pos pins s1 σ H _ I1 ht) fun us s2 ⟨vs, H2, I2, r, a, x, ev, b1, b2, hg2, q⟩ => ⟨fnAt_of I2 (hgh _ hg2).1, ?_⟩) he hpl
  subst ev
  show wpAny _ _ (call (.ref fg) us) _ _ _
  refine wpAny_call (codeAny_mono (Fn.run X.A X.stack s2 H2 us _ ws Q E0 (hr.mono hk) I2.env0 (hgh _ hg2).1 (hgh _ hg2).2 (C.later nf hx I2) r (hsp a x H2 Q hg2 b1 b2 q)) fun r s' hq => ?_)
  cases r with
  | error e => exact (show False from hq).elim
  | ok fl =>
    cases fl with
    | ret u => exact I2.after hq
    | next => exact False.elim hq
    | brk => exact False.elim hq
    | cont => exact False.elim hq
/-- traced(.., gain, ..) in best_run -/
def tTrG (K : PySem.W.Frag) (cl : List (Str × Addr)) (t : TA) : TE := fun σ H Q => t σ H fun vs H1 => ∃ (fg c' sa : Addr) (a b : Int), slotAt σ 3 = some (.ref sa) ∧ GHc fg (mkG cl c') sa a b H1 ∧ TrPre K (GHc fg (mkG cl c') sa a b) (gn a b) fg vs H1 Q
theorem spG_of {fg : Addr} {F : NF} {sa : Addr} {a b : Int} {H : Hp} {ws : List (Option V)} (hw : ws = [some (.ref sa)]) (h : GHc fg F sa a b H) {t : Nat} {x : Int} (ht : t ≤ 100000) (hx : x.natAbs ≤ 100000) {Q : VK} {E : XK} (q : Q (.int (gn a b t x)) H) : spG ws [.int (t : Nat), .int x] H Q E :=
  ⟨sa, a, b, t, x, hw, h.2.2.1, h.2.2.2.1, h.2.2.2.2, rfl, ht, hx, q⟩
theorem pe_trG {cl : List (Str × Addr)} {j : Nat} {e : Expr} {es : List Expr} {t : TA} {p pos : Pos} (Dt : Df X.K X.mg "traced" s_traced) (T : TX X.K X.mg) (g_step_at : Fk X.prog X.w X.K X.mg X.base 1 "step_at" ["machine", "event"] (spStepAt X.K)) (g_keep_better : Fk X.prog X.w X.K X.mg X.base 1 "keep_better" ["layer", "goal", "entry", "sign"] spKeepBetter)
    (cp : X.Ok → Caps X cl ["share"] [3]) (hfn : ∀ x, X.fn x = true) (hr : Room j X.A) (hj : 2 ≤ j) (hg : Gl X "traced") (ha : PA X (e :: es) t)
    (he : starEach (e :: es) X.env = (false, eval e X.env) :: starEach es X.env) (hpl : (backTo pos (starEach es X.env)).any (·.1) = false) : PE X (.Call (.Name "traced" p) (e :: es) [] pos) (tTrG X.K cl t) := by
  obtain ⟨f, fd, F, hm⟩ := Dt.ex
  obtain ⟨oc, od, dV, kV, doc, pm, an, cdv, ct, osl, rfl, lk, hcd, _, _⟩ := F.ex
  have hb := F.bindsN (ps := ["machine", "starts", "begin", "end", "gain", "sign"]) (fun _ _ _ _ _ _ us hl => match us, hl with | [_, _, _, _, _, _], _ => rfl)
  refine ⟨fun pins s σ H Q I h => ?_⟩
  refine wpAny_Call_Name_kw (ld_glob I hg hm ?_)
  refine PySem.W.callWith_K (h₀ := X.base) I.ok.mod.kin F.kp (thn (ha.run pos pins s σ _ _ I h) fun us s2 ⟨vs, H2, I2, r, fg, c', sa, a, b, hsl, hgh, pre⟩ => ⟨I2.kIn, ?_⟩) he hpl
  have C := cells_of I2 (cp I2.ok)
  have hl : vs.length = 6 := by
    obtain ⟨_, _, _, _, _, _, _, _, rfl, _⟩ := pre
    rfl
  have rc : codeAny (model X.prog X.w) X.A (.call (.ref f) ⟨us, []⟩) (CR CX0 X.stack X.prog X.w H2 s2 Q E0) s2 := by
    refine run_ofS (k := 1) (N := n_traced) (ps := ["machine", "starts", "begin", "end", "gain", "sign"]) (us := us) (vs := vs) lk hcd sc_traced (hr.mono hj) I2.env0 ?_ r hl fun hr' => ?_
    · have q := hb s2 us I2.kIn (by rw [List.append_nil, ← r.length]; exact hl)
      rw [List.append_nil] at q
      exact q
    · obtain ⟨t', ht', hq⟩ := traced_walk (f := f) (cdv := cdv) (A := X.A) (outer := X.stack) (s := s2) (H := H2) (E := E0) (fg := fg) (GH := GHc fg (mkG cl c') sa a b) (g := gn a b) T g_step_at g_keep_better hr' (by decide) (fun _ _ h s => h.same s) (gn_01 a b) (fun e es p pos t ha he hpl => by
        refine pe_clo (F := mkG cl c') (ws := [3].map (slotAt σ)) (nok_gain T fg cl c') C (fun y c hc => ?_) (fun y c _ z => (by cases z)) hr' (by decide) rfl (.inl rfl) (fun H h => ⟨h.1, h.2.1⟩) (fun a x H Q h h1 h2 q => spG_of (by rw [← hsl]; rfl) h h1 h2 q) ha he hpl
        exact cell_nofr I2 hfn ((cp I2.ok).sub y c hc))
      exact ⟨t', ht'.nox, hq vs Q pre⟩
  refine wpAny_call (codeAny_mono rc fun r s' hq => ?_)
  cases r with
  | error e => exact (show False from hq).elim
  | ok fl =>
    cases fl with
    | ret u => exact I2.after hq
    | next => exact False.elim hq
    | brk => exact False.elim hq
    | cont => exact False.elim hq
end
end Nl
namespace Nl
open PySem PySem.Spec PyProof.Rows L2 LamX NdefX
/-! ### all but the tables stays -/
theorem ext_of {H H' : Hp} (s : Same H H') : ExtN H H' := fun b o h _ => s b o h
theorem ext_tup {H H' : Hp} (e : ExtN H H') {a : Addr} {xs : List V} (h : H a = some (.tup xs)) : H' a = some (.tup xs) := e _ _ h (by intro ps z; cases z)
theorem ext_lst {H H' : Hp} (e : ExtN H H') {a : Addr} {xs : List V} (h : H a = some (.lst xs)) : H' a = some (.lst xs) := e _ _ h (by intro ps z; cases z)
theorem Tp2.ext {H H' : Hp} {a : Addr} {x y : Int} (h : Tp2 H a x y) (e : ExtN H H') : Tp2 H' a x y := ext_tup e h
theorem EvsAt.ext {H H' : Hp} {a : Addr} {es : List Ev} (h : EvsAt H a es) (e : ExtN H H') : EvsAt H' a es := by
  obtain ⟨as, h1, h2, h3⟩ := h.ex
  exact ⟨as, ext_tup e h1, h2, fun j v he => by
    obtain ⟨x, k1, k2⟩ := h3 j v he
    exact ⟨x, k1, ext_tup e k2⟩⟩
theorem MachAt.ext {C : Addr} {H H' : Hp} {p : Addr} {n : Nat} {es : List Ev} (h : MachAt C H p n es) (e : ExtN H H') : MachAt C H' p n es := by
  obtain ⟨dx, ea, ko, ks, fs, h1, h2, h3, h4, h5, h6, h7⟩ := h.ex
  exact ⟨dx, ea, ko, ks, fs, e _ _ h1 (by intro ps z; cases z), h2, h3, h4.ext e, ext_lst e h5, h6, fun q hq => by
    obtain ⟨k, k1, k2⟩ := h7 q hq
    exact ⟨k, k1, ext_lst e k2⟩⟩
/-! ### the call of gain in the comprehension -/
def tGB (cl : List (Str × Addr)) (σ0 : L2.St) (t : TA) : TE := fun σ H Q => ∃ (fg c' sa : Addr) (a b : Int), slotAt σ0 3 = some (.ref sa) ∧ tGain 5 fg (GHc fg (mkG cl c') sa a b) (gn a b) t σ H Q
theorem pe_gainB {X : Cx} {scope : Scope} {ce : Env} {pins : List (Addr × Obj)} {σ : L2.St} {s : Shared} {H : Hp} {fp : List Addr} {cl : List (Str × Addr)} {j : Nat} {e : Expr} {es : List Expr} {t : TA} {p pos : Pos} (I : Inv X pins σ H s) (f : ∀ b ∈ fp, FpOk X pins H b) (T : TX X.K X.mg)
    (cp : X.Ok → Caps X cl ["share"] [3]) (hfn : ∀ x, X.fn x = true) (hr : Room j X.A) (hk : 1 ≤ j) (hN : X.N[5]? = some ("gain" : Str)) (hv : Vis ce.scope "gain") (ha : PA (X.blk s H scope ce fp) (e :: es) t)
    (he : starEach (e :: es) ce = (false, eval e ce) :: starEach es ce) (hpl : (backTo pos (starEach es ce)).any (·.1) = false) : PE (X.blk s H scope ce fp) (.Call (.Name "gain" p) (e :: es) [] pos) (tGB cl σ t) := by
  refine ⟨fun pins2 s2 σ2 H2 Q I2 h => ?_⟩
  obtain ⟨fg, c', sa, a, b, hsl, h⟩ := h
  refine (pe_clo (X := X.blk s H scope ce fp) (F := mkG cl c') (ws := [3].map (slotAt σ)) (j := j) (nok_gain T fg cl c') (cells_of I (cp I.ok)) (fun y c hc => cell_nofr I hfn ((cp I.ok).sub y c hc)) (fun y c hc z => (f c z).2.2.2.2.1 y c ((cp I.ok).sub y c hc) rfl) hr hk hN hv (fun H h => ⟨h.1, h.2.1⟩)
    (fun a x H Q h h1 h2 q => spG_of (by rw [← hsl]; rfl) h h1 h2 q) ha he hpl).run pins2 s2 σ2 H2 Q I2 h
/-! ### best_run -/
abbrev Tg (Pt : Addr) : List NTab := [(Pt, fun _ _ => q_gain)]
structure DfC (K : PySem.W.Frag) (mg : Str → Option Value) (x : Str) (st : Stmt) (c : Addr) : Prop where
  ex : ∃ (f : Addr) (fd : FuncData), FnP K x st f fd ∧ mg x = some (.ref f) ∧ fd.code = .ref c
def spBest (K : PySem.W.Frag) (Pt : Addr) : Sp := fun vs H Q _ => ∃ (mp fa la sa : Addr) (n : Nat) (es : List Ev) (f l : Nat × Int) (a b sg : Int), vs = [.ref mp, .ref fa, .ref la, .ref sa, .int sg] ∧ TabsN (Tg Pt) H ∧ MachAt (mC K) H mp n es ∧ MOk n es ∧ Tp2 H fa (f.1 : Nat) f.2 ∧ Tp2 H la (l.1 : Nat) l.2 ∧ f.1 < l.1 ∧ l.1 ≤ 300 ∧
  -1500 ≤ f.2 ∧ f.2 ≤ 1500 ∧ Tp2 H sa a b ∧ a.natAbs ≤ 1000000 ∧ b.natAbs ≤ 1000000 ∧ (sg = 1 ∨ sg = -1) ∧
  ∀ H' : Hp, ExtN H H' → TabsN (Tg Pt) H' → (BestIs es f l a b sg none → Q .non H') ∧ ∀ (p ra : Addr) (c : Int) (r : List Nat), H' p = some (.tup [.int c, .ref ra]) → RunT H' ra r → BestIs es f l a b sg (some (c, r)) → Q (.ref p) H'
abbrev n_best_run : List Str := ["machine", "first", "last", "share", "sign", "gain", "lead", "state", "starts", "layers", "best", "behind", "begin"]
theorem sc_best_run : FnScope n_best_run ["machine", "first", "last", "share", "sign"] (defScope s_best_run) := ⟨rfl, rfl, rfl, by decide +kernel, rfl, by decide +kernel, by decide +kernel⟩
theorem ps_gain {X : Cx} {c Pt : Addr} (TB : TabB X.base X.mg c Pt) (hcode : X.env.code = .ref c) (hq : X.env.qual ++ "gain" = q_gain) (hfree : ∀ y ∈ (C8.fnScope s_gain).names, y.2 = .free → X.env.scope.names.lookup y.1 = some .cell ∨ X.env.scope.names.lookup y.1 = some .free) (ha : annTrees (C8.fnArgs s_gain) none X.env = [])
    (hN : X.N.Nodup) (hi : X.N[5]? = some ("gain" : Str)) (hx : Loc X.env.scope "gain") (hf : X.fn "gain" = true) : PS X s_gain (tNdef (Tg Pt) 5 (mkG (cloFrom X.env.cells (C8.fnScope s_gain).names []))) := by
  have q := ps_ndefS (X := X) (st := s_gain) (T := Tg Pt) (nm := fun _ _ => q_gain) (c := c) (P := Pt) (name := "gain") (i := 5) rfl TB hcode (List.mem_singleton.mpr rfl) hq.symm (fun p hp _ => by rw [List.mem_singleton.mp hp]) hfree rfl rfl ha hN hi hx (.inl hf)
  rw [hq] at q
  exact q
/-- the starts, as the comprehension makes them -/
def startT (ss : List Sta) (c : Int) : Sta → Option Int := fun s => if s ∈ ss then some c else none
theorem last_at {ds : List Addr} {m : Nat} {d : Addr} (hl : ds.length = m + 1) (hd : ds[m]? = some d) : atI (ds.map V.ref) (-1) = some (.ref d) := by
  have e : ds = ds.take m ++ [d] := by
    have := List.take_append_drop m ds
    rw [List.drop_eq_getElem_cons (by omega), List.drop_eq_nil_of_le (by omega)] at this
    rw [List.getElem?_eq_getElem (by omega)] at hd
    rw [Option.some.inj hd] at this
    exact this.symm
  rw [e, List.map_append]
  exact atI_last _ _
/-- every run of the two parts is met by the layers -/
theorem layers_meet {es : List Ev} {n : Nat} (M : MOk n es) {f l : Nat × Int} {a b sg : Int} {m : Nat} (hm : l.1 = f.1 + m) {i1 i2 : Nat} {TL TT : Nat → Sta → Option Ent} (I1 : TInv es g0 1 0 f.1 Tz i1 (fun k _ _ => k < f.1) TL) {ss : List Sta} (hss : ∀ s : Sta, s ∈ ss ↔ TL f.1 s ≠ none ∧ s.2 = f.2)
    (I2 : TInv es (gn a b) sg f.1 m (startT ss (gn a b f.1 f.2)) i2 (fun k _ _ => k < m) TT) {x : Int} (h : RunsN es f l a b x) : ∃ s c v, TT m s = some (c, v) ∧ s.2 = l.2 ∧ sg * c ≤ sg * x := by
  obtain ⟨r1, r2, q, q2, c2, w1, w2, rfl⟩ := h
  obtain ⟨k, c', v, e1, e2, _⟩ := I1.best (fun _ _ _ h => h) (c0 := 0) (T0 := Tz) rfl M w1 (by omega)
  have ek : k = f.1 := by omega
  subst ek
  have hs : ((q, f.2) : Sta) ∈ ss := (hss (q, f.2)).mpr ⟨by rw [e2]; simp, rfl⟩
  obtain ⟨k, c', v, e1, e2, e3⟩ := I2.best (fun _ _ _ h => h) (s0 := (q, f.2)) (c0 := gn a b f.1 f.2) (if_pos hs) M w2 (by omega)
  have ek : k = m := by omega
  subst ek
  exact ⟨(q2, l.2), c', v, e2, rfl, e3⟩
section
variable {P : Program} {w : World} {K : PySem.W.Frag} {mg : Str → Option Value} {base : Heap}
theorem ok_best_run {c Pt : Addr} (D : DfC K mg "best_run" s_best_run c) (Dt : Df K mg "traced" s_traced) (T : TX K mg) (TB : TabB base mg c Pt) (g_step_at : Fk P w K mg base 1 "step_at" ["machine", "event"] (spStepAt K)) (g_keep_better : Fk P w K mg base 1 "keep_better" ["layer", "goal", "entry", "sign"] spKeepBetter)
    (g_lead_to : Fk P w K mg base 3 "lead_to" ["machine", "first"] (spLeadTo K)) (g_begins_of : Fk P w K mg base 1 "begins_of" ["layers", "first"] spBeginsOf) (g_way_back : Fk P w K mg base 2 "way_back" ["machine", "layers", "state"] (spWayBack K)) :
    Fk P w K mg base 4 "best_run" ["machine", "first", "last", "share", "sign"] (spBest K Pt) := by
  obtain ⟨f0, fd0, F0, hm0, hc0⟩ := D.ex
  obtain ⟨oc, od, dV, kV, doc, pm, an, cdv, ct, osl, rfl, lk, hcd, _, _⟩ := F0.ex
  obtain rfl : cdv = .ref c := hc0
  refine ⟨f0, _, fn_of (N := n_best_run) lk hcd sc_best_run (fun vs H Q E h => ?_) (fun A outer s H vs Q E hr h => ?_), hm0, F0.kp, F0.bindsN (fun _ _ _ _ _ _ us hl => match us, hl with | [_, _, _, _, _], _ => rfl)⟩
  · obtain ⟨_, _, _, _, _, _, _, _, _, _, _, rfl, _⟩ := h
    rfl
  · obtain ⟨mp, fa, la, sa, n, es, f, l, a, b, sg, rfl, hT, hm, hM, hf, hl, hfl, hl3, hf1, hf2, hs, hab, hbb, hsg, q⟩ := h
    have cp : (cxOf CX0 P w K mg base n_best_run "best_run" (defScope s_best_run) f0 (.ref c) A outer s H E).nox.Ok → Caps (cxOf CX0 P w K mg base n_best_run "best_run" (defScope s_best_run) f0 (.ref c) A outer s H E).nox (cloFrom (cxOf CX0 P w K mg base n_best_run "best_run" (defScope s_best_run) f0 (.ref c) A outer s H E).nox.env.cells (C8.fnScope s_gain).names []) ["share"] [3] :=
      fun ok => Caps.made ok (ndef_free (sc := defScope s_best_run) (fr := ["share"]) (by decide +kernel)) (ndef_fr (sc := defScope s_best_run) (fr := ["share"]) (by decide +kernel)) rfl
    refine ⟨_, PSs.nox (pss_cons (ps_gain TB rfl (by rfl) (ndef_free (sc := defScope s_best_run) (fr := ["share"]) (by decide +kernel)) rfl sc_best_run.nd rfl (.inr rfl) rfl)
      (pss_cons (ps_set (i := 6) sc_best_run.nd rfl (Or.inl rfl) (pe_fk g_lead_to hr (by rfl) (pa_cons (pv 0) (pa_cons (pv 1) pa_nil))))
      (pss_cons (ps_setDcT (i := 8) (own := [("state", 7)]) (g := gName 7) (Nat.lt_of_succ_lt (hu_of hr)) (by rfl) sc_best_run.nd rfl rfl (sw_trueD rfl rfl rfl (by decide +kernel)) (pi_list (pe_fk g_begins_of hr (by rfl) (pa_cons (pv 6) (pa_cons (pv 1) pa_nil)))) (blkOk_by (own := [("state", 7)]) (N := n_best_run) (sc := defScope s_best_run) (by decide +kernel)) (fun _ _ _ _ _ => (pg_name (i := 7) sc_best_run.nd rfl (Or.inl rfl))) (fun _ _ _ _ _ => (pv 7))
          (fun _ _ _ _ _ _ I fI => pe_gainB I fI T cp (fun _ => rfl) hr (by decide) rfl (by first | exact Or.inl rfl | exact Or.inr (Or.inl rfl) | exact Or.inr (Or.inr rfl)) (pa_cons (pe_ix (ix_tupK (K := K) rfl) (pv 1) pe_int (fun _ _ => rfl)) (pa_cons (pe_ix (ix_tupK (K := K) rfl) (pv 1) pe_int (fun _ _ => rfl)) pa_nil)) (by rfl) (by rfl)))
      (pss_cons (ps_set (i := 9) sc_best_run.nd rfl (Or.inl rfl) (pe_trG Dt T g_step_at g_keep_better cp (fun _ => rfl) hr (by decide) (by rfl) (pa_cons (pv 0) (pa_cons (pv 8) (pa_cons (pe_ix ix_tup (pv 1) pe_int (fun _ _ => rfl)) (pa_cons (pe_ix ix_tup (pv 2) pe_int (fun _ _ => rfl)) (pa_cons (pv 5) (pa_cons (pv 4) pa_nil)))))) (by rfl) (by rfl)))
      (pss_cons (ps_set (i := 10) sc_best_run.nd rfl (Or.inl rfl) pe_non)
      (pss_cons (ps_for PassesOwn.never (by rfl) (pi_list (pe_fk g_begins_of hr (by rfl) (pa_cons (pv 9) (pa_cons (pv 2) pa_nil)))) (pg_name (i := 7) sc_best_run.nd rfl (Or.inl rfl))
       (pss_one (ps_if (PW.pt (pw_or (pt_cmp (pc_isN (pv 10))) (pw_or1 (pt_cmpR op_lt (pe_op op_mulW (pv 4) (pe_ix ix_tup (pe_dget (hu_of hr) (pe_ix ix_list (pv 9) (pe_un un_neg pe_int) (fun _ _ => rfl)) (pv 7) (fun _ _ => rfl)) pe_int (fun _ _ => rfl))) (pe_op op_mulW (pv 4) (pe_ix ix_tup (pe_dget (hu_of hr) (pe_ix ix_list (pv 9) (pe_un un_neg pe_int) (fun _ _ => rfl)) (pv 10) (fun _ _ => rfl)) pe_int (fun _ _ => rfl))) (nomark _))))) (pss_one (ps_set (i := 10) sc_best_run.nd rfl (Or.inl rfl) (pv 7))) pss_nil)))
      (pss_cons (ps_if (pt_cmp (pc_isN (pv 10))) (pss_one (ps_ret pe_non)) pss_nil)
      (pss_cons (ps_set (i := 11) sc_best_run.nd rfl (Or.inl rfl) (pe_fk g_way_back hr (by rfl) (pa_cons (pv 0) (pa_cons (pv 9) (pa_cons (pv 10) pa_nil)))))
      (pss_cons (ps_set (i := 12) sc_best_run.nd rfl (Or.inl rfl) (pe_ix ix_tup (pe_fk g_step_at hr (by rfl) (pa_cons (pv 0) (pa_cons (pe_ix ix_list (pv 11) pe_int (fun _ _ => rfl)) pa_nil))) pe_int (fun _ _ => rfl)))
      (pss_one (ps_ret (pe_tup (pa_cons (pe_ix ix_tup (pe_dget (hu_of hr) (pe_ix ix_list (pv 9) (pe_un un_neg pe_int) (fun _ _ => rfl)) (pv 10) (fun _ _ => rfl)) pe_int (fun _ _ => rfl)) (pa_cons (pe_callTy call_tuple_of (by rfl) T.tuple (by decide +kernel) (pa_cons (pe_op op_cat (pe_fk g_way_back hr (by rfl) (pa_cons (pv 0) (pa_cons (pv 6) (pa_cons (pe_tup (pa_cons (pv 12) (pa_cons (pe_ix ix_tup (pv 1) pe_int (fun _ _ => rfl)) pa_nil))) pa_nil)))) (pv 11)) pa_nil)) pa_nil)))))))))))))), ?_⟩
    obtain ⟨t1, x1⟩ := f
    obtain ⟨t2, x2⟩ := l
    dsimp only at hf hl hfl hl3 hf1 hf2 q
    refine ⟨hT, fun fg c' H1 e1 hT1 hfg0 hfg hco => ?_⟩
    have hm1 := hm.ext e1
    have hf1' := hf.ext e1
    have hl1 := hl.ext e1
    have hs1 := hs.ext e1
    -- the layers from the begin
    refine ⟨_, rfl, _, rfl, mp, fa, n, es, t1, x1, rfl, hm1, hM, hf1', by omega, fun H2 pL dsL TL s2 hLL hlL hIL => ?_⟩
    -- the states that show the first board
    refine ⟨_, rfl, _, rfl, pL, fa, dsL, TL, t1, (t1 : Int), x1, rfl, hLL, hlL, s2 _ _ hf1', fun H3 L3 ss s3 hB3 hss3 hss => ?_⟩
    have s23 := s2.trans s3
    have hL3 := hLL.same s3
    obtain ⟨as3, b1, b2, b3⟩ := hB3.ex
    have hGH3 : GHc fg (mkG (cloFrom (cxOf CX0 P w K mg base n_best_run "best_run" (defScope s_best_run) f0 (.ref c) A outer s H E).nox.env.cells (C8.fnScope s_gain).names []) c') sa a b H3 := ⟨s23 _ _ hfg, s23 _ _ hco, s23 _ _ hs1, hab, hbb⟩
    have hsmL : ∀ s : Sta, s ∈ ss → s.1 < n := fun s hs => by
      obtain ⟨z1, z2⟩ := (hss s).mp hs
      cases e : TL t1 s with
      | none => exact absurd e z1
      | some en => exact (hIL.small hM g0_01 (tz_ok hM.n1) (by omega) (c := en.1) (v := en.2) e).2.1
    have hBox : ∀ s : Sta, s ∈ ss → BoxS s := fun s hs => ⟨Nat.lt_of_lt_of_le (hsmL s hs) hM.n4, by have := ((hss s).mp hs).2; omega, by have := ((hss s).mp hs).2; omega⟩
    refine ⟨L3, rfl, ⟨_, SqL.of b1⟩, fun Dd nDd => dc_it walk_list (fun i H' => Same H3 H' ∧ ∃ kv : List (List L2.Key × V), H' Dd = some (.dT kv) ∧ Box kv ∧ ∀ s, (startT (ss.take i) (gn a b t1 x1) s = none → valV kv (kS s) = none) ∧ ∀ c, startT (ss.take i) (gn a b t1 x1) s = some c → valV kv (kS s) = some (.int c))
      ⟨same_new nDd, [], upd_same, Box.nil, fun s => ⟨fun _ => rfl, fun c e => by cases e⟩⟩ (fun i H' _ ⟨z, _⟩ => SqL.of (z _ _ b1)) ?_ ?_⟩
    · rintro i x H'' H' hi ⟨z1, kv, z2, z3, z4⟩ ⟨rfl, hx⟩
      obtain ⟨k, hk, rfl⟩ := of_map_get hx
      have hil := (List.getElem?_eq_some_iff.mp hk).1
      obtain ⟨st, hst⟩ : ∃ st, ss[i]? = some st := ⟨ss[i]'(by omega), List.getElem?_eq_getElem (by omega)⟩
      obtain ⟨k', u1, u2⟩ := b3 i st hst
      rw [hk] at u1
      cases u1
      have hf' : H' fa = some (.tup [.int (t1 : Nat), .int x1]) := z1 _ _ (s23 _ _ hf1')
      refine ⟨rfl, _, rfl, fg, c', sa, a, b, rfl, rfl, hGH3.same z1, _, rfl, fa, _, 0, .int (t1 : Nat), rfl, rfl, SqT.of hf', atI_nat (j := 0) rfl, _, rfl, fa, _, 1, .int x1, rfl, rfl, SqT.of hf', atI_nat (j := 1) rfl, t1, x1, rfl, by omega, by omega, hGH3.same z1, kv, kS st, k, rfl, (Tp2.key (z1 _ _ u2)), z2, z3.lt, fun b o eb => ?_, _, upd_same, z3.put (hBox st (List.mem_of_getElem? hst)) _, fun s4 => ?_⟩
      · rw [upd_ne (ne_of_none eb nDd)]
        exact z1 _ _ eb
      · rw [valV_put]
        by_cases e : s4 = st
        · subst e
          rw [if_pos rfl]
          have : startT (ss.take (i + 1)) (gn a b t1 x1) s4 = some (gn a b t1 x1) := if_pos (by rw [take_snoc hst]; simp)
          rw [this]
          exact ⟨fun z => (by cases z), fun c z => by cases z; rfl⟩
        · rw [if_neg (fun z => e (kS_inj z))]
          have : startT (ss.take (i + 1)) (gn a b t1 x1) s4 = startT (ss.take i) (gn a b t1 x1) s4 := by
            unfold startT
            rw [take_snoc hst]
            by_cases z : s4 ∈ ss.take i
            · rw [if_pos z, if_pos (List.mem_append_left _ z)]
            · rw [if_neg z, if_neg (fun y => (List.mem_append.mp y).elim z fun y => e (List.mem_singleton.mp y))]
          rw [this]
          exact z4 s4
    rintro H4 ⟨z1, kv, z2, z3, z4⟩
    have e0 : ss.take (as3.map V.ref).length = ss := by rw [List.length_map, b2, List.take_length]
    rw [e0] at z4
    have s14 := s23.trans z1
    have hst4 : StartAt H4 Dd (startT ss (gn a b t1 x1)) := ⟨kv, z2, z3, z4⟩
    have hT0 : T0Ok n (startT ss (gn a b t1 x1)) := fun s c e => by
      unfold startT at e
      split at e
      · rename_i hs
        cases e
        have h2 := ((hss s).mp hs).2
        have h3 := gn_01 a b t1 x1
        exact ⟨hsmL s hs, by omega, by omega, h3.1, h3.2⟩
      · cases e
    obtain ⟨m, hm2⟩ : ∃ m, t2 = t1 + m := ⟨t2 - t1, by omega⟩
    have hf4 : H4 fa = some (.tup [.int (t1 : Nat), .int x1]) := s14 _ _ hf1'
    have hl4 : H4 la = some (.tup [.int (t2 : Nat), .int x2]) := s14 _ _ hl1
    refine ⟨_, rfl, _, rfl, _, rfl, fa, _, 0, .int (t1 : Nat), rfl, rfl, SqT.of hf4, atI_nat (j := 0) rfl, _, rfl, la, _, 0, .int (t2 : Nat), rfl, rfl, SqT.of hl4, atI_nat (j := 0) rfl, _, rfl, _, rfl, fg, c', sa, a, b, rfl, hGH3.same z1, mp, Dd, n, es, sg, t1, m, _, by rw [← hm2], hm1.same s14, hM, hst4, hT0, hsg, by omega, by omega, hGH3.same z1, fun H5 pT ds TT s5 hLT hlT hIT => ?_⟩
    have s15 := s14.trans s5
    refine ⟨_, rfl, _, rfl, pT, la, ds, TT, m, (t2 : Int), x2, rfl, hLT, hlT, s15 _ _ hl1, fun H6 L6 ss6 s6 hB6 hss6l hss6 => ?_⟩
    have s16 := s15.trans s6
    have hLT6 := hLT.same s6
    obtain ⟨d, hd⟩ : ∃ d, ds[m]? = some d := ⟨ds[m]'(by omega), List.getElem?_eq_getElem (by omega)⟩
    obtain ⟨kvs, y1, y2, y3⟩ := (hLT6.lay m d hd).ex
    obtain ⟨as6, a1, a2, a3⟩ := hB6.ex
    have hsn : sg.natAbs ≤ 1000000 := by rcases hsg with z | z <;> rw [z] <;> decide
    refine ⟨L6, rfl, ⟨_, SqL.of a1⟩, for_list (fun i σ H' => H' = H6 ∧ ∃ v7 v10, σ = [some (.ref mp), some (.ref fa), some (.ref la), some (.ref sa), some (.int sg), some (.ref fg), some (.ref pL), v7, some (.ref Dd), some (.ref pT), some v10, none, none] ∧
        ((i = 0 ∧ v10 = .non) ∨ ∃ ba sB cB vB, v10 = .ref ba ∧ Tp2 H6 ba (sB.1 : Nat) sB.2 ∧ TT m sB = some (cB, vB) ∧ sB.2 = x2 ∧ ∀ j, j < i → ∀ s c v, ss6[j]? = some s → TT m s = some (c, v) → sg * cB ≤ sg * c))
      ⟨rfl, _, _, rfl, .inl ⟨rfl, rfl⟩⟩ (fun i σ H' _ ⟨z, _⟩ => by rw [z]; exact SqL.of a1) ?_ ?_⟩
    · rintro i x σ H' hx ⟨rfl, v7, v10, rfl, hv⟩
      obtain ⟨k, hk, rfl⟩ := of_map_get hx
      have hil := (List.getElem?_eq_some_iff.mp hk).1
      obtain ⟨st, hst⟩ : ∃ st, ss6[i]? = some st := ⟨ss6[i]'(by omega), List.getElem?_eq_getElem (by omega)⟩
      obtain ⟨k', u1, u2⟩ := a3 i st hst
      rw [hk] at u1
      cases u1
      obtain ⟨w1, w2⟩ := (hss6 st).mp (List.mem_of_getElem? hst)
      obtain ⟨cS, vS, hTS⟩ : ∃ cS vS, TT m st = some (cS, vS) := by
        cases e : TT m st with
        | none => exact absurd e w1
        | some en => exact ⟨en.1, en.2, rfl⟩
      have hsm := hIT.small hM (gn_01 a b) hT0 (by omega) hTS
      rcases hv with ⟨hi0, rfl⟩ | ⟨ba, sB, cB, vB, rfl, hb1, hb2, hb3, hb4⟩
      · refine ⟨_, rfl, _, rfl, ifT rfl ⟨_, rfl, rfl, _, _, rfl, .inr ⟨k, st, cS, vS, rfl, u2, hTS, w2, fun j hj s c v e1 e2 => ?_⟩⟩⟩
        have : j = i := by omega
        subst this
        rw [hst] at e1
        cases e1
        rw [hTS] at e2
        cases e2
        exact Int.le_refl _
      · refine ⟨_, rfl, _, rfl, ifF (by intro z; cases z) ?_⟩
        obtain ⟨eS, p1, p2⟩ := (y3 st).2 _ hTS
        obtain ⟨eB, p3, p4⟩ := (y3 sB).2 _ hb2
        obtain ⟨rS, hrS⟩ := p2.head
        obtain ⟨rB, hrB⟩ := p4.head
        have hsmB := hIT.small hM (gn_01 a b) hT0 (by omega) hb2
        refine ⟨_, rfl, _, rfl, 1, rfl, pT, ds.map V.ref, _, .ref d, rfl, rfl, SqL.of hLT6.at_, last_at hlT hd, _, rfl, d, .ref eS, rfl, by rw [← p1]; exact DGet.t y1 u2.key, eS, _, 0, .int cS, rfl, rfl, SqT.of hrS, atI_nat (j := 0) rfl, sg, cS, rfl, rfl, cmul_small hsn (by omega), ?_⟩
        refine ⟨_, rfl, _, rfl, 1, rfl, pT, ds.map V.ref, _, .ref d, rfl, rfl, SqL.of hLT6.at_, last_at hlT hd, _, rfl, d, .ref eB, rfl, by rw [← p3]; exact DGet.t y1 hb1.key, eB, _, 0, .int cB, rfl, rfl, SqT.of hrB, atI_nat (j := 0) rfl, sg, cB, rfl, rfl, cmul_small hsn (by omega), sg * cS, sg * cB, rfl, rfl, _, rfl, ifD (fun hlt => ?_) fun hlt => ?_⟩
        · refine ⟨_, rfl, rfl, _, _, rfl, .inr ⟨k, st, cS, vS, rfl, u2, hTS, w2, fun j hj s c v e1 e2 => ?_⟩⟩
          by_cases hji : j < i
          · exact Int.le_trans (Int.le_of_lt hlt) (hb4 j hji s c v e1 e2)
          · have : j = i := by omega
            subst this
            rw [hst] at e1
            cases e1
            rw [hTS] at e2
            cases e2
            exact Int.le_refl _
        · refine ⟨rfl, _, _, rfl, .inr ⟨ba, sB, cB, vB, rfl, hb1, hb2, hb3, fun j hj s c v e1 e2 => ?_⟩⟩
          by_cases hji : j < i
          · exact hb4 j hji s c v e1 e2
          · have : j = i := by omega
            subst this
            rw [hst] at e1
            cases e1
            rw [hTS] at e2
            cases e2
            exact Int.not_lt.mp hlt
    · rintro σ H' ⟨rfl, v7, v10, rfl, hv⟩
      rw [List.length_map, a2] at hv
      have hT6 : TabsN (Tg Pt) H' := hT1.ext s16
      have hE6 : ExtN H H' := e1.trans (ext_of s16)
      rcases hv with ⟨hi0, rfl⟩ | ⟨ba, sB, cB, vB, rfl, hb1, hb2, hb3, hb4⟩
      · refine ⟨_, rfl, _, rfl, ifT rfl ((q H' hE6 hT6).1 fun x hx => ?_)⟩
        obtain ⟨s, c, v, e1, e2, _⟩ := layers_meet hM (f := (t1, x1)) (l := (t2, x2)) hm2 hIL hss hIT hx
        have := (hss6 s).mpr ⟨by rw [e1]; simp, e2⟩
        rw [List.eq_nil_of_length_eq_zero hi0] at this
        cases this
      · refine ⟨_, rfl, _, rfl, ifF (by intro z; cases z) ?_⟩
        refine ⟨_, rfl, _, rfl, _, rfl, mp, pT, ba, n, es, gn a b, sg, t1, m, _, m, _, TT, ds, sB, _, rfl, hm1.same s16, hM, hLT6, hlT, by omega, hIT, hb1, hb2, fun H7 L7 r2 s0 c0 c1 s7 hL7 hT0s hw2 hc => ?_⟩
        have hs0 : s0 ∈ ss ∧ c0 = gn a b t1 x1 := by
          unfold startT at hT0s
          split at hT0s
          · rename_i h
            exact ⟨h, (Option.some.inj hT0s).symm⟩
          · cases hT0s
        obtain ⟨hs0a, rfl⟩ := hs0
        obtain ⟨hTL0, hs02⟩ := (hss s0).mp hs0a
        have s17 := s16.trans s7
        have hr2 : ∃ j0 r3, r2 = j0 :: r3 := by
          cases r2 with
          | nil =>
            have := (hw2.of_nil rfl).1
            omega
          | cons j0 r3 => exact ⟨j0, r3, rfl⟩
        obtain ⟨j0, r3, rfl⟩ := hr2
        obtain ⟨e, c3, he, heb, _, _⟩ := hw2.uncons j0 r3 rfl
        refine ⟨_, rfl, _, rfl, L7, _, 0, .int (j0 : Nat), rfl, rfl, SqL.of hL7, atI_nat (j := 0) rfl, mp, j0, n, es, e, rfl, hm1.same s17, he, fun x hxe => ?_⟩
        have hxe : H7 x = some (.tup [.int (e.b : Nat), .int (e.a : Nat), .int (e.t : Nat), .int e.p]) := hxe
        refine ⟨x, _, 0, .int (e.b : Nat), rfl, rfl, SqT.of hxe, atI_nat (j := 0) rfl, ?_⟩
        have hLT7 := hLT6.same s7
        obtain ⟨kv7, g1, g2, g3⟩ := (hLT7.lay m d hd).ex
        obtain ⟨eB, p3, p4⟩ := (g3 sB).2 _ hb2
        obtain ⟨rB, hrB⟩ := p4.head
        refine ⟨_, rfl, 1, rfl, pT, ds.map V.ref, _, .ref d, rfl, rfl, SqL.of hLT7.at_, last_at hlT hd, _, rfl, d, .ref eB, rfl, by rw [← p3]; exact DGet.t g1 (Tp2.key (s7 _ _ hb1)), eB, _, 0, .int cB, rfl, rfl, SqT.of hrB, atI_nat (j := 0) rfl, ?_⟩
        have hf7 : H7 fa = some (.tup [.int (t1 : Nat), .int x1]) := s17 _ _ hf1'
        refine ⟨_, rfl, _, rfl, _, rfl, _, rfl, fa, _, 1, .int x1, rfl, rfl, SqT.of hf7, atI_nat (j := 1) rfl, le_line (n := 2) (by decide), fun np nnp => ?_⟩
        have s8 : Same H7 (upd H7 np (.tup [.int (e.b : Nat), .int x1])) := same_new nnp
        have hnp : Tp2 (upd H7 np (.tup [.int (e.b : Nat), .int x1])) np (s0.1 : Nat) s0.2 := by
          show upd _ _ _ np = _
          rw [upd_same, heb, hs02]
        generalize upd H7 np (.tup [.int (e.b : Nat), .int x1]) = H8 at s8 hnp
        have s37 : Same H3 H7 := z1.trans (s5.trans (s6.trans s7))
        obtain ⟨en0, hen0⟩ : ∃ en0, TL t1 s0 = some en0 := by
          cases e : TL t1 s0 with
          | none => exact absurd e hTL0
          | some en => exact ⟨en, rfl⟩
        refine ⟨mp, pL, np, n, es, g0, 1, 0, t1, Tz, t1, _, TL, dsL, s0, en0, rfl, hm1.same (s17.trans s8), hM, hL3.same (s37.trans s8), hlL, by omega, hIL, hnp, hen0, fun H9 L9 r1 s00 c00 c11 s9 hL9 hT00 hw1 hc1 => ?_⟩
        have h00 : s00 = (0, 0) := by
          unfold Tz at hT00
          split at hT00
          · assumption
          · cases hT00
        subst h00
        have hz := hw1.zero
        subst hz
        rw [Nat.zero_add] at hw1
        have hlen1 := hw1.len hM
        have hlen2 := hw2.len hM
        have hL79 := (s8.trans s9) _ _ hL7
        refine ⟨_, rfl, L9, L7, _, _, rfl, rfl, hL9, hL79, le_line (by rw [List.length_map, List.length_map]; omega), fun cp' ncp => ⟨cp', _, rfl, .inl ⟨SqL.of upd_same, fun tp ntp => ⟨le_line (n := 2) (by decide), fun fp nfp => ?_⟩⟩⟩⟩
        have s10 : Same H9 (upd (upd (upd H9 cp' (.lst (r1.map (fun j => V.int (j : Nat)) ++ (j0 :: r3).map fun j => V.int (j : Nat)))) tp (.tup (r1.map (fun j => V.int (j : Nat)) ++ (j0 :: r3).map fun j => V.int (j : Nat)))) fp (.tup [.int cB, .ref tp])) := (same_new ncp).trans ((same_new ntp).trans (same_new nfp))
        have sall := (s17.trans s8).trans (s9.trans s10)
        refine (q _ (e1.trans (ext_of sall)) (hT1.ext sall)).2 fp tp cB (r1 ++ (j0 :: r3)) upd_same ?_ ⟨⟨r1, _, rfl, s0.1, sB.1, c1, ?_, ?_, ?_⟩, fun x hx => ?_⟩
        · show upd _ _ _ tp = _
          rw [upd_ne (fun z => by rw [← z, upd_same] at nfp; cases nfp), upd_same, List.map_append]
        · show Way es g0 0 (0, 0) t1 (s0.1, x1) r1 0
          rw [← hs02]
          exact hw1
        · show Way es (gn a b) t1 (s0.1, x1) t2 (sB.1, x2) (j0 :: r3) c1
          rw [← hs02, ← hb3, hm2]
          exact hw2
        · exact hc
        · obtain ⟨s, c, v, e1, e2, e3⟩ := layers_meet hM (f := (t1, x1)) (l := (t2, x2)) hm2 hIL hss hIT hx
          obtain ⟨j, hj⟩ := List.mem_iff_getElem?.mp ((hss6 s).mpr ⟨by rw [e1]; simp, e2⟩)
          exact Int.le_trans (hb4 j (List.getElem?_eq_some_iff.mp hj).1 s c v hj e1) e3
end
end Nl
namespace Nl
open PySem PySem.Spec PyProof.Rows L2 LamX NdefX
structure BPre (K : PySem.W.Frag) (Pt : Addr) (H : Hp) (mp fa la sa : Addr) (n : Nat) (es : List Ev) (f l : Nat × Int) (a b : Int) : Prop where
  t : TabsN (Tg Pt) H
  m : MachAt (mC K) H mp n es
  M : MOk n es
  pf : Tp2 H fa (f.1 : Nat) f.2
  pl : Tp2 H la (l.1 : Nat) l.2
  fl : f.1 < l.1
  l3 : l.1 ≤ 300
  f1 : -1500 ≤ f.2
  f2 : f.2 ≤ 1500
  f0 : 0 < f.1 ∨ f.2 = 0
  s : Tp2 H sa a b
  ab : a.natAbs ≤ 1000000
  bb : b.natAbs ≤ 1000000
  sh : ShOk a b
theorem BPre.ext {K : PySem.W.Frag} {Pt : Addr} {H H' : Hp} {mp fa la sa : Addr} {n : Nat} {es : List Ev} {f l : Nat × Int} {a b : Int} (h : BPre K Pt H mp fa la sa n es f l a b) (e : ExtN H H') (t : TabsN (Tg Pt) H') : BPre K Pt H' mp fa la sa n es f l a b :=
  ⟨t, h.m.ext e, h.M, h.pf.ext e, h.pl.ext e, h.fl, h.l3, h.f1, h.f2, h.f0, h.s.ext e, h.ab, h.bb, h.sh⟩
def spOften (K : PySem.W.Frag) (Pt : Addr) : Sp := fun vs H Q _ => ∃ (mp fa la sa : Addr) (n : Nat) (es : List Ev) (f l : Nat × Int) (a b : Int), vs = [.ref mp, .ref fa, .ref la, .ref sa] ∧ BPre K Pt H mp fa la sa n es f l a b ∧
  ∀ H' : Hp, ExtN H H' → TabsN (Tg Pt) H' → (OftenIs es f l a b none → Q .non H') ∧ ∀ (p : Addr) (x y : Int), Tp2 H' p x y → OftenIs es f l a b (some (x, y)) → Q (.ref p) H'
def spOftenRun (K : PySem.W.Frag) (Pt : Addr) : Sp := fun vs H Q _ => ∃ (mp fa la sa : Addr) (k : Bool) (n : Nat) (es : List Ev) (f l : Nat × Int) (a b : Int), vs = [.ref mp, .ref fa, .ref la, .ref sa, .bl k] ∧ BPre K Pt H mp fa la sa n es f l a b ∧
  ∀ H' : Hp, ExtN H H' → TabsN (Tg Pt) H' → (BestIs es f l a b (if k = true then -1 else 1) none → Q .non H') ∧ ∀ (ra : Addr) (c : Int) (r : List Nat), RunT H' ra r → BestIs es f l a b (if k = true then -1 else 1) (some (c, r)) → Q (.ref ra) H'
section
variable {P : Program} {w : World} {K : PySem.W.Frag} {mg : Str → Option Value} {base : Heap} {Pt : Addr}
abbrev n_often_of : List Str := ["machine", "first", "last", "share", "least"]
theorem sc_often_of : FnScope n_often_of ["machine", "first", "last", "share"] (defScope s_often_of) := ⟨rfl, rfl, rfl, by decide +kernel, rfl, by decide +kernel, by decide +kernel⟩
theorem ok_often_of (D : Df K mg "often_of" s_often_of) (T : TX K mg) (g_best_run : Fk P w K mg base 4 "best_run" ["machine", "first", "last", "share", "sign"] (spBest K Pt)) : Fk P w K mg base 5 "often_of" ["machine", "first", "last", "share"] (spOften K Pt) := by
  refine fk_of D sc_often_of (fun _ _ _ _ _ _ us hl => match us, hl with | [_, _, _, _], _ => rfl) (fun vs H Q E h => ?_) (fun f cdv A outer s H vs Q E hr h => ?_)
  · obtain ⟨_, _, _, _, _, _, _, _, _, _, rfl, _⟩ := h
    rfl
  · obtain ⟨mp, fa, la, sa, n, es, f, l, a, b, rfl, hp, q⟩ := h
    refine ⟨_, (pss_cons (ps_set (i := 4) sc_often_of.nd rfl (Or.inl rfl) (pe_fk g_best_run hr (by rfl) (pa_cons (pv 0) (pa_cons (pv 1) (pa_cons (pv 2) (pa_cons (pv 3) (pa_cons pe_int pa_nil)))))))
      (pss_cons (ps_if (pt_cmp (pc_isN (pv 4))) (pss_one (ps_ret pe_non)) pss_nil)
      (pss_one (ps_ret (pe_tup (pa_cons (pe_ix ix_tup (pv 4) pe_int (fun _ _ => rfl)) (pa_cons (pe_ix ix_tup (pe_fk g_best_run hr (by rfl) (pa_cons (pv 0) (pa_cons (pv 1) (pa_cons (pv 2) (pa_cons (pv 3) (pa_cons (pe_un un_neg pe_int) pa_nil)))))) pe_int (fun _ _ => rfl)) pa_nil))))))), ?_⟩
    refine ⟨_, rfl, _, rfl, _, rfl, _, rfl, mp, fa, la, sa, n, es, f, l, a, b, 1, rfl, hp.t, hp.m, hp.M, hp.pf, hp.pl, hp.fl, hp.l3, hp.f1, hp.f2, hp.s, hp.ab, hp.bb, .inl rfl, fun H1 e1 t1 => ⟨fun hn => ?_, fun p ra c r hpt hrt hb => ?_⟩⟩
    · exact ⟨_, rfl, _, rfl, ifT rfl ((q H1 e1 t1).1 hn)⟩
    · refine ⟨_, rfl, _, rfl, ifF (by intro z; cases z) ?_⟩
      have hp1 := hp.ext e1 t1
      refine ⟨_, rfl, p, _, 0, .int c, rfl, rfl, SqT.of hpt, atI_nat (j := 0) rfl, ?_⟩
      refine ⟨_, rfl, _, rfl, _, rfl, _, rfl, 1, rfl, mp, fa, la, sa, n, es, f, l, a, b, -1, rfl, hp1.t, hp1.m, hp1.M, hp1.pf, hp1.pl, hp1.fl, hp1.l3, hp1.f1, hp1.f2, hp1.s, hp1.ab, hp1.bb, .inr rfl, fun H2 e2 t2 => ⟨fun hn => ?_, fun p' ra' c' r' hpt' hrt' hb' => ?_⟩⟩
      · obtain ⟨⟨r1, r2, _, hr12⟩, _⟩ := hb
        exact absurd ⟨r1, r2, hr12⟩ (hn c)
      · refine ⟨p', _, 0, .int c', rfl, rfl, SqT.of hpt', atI_nat (j := 0) rfl, le_line (n := 2) (by decide), fun np nnp => ?_⟩
        have s3 : Same H2 (upd H2 np (.tup [.int c, .int c'])) := same_new nnp
        exact (q _ ((e1.trans e2).trans (ext_of s3)) (t2.ext s3)).2 np c c' upd_same (best_two hb hb')
abbrev n_often : List Str := ["machine", "first", "last", "share"]
theorem sc_often : FnScope n_often ["machine", "first", "last", "share"] (defScope s_often) := ⟨rfl, rfl, rfl, by decide +kernel, rfl, by decide +kernel, by decide +kernel⟩
theorem ok_often (D : Df K mg "often" s_often) (T : TX K mg) (g_check_boards : Fk P w K mg base 4 "check_boards" ["first", "last"] spCheckBoards) (g_check_share : Fk P w K mg base 4 "check_share" ["thing"] spCheckShare) (g_check_tries : Fk P w K mg base 1 "check_tries" ["last"] spCheckTries)
    (g_often_of : Fk P w K mg base 5 "often_of" ["machine", "first", "last", "share"] (spOften K Pt)) : Fk P w K mg base 6 "often" ["machine", "first", "last", "share"] (spOften K Pt) := by
  refine fk_of D sc_often (fun _ _ _ _ _ _ us hl => match us, hl with | [_, _, _, _], _ => rfl) (fun vs H Q E h => ?_) (fun f cdv A outer s H vs Q E hr h => ?_)
  · obtain ⟨_, _, _, _, _, _, _, _, _, _, rfl, _⟩ := h
    rfl
  · obtain ⟨mp, fa, la, sa, n, es, f, l, a, b, rfl, hp, q⟩ := h
    refine ⟨_, (pss_cons (ps_expr (pe_fk g_check_boards hr (by rfl) (pa_cons (pv 1) (pa_cons (pv 2) pa_nil))))
      (pss_cons (ps_expr (pe_fk g_check_share hr (by rfl) (pa_cons (pv 3) pa_nil)))
      (pss_cons (ps_expr (pe_fk g_check_tries hr (by rfl) (pa_cons (pv 2) pa_nil)))
      (pss_one (ps_ret (pe_fk g_often_of hr (by rfl) (pa_cons (pv 0) (pa_cons (pv 1) (pa_cons (pv 2) (pa_cons (pv 3) pa_nil)))))))))), ?_⟩
    have h0 := hp.f0
    have h1 := hp.fl
    have h2 := hp.l3
    refine ⟨_, rfl, _, rfl, fa, la, (f.1 : Nat), f.2, (l.1 : Nat), l.2, rfl, hp.pf, hp.pl, by omega, by omega, by omega, ?_⟩
    refine ⟨_, rfl, sa, a, b, rfl, hp.s, hp.sh, ?_⟩
    refine ⟨_, rfl, la, (l.1 : Nat), l.2, rfl, hp.pl, by omega, ?_⟩
    exact ⟨_, rfl, _, rfl, _, rfl, _, rfl, mp, fa, la, sa, n, es, f, l, a, b, rfl, hp, q⟩
abbrev n_often_run : List Str := ["machine", "first", "last", "share", "most", "found"]
theorem sc_often_run : FnScope n_often_run ["machine", "first", "last", "share", "most"] (defScope s_often_run) := ⟨rfl, rfl, rfl, by decide +kernel, rfl, by decide +kernel, by decide +kernel⟩
theorem ok_often_run (D : Df K mg "often_run" s_often_run) (T : TX K mg) (g_check_boards : Fk P w K mg base 4 "check_boards" ["first", "last"] spCheckBoards) (g_check_share : Fk P w K mg base 4 "check_share" ["thing"] spCheckShare) (g_check_tries : Fk P w K mg base 1 "check_tries" ["last"] spCheckTries)
    (g_best_run : Fk P w K mg base 4 "best_run" ["machine", "first", "last", "share", "sign"] (spBest K Pt)) : Fk P w K mg base 5 "often_run" ["machine", "first", "last", "share", "most"] (spOftenRun K Pt) := by
  refine fk_of D sc_often_run (fun _ _ _ _ _ _ us hl => match us, hl with | [_, _, _, _, _], _ => rfl) (fun vs H Q E h => ?_) (fun f cdv A outer s H vs Q E hr h => ?_)
  · obtain ⟨_, _, _, _, _, _, _, _, _, _, _, rfl, _⟩ := h
    rfl
  · obtain ⟨mp, fa, la, sa, k, n, es, f, l, a, b, rfl, hp, q⟩ := h
    refine ⟨_, (pss_cons (ps_expr (pe_fk g_check_boards hr (by rfl) (pa_cons (pv 1) (pa_cons (pv 2) pa_nil))))
      (pss_cons (ps_expr (pe_fk g_check_share hr (by rfl) (pa_cons (pv 3) pa_nil)))
      (pss_cons (ps_if (pt_not (pt_val (pe_isi (C := "bool") T.isinstance T.bool (pv 4)))) (pss_one ps_never) pss_nil)
      (pss_cons (ps_expr (pe_fk g_check_tries hr (by rfl) (pa_cons (pv 2) pa_nil)))
      (pss_cons (ps_set (i := 5) sc_often_run.nd rfl (Or.inl rfl) (pe_fk g_best_run hr (by rfl) (pa_cons (pv 0) (pa_cons (pv 1) (pa_cons (pv 2) (pa_cons (pv 3) (pa_cons (pe_ifExp (pt_val (pv 4)) (pe_un un_neg pe_int) pe_int) pa_nil)))))))
      (pss_one (ps_ret (pe_ifExp (pt_cmp (pc_isN (pv 5))) pe_non (pe_ix ix_tup (pv 5) pe_int (fun _ _ => rfl)))))))))), ?_⟩
    have h0 := hp.f0
    have h1 := hp.fl
    have h2 := hp.l3
    refine ⟨_, rfl, _, rfl, fa, la, (f.1 : Nat), f.2, (l.1 : Nat), l.2, rfl, hp.pf, hp.pl, by omega, by omega, by omega, ?_⟩
    refine ⟨_, rfl, sa, a, b, rfl, hp.s, hp.sh, ?_⟩
    refine ⟨_, rfl, isi_of (.bl k) kb_bb ⟨true, rfl, iteF ?_⟩⟩
    refine ⟨_, rfl, la, (l.1 : Nat), l.2, rfl, hp.pl, by omega, ?_⟩
    refine ⟨_, rfl, _, rfl, _, rfl, _, rfl, ?_⟩
    cases k with
    | true =>
      refine ⟨_, rfl, true, rfl, iteT ⟨1, rfl, mp, fa, la, sa, n, es, f, l, a, b, -1, rfl, hp.t, hp.m, hp.M, hp.pf, hp.pl, hp.fl, hp.l3, hp.f1, hp.f2, hp.s, hp.ab, hp.bb, .inr rfl, fun H1 e1 t1 => ⟨fun hn => ?_, fun p ra c r hpt hrt hb => ?_⟩⟩⟩
      · exact ⟨_, rfl, _, rfl, ifT rfl ((q H1 e1 t1).1 hn)⟩
      · exact ⟨_, rfl, _, rfl, ifF (by intro z; cases z) ⟨_, rfl, p, _, 1, .ref ra, rfl, rfl, SqT.of hpt, atI_nat (j := 1) rfl, (q H1 e1 t1).2 ra c r hrt hb⟩⟩
    | false =>
      refine ⟨_, rfl, false, rfl, iteF ⟨mp, fa, la, sa, n, es, f, l, a, b, 1, rfl, hp.t, hp.m, hp.M, hp.pf, hp.pl, hp.fl, hp.l3, hp.f1, hp.f2, hp.s, hp.ab, hp.bb, .inl rfl, fun H1 e1 t1 => ⟨fun hn => ?_, fun p ra c r hpt hrt hb => ?_⟩⟩⟩
      · exact ⟨_, rfl, _, rfl, ifT rfl ((q H1 e1 t1).1 hn)⟩
      · exact ⟨_, rfl, _, rfl, ifF (by intro z; cases z) ⟨_, rfl, p, _, 1, .ref ra, rfl, rfl, SqT.of hpt, atI_nat (j := 1) rfl, (q H1 e1 t1).2 ra c r hrt hb⟩⟩
end
end Nl
namespace Nl
open PySem PySem.Spec PyProof.Rows L2 LamX NdefX
/-! ### the pot that numbers are drawn from -/
theorem cmul_big {i j : Int} (h1 : i.natAbs < 2 ^ 200) (h2 : j.natAbs < 2 ^ 200) : CMulW i j := wide_mul (a := 200) (b := 200) h1 h2 (by decide) (by decide) (by decide)
theorem cdiv_small {i j : Int} (h1 : 0 < j) (h2 : j ≤ 1000000) : CDivW i j := wide_div (b := 20) h1 (Nat.lt_of_le_of_lt (show j.natAbs ≤ 1000000 by omega) (by decide)) (by decide) (by decide)
theorem sq0 (n : Nat) : seqIndex? 0 (n + 1) = some 0 := by
  unfold seqIndex?
  simp
structure PotAt (H : Hp) (p ga sa : Addr) (N : Nat) : Prop where
  ex : ∃ (gs ss : List Int) (t z : Int), H p = some (.lst [.ref ga, .ref sa, .int t, .int z]) ∧ H ga = some (.lst (gs.map V.int)) ∧ H sa = some (.lst (ss.map V.int)) ∧ ga ≠ sa ∧ (∀ x ∈ gs, 0 ≤ x) ∧ gs.length ≤ 63 ∧ ss ≠ [] ∧ ss.length ≤ 64 ∧ (∀ x ∈ ss, 0 ≤ x ∧ x ≤ 1000000007) ∧ 0 ≤ t ∧ t ≤ N ∧ 0 ≤ z ∧ z ≤ 999983
/-- all but the pot's changing lists stays -/
def KP (p ga : Addr) (H H' : Hp) : Prop := ∀ b o, H b = some o → b ≠ p → b ≠ ga → H' b = some o
theorem KP.refl {p ga : Addr} (H : Hp) : KP p ga H H := fun _ _ h _ _ => h
theorem KP.of {p ga : Addr} {H H' : Hp} (s : Same H H') : KP p ga H H' := fun b o h _ _ => s b o h
theorem KP.trans {p ga : Addr} {H H1 H2 : Hp} (a : KP p ga H H1) (b : KP p ga H1 H2) : KP p ga H H2 := fun c o h n1 n2 => b c o (a c o h n1 n2) n1 n2
theorem KP.up {p ga : Addr} {H H1 : Hp} {a : Addr} {o : HO} (h : KP p ga H H1) (ha : a = p ∨ a = ga) : KP p ga H (upd H1 a o) := fun b x e n1 n2 => by
  rw [upd_ne (fun z => ha.elim (fun y => n1 (z.trans y)) fun y => n2 (z.trans y))]
  exact h b x e n1 n2
theorem PotAt.pp {H : Hp} {p ga sa : Addr} {N : Nat} (h : PotAt H p ga sa N) : (∃ xs, H p = some (.lst xs)) ∧ (∃ xs, H ga = some (.lst xs)) := by
  obtain ⟨gs, ss, t, z, h1, h2, _⟩ := h.ex
  exact ⟨⟨_, h1⟩, ⟨_, h2⟩⟩
theorem PotAt.ne {H : Hp} {p ga sa : Addr} {N : Nat} (h : PotAt H p ga sa N) {b : Addr} {o : HO} (e : H b = some o) (ho : ∀ xs, o ≠ .lst xs) : b ≠ p ∧ b ≠ ga := by
  obtain ⟨⟨x1, h1⟩, x2, h2⟩ := h.pp
  exact ⟨fun z => by rw [z, h1] at e; exact ho _ (Option.some.inj e).symm, fun z => by rw [z, h2] at e; exact ho _ (Option.some.inj e).symm⟩
theorem PotAt.nn {H : Hp} {p ga sa : Addr} {N : Nat} (h : PotAt H p ga sa N) {b : Addr} (e : H b = none) : b ≠ p ∧ b ≠ ga := by
  obtain ⟨⟨x1, h1⟩, x2, h2⟩ := h.pp
  exact ⟨fun z => (by rw [z, h1] at e; cases e), fun z => (by rw [z, h2] at e; cases e)⟩
theorem KP.non {p ga sa : Addr} {N : Nat} {H H' : Hp} (k : KP p ga H H') (h : PotAt H p ga sa N) {b : Addr} {o : HO} (e : H b = some o) (ho : ∀ xs, o ≠ .lst xs) : H' b = some o := by
  obtain ⟨h1, h2⟩ := h.ne e ho
  exact k _ _ e h1 h2
theorem KP.tup {p ga sa : Addr} {N : Nat} {H H' : Hp} (k : KP p ga H H') (h : PotAt H p ga sa N) {b : Addr} {xs : List V} (e : H b = some (.tup xs)) : H' b = some (.tup xs) := k.non h e (by intro xs z; cases z)
theorem KP.free {p ga sa : Addr} {N : Nat} {H H' : Hp} (k : KP p ga H H') (h : PotAt H p ga sa N) {b : Addr} (e : H' b = none) (hp : b ≠ p) (hg : b ≠ ga) : H b = none := by
  cases q : H b with
  | none => rfl
  | some o => rw [k b o q hp hg] at e; cases e
theorem PotAt.same {H H' : Hp} {p ga sa : Addr} {N : Nat} (h : PotAt H p ga sa N) (s : Same H H') : PotAt H' p ga sa N := by
  obtain ⟨gs, ss, t, z, h1, h2, h3, r⟩ := h.ex
  exact ⟨gs, ss, t, z, s _ _ h1, s _ _ h2, s _ _ h3, r⟩
theorem PotAt.ext {H H' : Hp} {p ga sa : Addr} {N : Nat} (h : PotAt H p ga sa N) (e : ExtN H H') : PotAt H' p ga sa N := by
  obtain ⟨gs, ss, t, z, h1, h2, h3, r⟩ := h.ex
  exact ⟨gs, ss, t, z, ext_lst e h1, ext_lst e h2, ext_lst e h3, r⟩
theorem PotAt.more {H : Hp} {p ga sa : Addr} {N M : Nat} (h : PotAt H p ga sa N) (hM : N ≤ M) : PotAt H p ga sa M := by
  obtain ⟨gs, ss, t, z, h1, h2, h3, h4, h5, h6, h7, h8, h9, h10, h11, h12⟩ := h.ex
  exact ⟨gs, ss, t, z, h1, h2, h3, h4, h5, h6, h7, h8, h9, h10, by omega, h12⟩
theorem EvsAt.kp {H H' : Hp} {a p ga sa : Addr} {N : Nat} {es : List Ev} (h : EvsAt H a es) (k : KP p ga H H') (P : PotAt H p ga sa N) : EvsAt H' a es := by
  obtain ⟨as, h1, h2, h3⟩ := h.ex
  exact ⟨as, k.tup P h1, h2, fun j e he => by
    obtain ⟨x, k1, k2⟩ := h3 j e he
    exact ⟨x, k1, k.tup P k2⟩⟩
/-! ### promises -/
def spPot (K : PySem.W.Frag) : Sp := fun vs H Q _ => ∃ (a : Addr) (ns : List Int), vs = [.ref a] ∧ SqL K H a (ns.map V.int) ∧ ns.length ≤ 63 ∧ ∀ (H' : Hp) (p ga sa : Addr), Same H H' → PotAt H' p ga sa 0 → Q (.ref p) H'
def spDraw : Sp := fun vs H Q _ => ∃ (p ga sa : Addr) (N : Nat) (m : Int), vs = [.ref p, .int m] ∧ PotAt H p ga sa N ∧ N ≤ 1000000 ∧ 1 ≤ m ∧ m ≤ 1000000 ∧ ∀ (H' : Hp) (r : Nat), KP p ga H H' → PotAt H' p ga sa (N + 1) → (r : Int) < m → Q (.int (r : Nat)) H'
def spAny : Sp := fun vs H Q _ => ∃ (p q ga sa : Addr) (N : Nat) (xs : List V), vs = [.ref p, .ref q] ∧ PotAt H p ga sa N ∧ N ≤ 1000000 ∧ xs ≠ [] ∧ xs.length ≤ 1000 ∧ (H q = some (.tup xs) ∨ (H q = some (.lst xs) ∧ q ≠ p ∧ q ≠ ga)) ∧
  ∀ (H' : Hp) (v : V), KP p ga H H' → PotAt H' p ga sa (N + 1) → v ∈ xs → Q v H'
section
variable {P : Program} {w : World} {K : PySem.W.Frag} {mg : Str → Option Value} {base : Heap}
abbrev n__law_draw : List Str := ["_law_pot_here", "_law_many", "_law_turn", "_law_number", "_law_seed"]
theorem sc__law_draw : FnScope n__law_draw ["_law_pot_here", "_law_many"] (defScope s__law_draw) := ⟨rfl, rfl, rfl, by decide +kernel, rfl, by decide +kernel, by decide +kernel⟩
theorem mod_nat {x m : Int} (h : 0 < m) : x % m = ((x % m).toNat : Int) ∧ (((x % m).toNat : Nat) : Int) < m := by
  have h1 := Int.emod_nonneg x (show m ≠ 0 by omega)
  have h2 := Int.emod_lt_of_pos x h
  omega
theorem ok__law_draw (D : Df K mg "_law_draw" s__law_draw) (T : TX K mg) : Fk P w K mg base 1 "_law_draw" ["_law_pot_here", "_law_many"] spDraw := by
  refine fk_of D sc__law_draw (fun _ _ _ _ _ _ us hl => match us, hl with | [_, _], _ => rfl) (fun vs H Q E h => ?_) (fun f cdv A outer s H vs Q E hr h => ?_)
  · obtain ⟨_, _, _, _, _, rfl, _⟩ := h
    rfl
  · obtain ⟨p, ga, sa, N, m, rfl, hP, hN, hm1, hm2, q⟩ := h
    refine ⟨_, (pss_cons (ps_set (i := 2) sc__law_draw.nd rfl (Or.inl rfl) (pe_ix ix_list (pv 0) pe_int (fun _ _ => rfl)))
      (pss_cons (ps_asg (pe_op op_add (pv 2) pe_int) (pg_sub (pv 0) pe_int set_list))
      (pss_cons (ps_if (pt_cmpR op_gt (pe_callB call_len_seq (by rfl) T.len (by decide +kernel) (pa_cons (pe_ix ix_list (pv 0) pe_int (fun _ _ => rfl)) pa_nil)) pe_int (nomark _)) (pss_cons (ps_set (i := 3) sc__law_draw.nd rfl (Or.inl rfl) (pe_ix ix_list (pe_ix ix_list (pv 0) pe_int (fun _ _ => rfl)) pe_int (fun _ _ => rfl)))
       (pss_cons (ps_asg (pe_op op_fdivW (pv 3) (pv 1)) (pg_sub (pe_ix ix_list (pv 0) pe_int (fun _ _ => rfl)) pe_int set_list))
       (pss_cons (ps_if (pt_cmpR op_lt (pv 3) (pv 1) (nomark _)) (pss_one (ps_expr (pe_bm PySem.F.plainAttrs_list PySem.F.slot_list_pop PySem.F.type_list_pop mt_popAt (pe_ix ix_list (pv 0) pe_int (fun _ _ => rfl)) (pa_cons pe_int pa_nil)))) pss_nil)
       (pss_one (ps_ret (pe_op op_mod (pe_callTy call_int1 (by rfl) T.int (by decide +kernel) (pa_cons (pv 3) pa_nil)) (pv 1))))))) pss_nil)
      (pss_cons (ps_set (i := 4) sc__law_draw.nd rfl (Or.inl rfl) (pe_op op_add (pe_op op_add (pe_op op_mulW (pe_ix ix_list (pe_ix ix_list (pv 0) pe_int (fun _ _ => rfl)) (pe_op op_mod (pe_callTy call_int1 (by rfl) T.int (by decide +kernel) (pa_cons (pv 2) pa_nil)) (pe_callB call_len_seq (by rfl) T.len (by decide +kernel) (pa_cons (pe_ix ix_list (pv 0) pe_int (fun _ _ => rfl)) pa_nil))) (fun _ _ => rfl)) pe_int) (pe_op op_mulW pe_int (pv 2))) (pe_op op_mulW (pe_ix ix_list (pv 0) pe_int (fun _ _ => rfl)) pe_int)))
      (pss_cons (ps_set (i := 3) sc__law_draw.nd rfl (Or.inl rfl) (pe_op op_mod (pe_callTy call_int1 (by rfl) T.int (by decide +kernel) (pa_cons (pe_op op_add (pe_op op_mulW (pv 4) pe_int) pe_int) pa_nil)) pe_int))
      (pss_cons (ps_set (i := 3) sc__law_draw.nd rfl (Or.inl rfl) (pe_op op_mod (pe_callTy call_int1 (by rfl) T.int (by decide +kernel) (pa_cons (pe_op op_mulW (pv 3) (pe_op op_add (pe_op op_fdivW (pv 3) pe_int) pe_int)) pa_nil)) pe_int))
      (pss_cons (ps_set (i := 3) sc__law_draw.nd rfl (Or.inl rfl) (pe_op op_mod (pe_callTy call_int1 (by rfl) T.int (by decide +kernel) (pa_cons (pe_op op_add (pe_op op_mulW (pv 3) (pe_op op_add (pe_op op_fdivW (pv 3) pe_int) pe_int)) (pv 2)) pa_nil)) pe_int))
      (pss_one (ps_ret (pe_op op_mod (pe_callTy call_int1 (by rfl) T.int (by decide +kernel) (pa_cons (pe_op op_fdivW (pv 3) pe_int) pa_nil)) (pv 1))))))))))), ?_⟩
    obtain ⟨gs, ss, t, z, h1, h2, h3, h4, h5, h6, h7, h8, h9, h10, h11, h12, h13⟩ := hP.ex
    have npg : p ≠ ga := fun e => by
      rw [e, h2] at h1
      cases gs with
      | nil => cases h1
      | cons x r => cases h1
    have nps : p ≠ sa := fun e => by
      rw [e, h3] at h1
      cases ss with
      | nil => cases h1
      | cons x r => cases h1
    refine ⟨_, rfl, p, _, 2, .int t, rfl, rfl, SqL.of h1, atI_nat (j := 2) rfl, _, rfl, t, 1, rfl, rfl, _, rfl, p, _, 2, 2, rfl, rfl, h1, by rfl, ?_⟩
    show _
    generalize hH1 : upd H p (.lst (List.set [.ref ga, .ref sa, .int t, .int z] 2 (.int (t + 1)))) = H1
    have g1 : H1 p = some (.lst [.ref ga, .ref sa, .int (t + 1), .int z]) := by rw [← hH1, upd_same]; rfl
    have g2 : H1 ga = some (.lst (gs.map V.int)) := by rw [← hH1, upd_ne npg.symm]; exact h2
    have g3 : H1 sa = some (.lst (ss.map V.int)) := by rw [← hH1, upd_ne nps.symm]; exact h3
    have k1 : KP p ga H H1 := by rw [← hH1]; exact (KP.refl H).up (.inl rfl)
    refine ⟨_, rfl, p, _, 0, .ref ga, rfl, rfl, SqL.of g1, atI_nat (j := 0) rfl, ga, _, rfl, .inl (SqL.of g2), _, 0, rfl, rfl, _, rfl, ifD (fun hl => ?_) fun hl => ?_⟩
    · obtain ⟨x, gr, rfl⟩ : ∃ x gr, gs = x :: gr := by
        cases gs with
        | nil => exact absurd hl (by decide)
        | cons a r => exact ⟨a, r, rfl⟩
      have hx0 := h5 x (List.mem_cons_self ..)
      refine ⟨_, rfl, p, _, 0, .ref ga, rfl, rfl, SqL.of g1, atI_nat (j := 0) rfl, ga, _, 0, .int x, rfl, rfl, SqL.of g2, atI_nat (j := 0) rfl, ?_⟩
      refine ⟨_, rfl, _, rfl, x, m, rfl, rfl, cdiv_small (by omega) hm2, _, rfl, p, _, 0, .ref ga, rfl, rfl, SqL.of g1, atI_nat (j := 0) rfl, ga, _, 0, 0, rfl, rfl, g2, ix0 _, ?_⟩
      generalize hH2 : upd H1 ga (.lst (List.set ((x :: gr).map V.int) 0 (.int (x / m)))) = H2
      have f2 : H2 ga = some (.lst ((x / m :: gr).map V.int)) := by rw [← hH2, upd_same]; rfl
      have f1 : H2 p = some (.lst [.ref ga, .ref sa, .int (t + 1), .int z]) := by rw [← hH2, upd_ne npg]; exact g1
      have f3 : H2 sa = some (.lst (ss.map V.int)) := by rw [← hH2, upd_ne h4.symm]; exact g3
      have k2 : KP p ga H H2 := by rw [← hH2]; exact k1.up (.inr rfl)
      have hq := mod_nat (x := x) (m := m) (by omega)
      refine ⟨_, rfl, _, rfl, x, m, rfl, rfl, _, rfl, ifD (fun hlt => ?_) fun hlt => ?_⟩
      · refine ⟨_, rfl, p, _, 0, .ref ga, rfl, rfl, SqL.of f1, atI_nat (j := 0) rfl, .inl ⟨rfl, _, SqL.of f2⟩, ga, _, 0, 0, .int (x / m), rfl, rfl, f2, by decide, by decide, sq0 _, rfl, ?_⟩
        refine ⟨_, rfl, .inl ⟨x, rfl, _, rfl, x, m, rfl, rfl, by omega, ?_⟩⟩
        show Q (.int (x % m)) _
        rw [hq.1]
        refine q _ _ (k2.up (.inr rfl)) ⟨gr, ss, t + 1, z, ?_, ?_, ?_, h4, fun y hy => h5 y (List.mem_cons.mpr (.inr hy)), by rw [List.length_cons] at h6; omega, h7, h8, h9, by omega, by omega, h12, h13⟩ hq.2
        · rw [upd_ne npg]; exact f1
        · rw [upd_same]; rfl
        · rw [upd_ne h4.symm]; exact f3
      · refine ⟨_, rfl, .inl ⟨x, rfl, _, rfl, x, m, rfl, rfl, by omega, ?_⟩⟩
        show Q (.int (x % m)) _
        rw [hq.1]
        refine q _ _ k2 ⟨x / m :: gr, ss, t + 1, z, f1, f2, f3, h4, fun y hy => ?_, h6, h7, h8, h9, by omega, by omega, h12, h13⟩ hq.2
        rcases List.mem_cons.mp hy with e | e
        · rw [e]
          exact Int.ediv_nonneg hx0 (by omega)
        · exact h5 y (List.mem_cons.mpr (.inr e))
    · have hsl : 0 < ss.length := List.length_pos_iff.mpr h7
      have hmod := mod_nat (x := t) (m := (ss.length : Int)) (by omega)
      obtain ⟨s0, hs0⟩ : ∃ s0, ss[(t % (ss.length : Int)).toNat]? = some s0 := ⟨ss[(t % (ss.length : Int)).toNat]'(by omega), List.getElem?_eq_getElem (by omega)⟩
      have hs0b := h9 s0 (List.mem_of_getElem? hs0)
      refine ⟨_, rfl, p, _, 1, .ref sa, rfl, rfl, SqL.of g1, atI_nat (j := 1) rfl, _, rfl, .inl ⟨t, rfl, _, rfl, p, _, 1, .ref sa, rfl, rfl, SqL.of g1, atI_nat (j := 1) rfl, sa, _, rfl, .inl (SqL.of g3), t, (ss.length : Int), rfl, by rw [List.length_map], by omega, sa, _, t % (ss.length : Int), .int s0, rfl, rfl, SqL.of g3, at_of hmod.1 (map_get hs0), s0, 7919, rfl, rfl, cmul_big (Nat.lt_of_le_of_lt (show s0.natAbs ≤ 1000000007 by omega) (by decide)) (by decide), ?_⟩⟩
      refine ⟨_, rfl, 104729, t, rfl, rfl, cmul_big (by decide) (Nat.lt_of_le_of_lt (show t.natAbs ≤ 1000000 by omega) (by decide)), s0 * 7919, 104729 * t, rfl, rfl, ?_⟩
      refine ⟨_, rfl, p, _, 3, .int z, rfl, rfl, SqL.of g1, atI_nat (j := 3) rfl, z, 31, rfl, rfl, cmul_big (Nat.lt_of_le_of_lt (show z.natAbs ≤ 999983 by omega) (by decide)) (by decide), s0 * 7919 + 104729 * t, z * 31, rfl, rfl, ?_⟩
      have hsd : 0 ≤ s0 * 7919 + 104729 * t + z * 31 ∧ s0 * 7919 + 104729 * t + z * 31 ≤ 100000000000000 := by omega
      obtain ⟨sd, hsdE⟩ : ∃ sd, sd = s0 * 7919 + 104729 * t + z * 31 := ⟨_, rfl⟩
      rw [← hsdE] at hsd
      refine ⟨_, rfl, sd, 48271, congrArg V.int hsdE.symm, rfl, cmul_big (Nat.lt_of_le_of_lt (show sd.natAbs ≤ 100000000000000 by omega) (by decide)) (by decide), sd * 48271, 11, rfl, rfl, .inl ⟨sd * 48271 + 11, rfl, sd * 48271 + 11, 2147483647, rfl, rfl, (show (0 : Int) < 2147483647 by decide), ?_⟩⟩
      have hn1 : 0 ≤ (sd * 48271 + 11) % 2147483647 ∧ (sd * 48271 + 11) % 2147483647 ≤ 2147483647 := by omega
      obtain ⟨n1, hn1E⟩ : ∃ n1, n1 = (sd * 48271 + 11) % 2147483647 := ⟨_, rfl⟩
      rw [← hn1E] at hn1
      have hd1 : 0 ≤ n1 / 1009 + 69621 ∧ n1 / 1009 + 69621 ≤ 10000000000 := by omega
      refine ⟨_, rfl, _, rfl, n1, 1009, congrArg V.int hn1E.symm, rfl, cdiv_small (by decide) (by decide), n1 / 1009, 69621, rfl, rfl, n1, n1 / 1009 + 69621, congrArg V.int hn1E.symm, rfl, cmul_big (Nat.lt_of_le_of_lt (show n1.natAbs ≤ 2147483647 by omega) (by decide)) (Nat.lt_of_le_of_lt (show (n1 / 1009 + 69621).natAbs ≤ 10000000000 by omega) (by decide)), .inl ⟨n1 * (n1 / 1009 + 69621), rfl, n1 * (n1 / 1009 + 69621), 2147483629, rfl, rfl, (show (0 : Int) < 2147483629 by decide), ?_⟩⟩
      obtain ⟨y2, hy2⟩ : ∃ y2, y2 = n1 * (n1 / 1009 + 69621) := ⟨_, rfl⟩
      have hn2 : 0 ≤ y2 % 2147483629 ∧ y2 % 2147483629 ≤ 2147483629 := by omega
      obtain ⟨n2, hn2E⟩ : ∃ n2, n2 = y2 % 2147483629 := ⟨_, rfl⟩
      rw [← hn2E] at hn2
      rw [hy2] at hn2E
      have hd2 : 0 ≤ n2 / 2003 + 40692 ∧ n2 / 2003 + 40692 ≤ 10000000000 := by omega
      refine ⟨_, rfl, _, rfl, n2, 2003, congrArg V.int hn2E.symm, rfl, cdiv_small (by decide) (by decide), n2 / 2003, 40692, rfl, rfl, n2, n2 / 2003 + 40692, congrArg V.int hn2E.symm, rfl, cmul_big (Nat.lt_of_le_of_lt (show n2.natAbs ≤ 2147483629 by omega) (by decide)) (Nat.lt_of_le_of_lt (show (n2 / 2003 + 40692).natAbs ≤ 10000000000 by omega) (by decide)), _, rfl, n2 * (n2 / 2003 + 40692), t, rfl, rfl, .inl ⟨n2 * (n2 / 2003 + 40692) + t, rfl, n2 * (n2 / 2003 + 40692) + t, 2147483399, rfl, rfl, (show (0 : Int) < 2147483399 by decide), ?_⟩⟩
      obtain ⟨n3, hn3E⟩ : ∃ n3, n3 = (n2 * (n2 / 2003 + 40692) + t) % 2147483399 := ⟨_, rfl⟩
      refine ⟨_, rfl, n3, 64, congrArg V.int hn3E.symm, rfl, cdiv_small (by decide) (by decide), .inl ⟨n3 / 64, rfl, _, rfl, n3 / 64, m, rfl, rfl, by omega, ?_⟩⟩
      have hq := mod_nat (x := n3 / 64) (m := m) (by omega)
      show Q (.int (n3 / 64 % m)) _
      rw [hq.1]
      exact q _ _ k1 ⟨gs, ss, t + 1, z, g1, g2, g3, h4, h5, h6, h7, h8, h9, by omega, by omega, h12, h13⟩ hq.2
abbrev n__law_any : List Str := ["_law_pot_here", "_law_items"]
theorem sc__law_any : FnScope n__law_any ["_law_pot_here", "_law_items"] (defScope s__law_any) := ⟨rfl, rfl, rfl, by decide +kernel, rfl, by decide +kernel, by decide +kernel⟩
theorem ok__law_any (D : Df K mg "_law_any" s__law_any) (T : TX K mg) (g__law_draw : Fk P w K mg base 1 "_law_draw" ["_law_pot_here", "_law_many"] spDraw) : Fk P w K mg base 2 "_law_any" ["_law_pot_here", "_law_items"] spAny := by
  refine fk_of D sc__law_any (fun _ _ _ _ _ _ us hl => match us, hl with | [_, _], _ => rfl) (fun vs H Q E h => ?_) (fun f cdv A outer s H vs Q E hr h => ?_)
  · obtain ⟨_, _, _, _, _, _, rfl, _⟩ := h
    rfl
  · obtain ⟨p, qa, ga, sa, N, xs, rfl, hP, hN, hx1, hx2, hq, q⟩ := h
    refine ⟨_, (pss_one (ps_ret (pe_ix ix_seq (pv 1) (pe_fk g__law_draw hr (by rfl) (pa_cons (pv 0) (pa_cons (pe_callB call_len_seq (by rfl) T.len (by decide +kernel) (pa_cons (pv 1) pa_nil)) pa_nil))) (fun _ _ => rfl)))), ?_⟩
    have hl : 0 < xs.length := List.length_pos_iff.mpr hx1
    have hseq : ∀ H', KP p ga H H' → (H' qa = some (.tup xs) ∨ H' qa = some (.lst xs)) := fun H' k => by
      rcases hq with hq | ⟨hq, n1, n2⟩
      · exact .inl (k.tup hP hq)
      · exact .inr (k _ _ hq n1 n2)
    refine ⟨_, rfl, _, rfl, _, rfl, qa, xs, rfl, ?_, p, ga, sa, N, (xs.length : Int), rfl, hP, hN, by omega, by omega, fun H' r k hP' hr => ?_⟩
    · rcases hq with hq | ⟨hq, _⟩
      · exact .inr (SqT.of hq)
      · exact .inl (SqL.of hq)
    · obtain ⟨v, hv⟩ : ∃ v, xs[r]? = some v := ⟨xs[r]'(by omega), List.getElem?_eq_getElem (by omega)⟩
      rcases hseq H' k with h | h
      · exact .inr (.inl ⟨qa, xs, (r : Int), v, rfl, rfl, SqT.of h, atI_nat hv, q H' v k hP' (List.mem_of_getElem? hv)⟩)
      · exact .inl ⟨qa, xs, (r : Int), v, rfl, rfl, SqL.of h, atI_nat hv, q H' v k hP' (List.mem_of_getElem? hv)⟩
end
end Nl
namespace Nl
open PySem PySem.Spec PyProof.Rows L2 LamX NdefX
structure PartsAt (H : Hp) (pa : Addr) (n : Nat) (es : List Ev) : Prop where
  ex : ∃ ea, H pa = some (.tup [.int (n : Nat), .ref ea]) ∧ EvsAt H ea es
theorem PartsAt.same {H H' : Hp} {a : Addr} {n : Nat} {es : List Ev} (h : PartsAt H a n es) (s : Same H H') : PartsAt H' a n es := by
  obtain ⟨ea, h1, h2⟩ := h.ex
  exact ⟨ea, s _ _ h1, h2.same s⟩
theorem PartsAt.ext {H H' : Hp} {a : Addr} {n : Nat} {es : List Ev} (h : PartsAt H a n es) (s : ExtN H H') : PartsAt H' a n es := by
  obtain ⟨ea, h1, h2⟩ := h.ex
  exact ⟨ea, ext_tup s h1, h2.ext s⟩
theorem PartsAt.kp {H H' : Hp} {a p ga sa : Addr} {N n : Nat} {es : List Ev} (h : PartsAt H a n es) (k : KP p ga H H') (P : PotAt H p ga sa N) : PartsAt H' a n es := by
  obtain ⟨ea, h1, h2⟩ := h.ex
  exact ⟨ea, k.tup P h1, h2.kp k P⟩
def spLawGcd : Sp := fun vs H Q _ => ∃ a b : Int, vs = [.int a, .int b] ∧ b.natAbs ≤ 1000 ∧ Q (.int (Nat.gcd a.natAbs b.natAbs : Nat)) H
def spLow : Sp := fun vs H Q _ => ∃ x t : Int, vs = [.int x, .int t] ∧ 1 ≤ t ∧ t ≤ 1000 ∧ ∀ (H' : Hp) (p : Addr), Same H H' → Tp2 H' p (x / (Nat.gcd x.natAbs t.natAbs : Nat)) (t / (Nat.gcd x.natAbs t.natAbs : Nat)) → Q (.ref p) H'
def spLawShare : Sp := fun vs H Q _ => ∃ (p ga sa : Addr) (N : Nat), vs = [.ref p, .int 4] ∧ PotAt H p ga sa N ∧ N ≤ 900000 ∧ ∀ (H' : Hp) (q : Addr) (a b : Int), KP p ga H H' → PotAt H' p ga sa (N + 2) → Tp2 H' q a b → ShOk a b → a.natAbs ≤ 1000000 → b.natAbs ≤ 1000000 → Q (.ref q) H'
def spOut : Sp := fun vs H Q _ => ∃ (pa : Addr) (n q : Nat) (es : List Ev), vs = [.ref pa, .int (q : Nat)] ∧ PartsAt H pa n es ∧ es.length ≤ 30 ∧ ∀ (H' : Hp) (L : Addr), Same H H' → H L = none → H' L = some (.lst ((outs es q).map fun j => V.int (j : Nat))) → Q (.ref L) H'
theorem div_small {x : Int} {g : Nat} (hg : 0 < g) : (x / (g : Int)).natAbs ≤ x.natAbs := by
  have h : (x / (g : Int)).natAbs ≤ x.natAbs := by
    rcases Int.lt_or_le x 0 with h | h
    · have h1 : x ≤ x / (g : Int) := by
        have e := Int.mul_ediv_add_emod x g
        have h2 := Int.emod_nonneg x (show (g : Int) ≠ 0 by omega)
        have h3 := Int.emod_lt_of_pos x (show 0 < (g : Int) by omega)
        have h4 : x / (g : Int) < 0 := Int.ediv_neg_of_neg_of_pos h (by omega)
        have h5 : (g : Int) * (x / g) ≤ 1 * (x / g) := Int.mul_le_mul_of_nonpos_right (by omega) (by omega)
        rw [Int.le_iff_lt_add_one]
        rcases Int.lt_or_le (x / g) x with q | q
        · exfalso
          have h6 : (g : Int) * (x / g) ≤ g * (x - 1) := Int.mul_le_mul_of_nonneg_left (by omega) (by omega)
          have h7 : (g : Int) * (x - 1) ≤ 1 * (x - 1) := Int.mul_le_mul_of_nonpos_right (by omega) (by omega)
          have h8 : (g : Int) * x ≤ 1 * x := Int.mul_le_mul_of_nonpos_right (by omega) (by omega)
          rw [Int.mul_sub, Int.mul_one] at h6
          omega
        · omega
      have h2 : x / (g : Int) ≤ 0 := Int.le_of_lt (Int.ediv_neg_of_neg_of_pos h (by omega))
      omega
    · have h1 : x / (g : Int) ≤ x := Int.ediv_le_self _ h
      have h2 : 0 ≤ x / (g : Int) := Int.ediv_nonneg h (by omega)
      omega
  exact h
section
variable {P : Program} {w : World} {K : PySem.W.Frag} {mg : Str → Option Value} {base : Heap}
abbrev n__law_gcd : List Str := ["_law_one", "_law_other", "_law_turn"]
theorem sc__law_gcd : FnScope n__law_gcd ["_law_one", "_law_other"] (defScope s__law_gcd) := ⟨rfl, rfl, rfl, by decide +kernel, rfl, by decide +kernel, by decide +kernel⟩
theorem ok__law_gcd (D : Df K mg "_law_gcd" s__law_gcd) (T : TX K mg) : Fk P w K mg base 1 "_law_gcd" ["_law_one", "_law_other"] spLawGcd := by
  refine fk_of D sc__law_gcd (fun _ _ _ _ _ _ us hl => match us, hl with | [_, _], _ => rfl) (fun vs H Q E h => ?_) (fun f cdv A outer s H vs Q E hr h => ?_)
  · obtain ⟨_, _, rfl, _⟩ := h
    rfl
  · obtain ⟨a, b, rfl, hb, q⟩ := h
    refine ⟨_, (pss_cons (ps_par (i := 0) (j := 1) (by rfl) sc__law_gcd.nd rfl rfl (by decide) rfl rfl (pa_cons (pe_callB call_abs (by rfl) T.abs (by decide +kernel) (pa_cons (pv 0) pa_nil)) (pa_cons (pe_callB call_abs (by rfl) T.abs (by decide +kernel) (pa_cons (pv 1) pa_nil)) pa_nil)) (by rfl))
      (pss_cons (ps_for PassesOwn.never (by rfl) (pi_range1 (by rfl) T.range (pa_cons pe_int pa_nil)) (pg_name (i := 2) sc__law_gcd.nd rfl (Or.inl rfl))
       (pss_cons (ps_if (pt_cmpR op_eqI (pv 1) pe_int (nomark _)) (pss_one ps_break) pss_nil)
       (pss_one (ps_par (i := 0) (j := 1) (by rfl) sc__law_gcd.nd rfl rfl (by decide) rfl rfl (pa_cons (pv 1) (pa_cons (pe_op op_mod (pv 0) (pv 1)) pa_nil)) (by rfl)))))
      (pss_one (ps_ret (pv 0))))), ?_⟩
    refine ⟨_, rfl, a, rfl, _, rfl, b, rfl, _, _, rfl, ?_⟩
    rw [abs_nat, abs_nat]
    refine ⟨400, rfl, by decide, by decide, for_range (lo := 0) (n := (400 : Int).toNat) (fun i σ H' => ∃ (x y : Nat) (v2 : Option V), σ = [some (.int (x : Nat)), some (.int (y : Nat)), v2] ∧ Eu (Nat.gcd a.natAbs b.natAbs) i x y ∧ H' = H) ⟨a.natAbs, b.natAbs, none, rfl, ⟨rfl, fun _ => hb, fun h => absurd h (by decide)⟩, rfl⟩ ?_ ?_⟩
    · rintro i σ H' hi ⟨x, y, v2, rfl, hE, rfl⟩
      refine ⟨_, rfl, (y : Int), 0, rfl, rfl, _, rfl, ifD (fun hy => ?_) fun hy => ?_⟩
      · have e0 : y = 0 := by omega
        subst e0
        have hg := hE.1
        rw [Nat.gcd_zero_right] at hg
        refine ⟨_, rfl, ?_⟩
        rw [← hg] at q
        exact q
      · refine ⟨_, rfl, _, rfl, _, rfl, (x : Int), (y : Int), rfl, rfl, (show (0 : Int) < y by omega), _, _, rfl, y, x % y, some (.int (0 + (i : Int))), ?_, hE.next (by omega), rfl⟩
        show [_, some (V.int ((x : Int) % (y : Int))), _] = _
        rw [Int.natCast_emod]
    · rintro σ H' ⟨x, y, v2, rfl, hE, rfl⟩
      have e0 : y = 0 := Eu.done hE
      subst e0
      have hg := hE.1
      rw [Nat.gcd_zero_right] at hg
      refine ⟨_, rfl, ?_⟩
      rw [← hg] at q
      exact q
abbrev n__law_low : List Str := ["_law_top", "_law_bottom", "_law_part"]
theorem sc__law_low : FnScope n__law_low ["_law_top", "_law_bottom"] (defScope s__law_low) := ⟨rfl, rfl, rfl, by decide +kernel, rfl, by decide +kernel, by decide +kernel⟩
theorem ok__law_low (D : Df K mg "_law_low" s__law_low) (T : TX K mg) (g__law_gcd : Fk P w K mg base 1 "_law_gcd" ["_law_one", "_law_other"] spLawGcd) : Fk P w K mg base 2 "_law_low" ["_law_top", "_law_bottom"] spLow := by
  refine fk_of D sc__law_low (fun _ _ _ _ _ _ us hl => match us, hl with | [_, _], _ => rfl) (fun vs H Q E h => ?_) (fun f cdv A outer s H vs Q E hr h => ?_)
  · obtain ⟨_, _, rfl, _⟩ := h
    rfl
  · obtain ⟨x, t, rfl, h1, h2, q⟩ := h
    refine ⟨_, (pss_cons (ps_set (i := 2) sc__law_low.nd rfl (Or.inl rfl) (pe_fk g__law_gcd hr (by rfl) (pa_cons (pv 0) (pa_cons (pv 1) pa_nil))))
      (pss_one (ps_ret (pe_tup (pa_cons (pe_op op_fdivW (pv 0) (pv 2)) (pa_cons (pe_op op_fdivW (pv 1) (pv 2)) pa_nil)))))), ?_⟩
    have g0 : 0 < Nat.gcd x.natAbs t.natAbs := Nat.gcd_pos_of_pos_right _ (by omega)
    have g1 : Nat.gcd x.natAbs t.natAbs ≤ t.natAbs := Nat.gcd_le_right _ (by omega)
    refine ⟨_, rfl, _, rfl, x, t, rfl, by omega, ?_⟩
    refine ⟨_, rfl, _, rfl, x, _, rfl, rfl, cdiv_small (by omega) (by omega), _, rfl, _, rfl, t, _, rfl, rfl, cdiv_small (by omega) (by omega), le_line (n := 2) (by decide), fun p np => ?_⟩
    exact q _ p (same_new np) upd_same
abbrev n__law_share : List Str := ["_law_pot_here", "_law_most", "_law_bottom"]
theorem sc__law_share : FnScope n__law_share ["_law_pot_here", "_law_most"] (defScope s__law_share) := ⟨rfl, rfl, rfl, by decide +kernel, rfl, by decide +kernel, by decide +kernel⟩
theorem ok__law_share (D : Df K mg "_law_share" s__law_share) (T : TX K mg) (g__law_draw : Fk P w K mg base 1 "_law_draw" ["_law_pot_here", "_law_many"] spDraw) (g__law_low : Fk P w K mg base 2 "_law_low" ["_law_top", "_law_bottom"] spLow) : Fk P w K mg base 3 "_law_share" ["_law_pot_here", "_law_most"] spLawShare := by
  refine fk_of D sc__law_share (fun _ _ _ _ _ _ us hl => match us, hl with | [_, _], _ => rfl) (fun vs H Q E h => ?_) (fun f cdv A outer s H vs Q E hr h => ?_)
  · obtain ⟨_, _, _, _, rfl, _⟩ := h
    rfl
  · obtain ⟨p, ga, sa, N, rfl, hP, hN, q⟩ := h
    refine ⟨_, (pss_cons (ps_set (i := 2) sc__law_share.nd rfl (Or.inl rfl) (pe_op op_add pe_int (pe_fk g__law_draw hr (by rfl) (pa_cons (pv 0) (pa_cons (pv 1) pa_nil)))))
      (pss_one (ps_ret (pe_fk g__law_low hr (by rfl) (pa_cons (pe_op op_sub (pe_fk g__law_draw hr (by rfl) (pa_cons (pv 0) (pa_cons (pe_op op_add (pe_op op_mulW pe_int (pv 2)) pe_int) pa_nil))) (pv 2)) (pa_cons (pv 2) pa_nil)))))), ?_⟩
    refine ⟨_, rfl, _, rfl, p, ga, sa, N, 4, rfl, hP, by omega, by decide, by decide, fun H1 r1 k1 P1 hr1 => ?_⟩
    refine ⟨1, (r1 : Int), rfl, rfl, ?_⟩
    refine ⟨_, rfl, _, rfl, 3, 1 + (r1 : Int), rfl, rfl, cmul_small (by decide) (by omega), 3 * (1 + (r1 : Int)), 1, rfl, rfl, p, ga, sa, N + 1, 3 * (1 + (r1 : Int)) + 1, rfl, P1, by omega, by omega, by omega, fun H2 r2 k2 P2 hr2 => ?_⟩
    refine ⟨_, rfl, (r2 : Int), 1 + (r1 : Int), rfl, rfl, _, rfl, (r2 : Int) - (1 + (r1 : Int)), 1 + (r1 : Int), rfl, by omega, by omega, fun H3 pz s3 hz => ?_⟩
    obtain ⟨g0, hs, _, _⟩ := low_ok (x := (r2 : Int) - (1 + (r1 : Int))) (t := 1 + (r1 : Int)) (by omega)
    refine q H3 pz _ _ ((k1.trans k2).trans (.of s3)) (P2.same s3) hz hs ?_ ?_
    · have := div_small (x := (r2 : Int) - (1 + (r1 : Int))) g0
      omega
    · have := div_small (x := 1 + (r1 : Int)) g0
      omega
abbrev n__law_out : List Str := ["_law_parts_here", "_law_standing", "_law_number"]
theorem sc__law_out : FnScope n__law_out ["_law_parts_here", "_law_standing"] (defScope s__law_out) := ⟨rfl, rfl, rfl, by decide +kernel, rfl, by decide +kernel, by decide +kernel⟩
theorem filt_snoc {α : Type} (f : Nat → Bool) (i : Nat) : (List.range (i + 1)).filter f = (List.range i).filter f ++ (if f i = true then [i] else []) := by
  rw [List.range_succ, List.filter_append]
  congr 1
  rw [List.filter_cons, List.filter_nil]
theorem ok__law_out (D : Df K mg "_law_out" s__law_out) (T : TX K mg) : Fk P w K mg base 1 "_law_out" ["_law_parts_here", "_law_standing"] spOut := by
  refine fk_of D sc__law_out (fun _ _ _ _ _ _ us hl => match us, hl with | [_, _], _ => rfl) (fun vs H Q E h => ?_) (fun f cdv A outer s H vs Q E hr h => ?_)
  · obtain ⟨_, _, _, _, rfl, _⟩ := h
    rfl
  · obtain ⟨pa, n, qq, es, rfl, hpa, hel, q⟩ := h
    refine ⟨_, (pss_one (ps_ret (pe_lc (own := [("_law_number", 2)]) (g := gName 2) (by rfl) sc__law_out.nd (pi_range1 (by rfl) T.range (pa_cons (pe_callB call_len_seq (by rfl) T.len (by decide +kernel) (pa_cons (pe_ix ix_tup (pv 0) pe_int (fun _ _ => rfl)) pa_nil)) pa_nil)) (blkOk_by (own := [("_law_number", 2)]) (N := n__law_out) (sc := defScope s__law_out) (by decide +kernel)) (fun _ _ _ _ _ => (pg_name (i := 2) sc__law_out.nd rfl (Or.inl rfl))) (fun _ _ _ _ _ => (pts_one (pt_cmpR op_eqI (pe_ix (ix_tupK (K := K) rfl) (pe_ix (ix_tupK (K := K) rfl) (pe_ix (ix_tupK (K := K) rfl) (pv 0) pe_int (fun _ _ => rfl)) (pv 2) (fun _ _ => rfl)) pe_int (fun _ _ => rfl)) (pv 1) (nomark _)))) (fun _ _ _ _ _ => (pv 2))))), ?_⟩
    obtain ⟨ea, h1, h2⟩ := hpa.ex
    obtain ⟨as, a1, a2, a3⟩ := h2.ex
    refine ⟨_, rfl, pa, _, 1, .ref ea, rfl, rfl, SqT.of h1, atI_nat (j := 1) rfl, ea, _, rfl, .inr (SqT.of a1), (es.length : Int), by rw [List.length_map, a2], by omega, by omega, fun Dl nD => lc_range (lo := 0) (n := (es.length : Int).toNat) (fun i H' => Same H H' ∧ H' Dl = some (.lst (((List.range i).filter fun j => isOut qq es[j]?).map fun j => V.int (j : Nat))))
      ⟨same_new nD, upd_same⟩ ?_ ?_⟩
    · rintro i H' hi ⟨s1, hD⟩
      have hie : i < es.length := by omega
      obtain ⟨e, he⟩ : ∃ e, es[i]? = some e := ⟨es[i], List.getElem?_eq_getElem hie⟩
      obtain ⟨x, x1, x2⟩ := a3 i e he
      have x2 : H' x = some (.tup [.int (e.b : Nat), .int (e.a : Nat), .int (e.t : Nat), .int e.p]) := s1 _ _ x2
      have ho : isOut qq es[i]? = decide (e.b = qq) := by rw [he]; rfl
      refine ⟨rfl, _, rfl, pa, _, 1, .ref ea, rfl, rfl, SqT.of (s1 _ _ h1), atI_nat (j := 1) rfl, _, rfl, ea, _, (0 : Int) + (i : Int), .ref x, rfl, rfl, SqT.of (s1 _ _ a1), at_of (Int.zero_add _) (map_get x1), x, _, 0, .int (e.b : Nat), rfl, rfl, SqT.of x2, atI_nat (j := 0) rfl, _, rfl, (e.b : Int), (qq : Int), rfl, rfl, _, rfl, ifD (fun hq => ?_) fun hq => ?_⟩
      · refine ⟨_, rfl, _, hD, ?_, fun b o eb => ?_, ?_⟩
        · rw [List.length_map]
          have := List.length_filter_le (fun j => isOut qq es[j]?) (List.range i)
          rw [List.length_range] at this
          exact lt_line (by omega)
        · rw [upd_ne (ne_of_none eb nD)]
          exact s1 _ _ eb
        · rw [upd_same, filt_snoc (α := Nat), ho, if_pos (decide_eq_true (by omega)), List.map_append, Int.zero_add]
          rfl
      · refine ⟨s1, ?_⟩
        rw [filt_snoc (α := Nat), ho, if_neg (fun z => hq (by have := of_decide_eq_true z; omega)), List.append_nil]
        exact hD
    · rintro H' ⟨s1, hD⟩
      exact q H' Dl s1 nD hD
end
end Nl
namespace Nl
open PySem PySem.Spec PyProof.Rows L2 LamX NdefX
theorem PotAt.kp {H H' : Hp} {p ga sa : Addr} {N : Nat} (h : PotAt H' p ga sa N) : PotAt H' p ga sa N := h
structure EvL (H : Hp) (as : List Addr) (es : List Ev) : Prop where
  len : as.length = es.length
  at_ : ∀ (j : Nat) (e : Ev), es[j]? = some e → ∃ x, as[j]? = some x ∧ EvT H x e
theorem EvL.tk {H H' : Hp} {as : List Addr} {es : List Ev} (h : EvL H as es) (k : TupK H H') : EvL H' as es := ⟨h.len, fun j e he => by
  obtain ⟨x, h1, h2⟩ := h.at_ j e he
  exact ⟨x, h1, k _ _ h2⟩⟩
theorem EvL.push {H : Hp} {as : List Addr} {es : List Ev} (h : EvL H as es) {k : Addr} {e : Ev} (hk : EvT H k e) : EvL H (as ++ [k]) (es ++ [e]) := by
  refine ⟨by rw [List.length_append, List.length_append, h.len]; rfl, fun j v hv => ?_⟩
  rcases Nat.lt_or_ge j es.length with hi | hi
  · rw [List.getElem?_append_left hi] at hv
    obtain ⟨z, k1, k2⟩ := h.at_ j v hv
    exact ⟨z, by rw [List.getElem?_append_left (by rw [h.len]; exact hi)]; exact k1, k2⟩
  · rw [List.getElem?_append_right hi] at hv
    have e0 : j - es.length = 0 := by
      have := (List.getElem?_eq_some_iff.mp hv).1
      rw [List.length_singleton] at this
      omega
    rw [e0] at hv
    cases hv
    exact ⟨k, by rw [List.getElem?_append_right (by rw [h.len]; omega), h.len, e0]; rfl, hk⟩
theorem KP.tk {p ga sa : Addr} {N : Nat} {H H' : Hp} (k : KP p ga H H') (h : PotAt H p ga sa N) : TupK H H' := fun b xs e => k.tup h e
/-- small parts, as they are drawn -/
def PEv (n : Nat) (e : Ev) : Prop := e.b < n ∧ e.a < n ∧ 1 ≤ e.t ∧ e.t ≤ 3 ∧ -4 ≤ e.p ∧ e.p ≤ 4
structure POk (n : Nat) (es : List Ev) : Prop where
  n1 : 1 ≤ n
  n4 : n ≤ 4
  l1 : 1 ≤ es.length
  l6 : es.length ≤ 6
  ev : ∀ e ∈ es, PEv n e
def spParts : Sp := fun vs H Q _ => ∃ (p ga sa : Addr) (N : Nat), vs = [.ref p, .int 4, .int 6] ∧ PotAt H p ga sa N ∧ N ≤ 900000 ∧ ∀ (H' : Hp) (pa : Addr) (n : Nat) (es : List Ev), KP p ga H H' → PotAt H' p ga sa (N + 33) → PartsAt H' pa n es → POk n es → Q (.ref pa) H'
def spWalk : Sp := fun vs H Q _ => ∃ (p ga sa pa : Addr) (N m n : Nat) (es : List Ev), vs = [.ref p, .ref pa, .int (m : Nat)] ∧ PotAt H p ga sa N ∧ N ≤ 900000 ∧ PartsAt H pa n es ∧ MOk n es ∧ m ≤ 1000 ∧
  ∀ (H' : Hp) (ra : Addr) (l : List Nat) (t : Nat) (s : Sta) (c : Int), KP p ga H H' → PotAt H' p ga sa (N + m) → RunT H' ra l → Way es g0 0 (0, 0) t s l c → l.length ≤ m → Q (.ref ra) H'
theorem cut_all {ns : List Int} (h : ns.length ≤ 63) : cutV (ns.map V.int) none (some 63) = ns.map V.int := by
  have e : HT.sIx (ns.map V.int).length (ns.map V.int).length (some ((63 : Nat) : Int)) = ns.length := by
    rw [HT.sIx_nat, List.length_map]
    omega
  show ((ns.map V.int).drop (HT.sIx (ns.map V.int).length 0 none)).take (HT.sIx (ns.map V.int).length (ns.map V.int).length (some ((63 : Nat) : Int)) - HT.sIx (ns.map V.int).length 0 none) = _
  rw [e, HT.sIx_none, List.drop_zero, Nat.sub_zero, List.take_of_length_le]
  rw [List.length_map]
  exact Nat.le_refl _
section
variable {P : Program} {w : World} {K : PySem.W.Frag} {mg : Str → Option Value} {base : Heap}
abbrev n__law_pot : List Str := ["_law_script", "_law_cells", "_law_greats", "_law_smalls", "_law_item"]
theorem sc__law_pot : FnScope n__law_pot ["_law_script"] (defScope s__law_pot) := ⟨rfl, rfl, rfl, by decide +kernel, rfl, by decide +kernel, by decide +kernel⟩
theorem cpow : CPow 10 18 := ⟨by decide, by decide, by decide⟩
theorem ok__law_pot (D : Df K mg "_law_pot" s__law_pot) (T : TX K mg) : Fk P w K mg base 1 "_law_pot" ["_law_script"] (spPot K) := by
  refine fk_of D sc__law_pot (fun _ _ _ _ _ _ us hl => match us, hl with | [_], _ => rfl) (fun vs H Q E h => ?_) (fun f cdv A outer s H vs Q E hr h => ?_)
  · obtain ⟨_, _, rfl, _⟩ := h
    rfl
  · obtain ⟨a, ns, rfl, ha, hn, q⟩ := h
    refine ⟨_, (pss_cons (ps_setLc (i := 1) (own := [("_law_item", 4)]) (g := gName 4) (tt := tYes) (by rfl) sc__law_pot.nd rfl rfl (sw_true rfl rfl rfl (by decide +kernel)) (pi_list (pe_slice sl_list (pv 0) po_none (po_some pe_int))) (blkOk_by (own := [("_law_item", 4)]) (N := n__law_pot) (sc := defScope s__law_pot) (by decide +kernel)) (fun _ _ _ _ _ => (pg_name (i := 4) sc__law_pot.nd rfl (Or.inl rfl))) (fun _ _ _ _ _ => pts_nil) (fun _ _ _ _ _ => (pe_callTy call_int1 (by rfl) T.int (by decide +kernel) (pa_cons (pv 4) pa_nil))))
      (pss_cons (ps_setLc (i := 2) (own := [("_law_item", 4)]) (g := gName 4) (by rfl) sc__law_pot.nd rfl rfl (sw_true rfl rfl rfl (by decide +kernel)) (pi_list (pv 1)) (blkOk_by (own := [("_law_item", 4)]) (N := n__law_pot) (sc := defScope s__law_pot) (by decide +kernel)) (fun _ _ _ _ _ => (pg_name (i := 4) sc__law_pot.nd rfl (Or.inl rfl))) (fun _ _ _ _ _ => (pts_one (pt_cmpR op_ge (pe_callB call_abs (by rfl) T.abs (by decide +kernel) (pa_cons (pv 4) pa_nil)) (pe_op op_pow pe_int pe_int) (nomark _)))) (fun _ _ _ _ _ => (pe_callB call_abs (by rfl) T.abs (by decide +kernel) (pa_cons (pv 4) pa_nil))))
      (pss_cons (ps_set (i := 3) sc__law_pot.nd rfl (Or.inl rfl) (pe_op op_cat (pe_lc (own := [("_law_item", 4)]) (g := gName 4) (by rfl) sc__law_pot.nd (pi_list (pv 1)) (blkOk_by (own := [("_law_item", 4)]) (N := n__law_pot) (sc := defScope s__law_pot) (by decide +kernel)) (fun _ _ _ _ _ => (pg_name (i := 4) sc__law_pot.nd rfl (Or.inl rfl))) (fun _ _ _ _ _ => (pts_one (pt_cmpR op_lt (pe_callB call_abs (by rfl) T.abs (by decide +kernel) (pa_cons (pv 4) pa_nil)) (pe_op op_pow pe_int pe_int) (nomark _)))) (fun _ _ _ _ _ => (pe_op op_mod (pe_callTy call_int1 (by rfl) T.int (by decide +kernel) (pa_cons (pv 4) pa_nil)) pe_int))) (pe_lst (pa_cons (pe_op op_add (pe_callB call_len_seq (by rfl) T.len (by decide +kernel) (pa_cons (pv 1) pa_nil)) pe_int) pa_nil))))
      (pss_one (ps_ret (pe_lst (pa_cons (pv 2) (pa_cons (pv 3) (pa_cons pe_int (pa_cons (pe_op op_mod (pe_callTy call_int1 (by rfl) T.int (by decide +kernel) (pa_cons (pe_callB (cr_sum (by rfl)) (by rfl) T.sum (by decide +kernel) (pa_cons (pv 3) pa_nil)) pa_nil)) pe_int) pa_nil)))))))))), ?_⟩
    refine ⟨_, rfl, 63, rfl, a, _, rfl, ha, fun ca nca => ?_⟩
    rw [cut_all hn]
    have s0 : Same H (upd H ca (.lst (ns.map V.int))) := same_new nca
    generalize hH0 : upd H ca (.lst (ns.map V.int)) = H0 at s0
    have hca : H0 ca = some (.lst (ns.map V.int)) := by rw [← hH0, upd_same]
    clear hH0
    refine ⟨ca, rfl, ⟨_, SqL.of hca⟩, fun Dc nDc => lc_it walk_list (fun i H' => Same H0 H' ∧ H' Dc = some (.lst ((ns.take i).map V.int))) ⟨same_new nDc, upd_same⟩ (fun i H' _ ⟨z, _⟩ => SqL.of (z _ _ hca)) ?_ ?_⟩
    · rintro i x H'' H' hi ⟨z, hD⟩ ⟨rfl, hx⟩
      obtain ⟨v, hv, rfl⟩ := of_map_get hx
      refine ⟨rfl, _, rfl, .inl ⟨v, rfl, _, hD, ?_, fun b o e => ?_, ?_⟩⟩
      · rw [List.length_map, List.length_take]
        exact lt_line (by omega)
      · rw [upd_ne (ne_of_none e nDc)]
        exact z _ _ e
      · rw [upd_same, take_snoc hv, List.map_append]
        rfl
    rintro H1 ⟨z1, hDc⟩
    rw [List.length_map, List.take_length] at hDc
    have s1 := s0.trans z1
    refine ⟨_, rfl, Dc, rfl, ⟨_, SqL.of hDc⟩, fun Dg nDg => lc_it walk_list (fun i H' => Same H1 H' ∧ ∃ gs : List Int, H' Dg = some (.lst (gs.map V.int)) ∧ gs.length ≤ i ∧ ∀ x ∈ gs, 0 ≤ x) ⟨same_new nDg, [], upd_same, Nat.le_refl _, fun x h => by cases h⟩ (fun i H' _ ⟨z, _⟩ => SqL.of (z _ _ hDc)) ?_ ?_⟩
    · rintro i x H'' H' hi ⟨z, gs, hD, hl, hg⟩ ⟨rfl, hx⟩
      obtain ⟨v, hv, rfl⟩ := of_map_get hx
      rw [List.length_map] at hi
      refine ⟨rfl, _, rfl, v, rfl, 10, 18, rfl, rfl, cpow, _, _, rfl, rfl, _, rfl, ifD (fun hc => ?_) fun hc => ⟨z, gs, hD, by omega, hg⟩⟩
      refine ⟨_, rfl, v, rfl, _, hD, ?_, fun b o e => ?_, gs ++ [if v < 0 then -v else v], ?_, ?_, ?_⟩
      · rw [List.length_map]
        exact lt_line (by omega)
      · rw [upd_ne (ne_of_none e nDg)]
        exact z _ _ e
      · rw [upd_same, List.map_append]
        rfl
      · rw [List.length_append, List.length_singleton]
        omega
      · intro y hy
        rcases List.mem_append.mp hy with h | h
        · exact hg y h
        · rw [List.mem_singleton.mp h, abs_nat]
          omega
    rintro H2 ⟨z2, gs, hDg, hgl, hg⟩
    rw [List.length_map] at hgl
    have s2 := s1.trans z2
    refine ⟨_, rfl, Dc, rfl, ⟨_, SqL.of (z2 _ _ hDc)⟩, fun Ds nDs => lc_it walk_list (fun i H' => Same H2 H' ∧ ∃ ss : List Int, H' Ds = some (.lst (ss.map V.int)) ∧ ss.length ≤ i ∧ ∀ x ∈ ss, 0 ≤ x ∧ x ≤ 1000000007) ⟨same_new nDs, [], upd_same, Nat.le_refl _, fun x h => by cases h⟩ (fun i H' _ ⟨z, _⟩ => SqL.of (z _ _ (z2 _ _ hDc))) ?_ ?_⟩
    · rintro i x H'' H' hi ⟨z, ss, hD, hl, hg⟩ ⟨rfl, hx⟩
      obtain ⟨v, hv, rfl⟩ := of_map_get hx
      rw [List.length_map] at hi
      refine ⟨rfl, _, rfl, v, rfl, 10, 18, rfl, rfl, cpow, _, _, rfl, rfl, _, rfl, ifD (fun hc => ?_) fun hc => ⟨z, ss, hD, by omega, hg⟩⟩
      refine ⟨_, rfl, .inl ⟨v, rfl, v, 1000000007, rfl, rfl, (show (0 : Int) < 1000000007 by decide), _, hD, ?_, fun b o e => ?_, ss ++ [v % 1000000007], ?_, ?_, ?_⟩⟩
      · rw [List.length_map]
        exact lt_line (by omega)
      · rw [upd_ne (ne_of_none e nDs)]
        exact z _ _ e
      · rw [upd_same, List.map_append]
        rfl
      · rw [List.length_append, List.length_singleton]
        omega
      · intro y hy
        rcases List.mem_append.mp hy with h | h
        · exact hg y h
        · rw [List.mem_singleton.mp h]
          omega
    rintro H3 ⟨z3, ss, hDs, hsl, hs⟩
    rw [List.length_map] at hsl
    have s3 := s2.trans z3
    have hDc3 := z3 _ _ (z2 _ _ hDc)
    have hDg3 := z3 _ _ hDg
    refine ⟨_, rfl, Dc, _, rfl, .inl (SqL.of hDc3), (ns.length : Int), 1, by rw [List.length_map], rfl, le_line (n := 1) (by decide), fun one none1 => ?_⟩
    have s4 : Same H3 (upd H3 one (.lst [.int ((ns.length : Int) + 1)])) := same_new none1
    refine ⟨Ds, one, _, _, rfl, rfl, s4 _ _ hDs, upd_same, le_line (by rw [List.length_map]; show _ + 1 ≤ _; omega), fun sa nsa => ?_⟩
    have s5 : Same H3 (upd (upd H3 one (.lst [.int ((ns.length : Int) + 1)])) sa (.lst (ss.map V.int ++ [.int ((ns.length : Int) + 1)]))) := s4.trans (same_new nsa)
    have hsa : upd (upd H3 one (.lst [.int ((ns.length : Int) + 1)])) sa (.lst (ss.map V.int ++ [.int ((ns.length : Int) + 1)])) sa = some (.lst ((ss ++ [(ns.length : Int) + 1]).map V.int)) := by rw [upd_same, List.map_append]; rfl
    have ngs : Dg ≠ sa := ne_of_none (s4 _ _ hDg3) nsa
    generalize upd (upd H3 one (.lst [.int ((ns.length : Int) + 1)])) sa (.lst (ss.map V.int ++ [.int ((ns.length : Int) + 1)])) = H5 at s5 hsa
    refine ⟨_, rfl, _, rfl, _, rfl, sa, _, rfl, SqL.of hsa, .inl ⟨_, rfl, _, 999983, rfl, rfl, (show (0 : Int) < 999983 by decide), le_line (n := 4) (by decide), fun pp npp => ?_⟩⟩
    refine q _ pp Dg sa ((s3.trans s5).trans (same_new npp)) ⟨gs, _, 0, _, upd_same, same_new npp _ _ (s5 _ _ hDg3), same_new npp _ _ hsa, ngs, hg, by omega, by simp, by rw [List.length_append, List.length_singleton]; omega, ?_, by decide, by decide, ?_, ?_⟩
    · intro y hy
      rcases List.mem_append.mp hy with h | h
      · exact hs y h
      · rw [List.mem_singleton.mp h]
        omega
    · exact Int.emod_nonneg _ (by decide)
    · have := Int.emod_lt_of_pos ((ss ++ [(ns.length : Int) + 1]).sum) (show (0 : Int) < 999983 by decide)
      omega
abbrev n__law_parts : List Str := ["_law_pot_here", "_law_most_standings", "_law_most_events", "_law_standings", "_law_kind", "_law_events", "_law_at", "_law_before", "_law_after", "_law_tries", "_law_points"]
theorem sc__law_parts : FnScope n__law_parts ["_law_pot_here", "_law_most_standings", "_law_most_events"] (defScope s__law_parts) := ⟨rfl, rfl, rfl, by decide +kernel, rfl, by decide +kernel, by decide +kernel⟩
theorem ok__law_parts (D : Df K mg "_law_parts" s__law_parts) (T : TX K mg) (g__law_draw : Fk P w K mg base 1 "_law_draw" ["_law_pot_here", "_law_many"] spDraw) : Fk P w K mg base 2 "_law_parts" ["_law_pot_here", "_law_most_standings", "_law_most_events"] spParts := by
  refine fk_of D sc__law_parts (fun _ _ _ _ _ _ us hl => match us, hl with | [_, _, _], _ => rfl) (fun vs H Q E h => ?_) (fun f cdv A outer s H vs Q E hr h => ?_)
  · obtain ⟨_, _, _, _, rfl, _⟩ := h
    rfl
  · obtain ⟨p, ga, sa, N, rfl, hP, hN, q⟩ := h
    refine ⟨_, (pss_cons (ps_set (i := 3) sc__law_parts.nd rfl (Or.inl rfl) (pe_op op_add pe_int (pe_fk g__law_draw hr (by rfl) (pa_cons (pv 0) (pa_cons (pv 1) pa_nil)))))
      (pss_cons (ps_set (i := 4) sc__law_parts.nd rfl (Or.inl rfl) (pe_fk g__law_draw hr (by rfl) (pa_cons (pv 0) (pa_cons pe_int pa_nil))))
      (pss_cons (ps_set (i := 5) sc__law_parts.nd rfl (Or.inl rfl) (pe_lst pa_nil))
      (pss_cons (ps_for PassesOwn.never (by rfl) (pi_range1 (by rfl) T.range (pa_cons (pe_op op_add pe_int (pe_fk g__law_draw hr (by rfl) (pa_cons (pv 0) (pa_cons (pv 2) pa_nil)))) pa_nil)) (pg_name (i := 6) sc__law_parts.nd rfl (Or.inl rfl))
       (pss_cons (ps_par (i := 7) (j := 8) (by rfl) sc__law_parts.nd rfl rfl (by decide) rfl rfl (pa_cons (pe_fk g__law_draw hr (by rfl) (pa_cons (pv 0) (pa_cons (pv 3) pa_nil))) (pa_cons (pe_fk g__law_draw hr (by rfl) (pa_cons (pv 0) (pa_cons (pv 3) pa_nil))) pa_nil)) (by rfl))
       (pss_cons (ps_if (pt_cmpR op_gt (pv 4) pe_int (nomark _)) (pss_cons (ps_set (i := 7) sc__law_parts.nd rfl (Or.inl rfl) (pe_op op_mod (pe_callTy call_int1 (by rfl) T.int (by decide +kernel) (pa_cons (pv 6) pa_nil)) (pv 3)))
        (pss_one (ps_set (i := 8) sc__law_parts.nd rfl (Or.inl rfl) (pe_ix ix_tup (pe_tup (pa_cons (pv 7) (pa_cons (pe_op op_mod (pe_callTy call_int1 (by rfl) T.int (by decide +kernel) (pa_cons (pe_op op_add (pv 7) pe_int) pa_nil)) (pv 3)) pa_nil))) (pe_callTy call_int1 (by rfl) T.int (by decide +kernel) (pa_cons (pe_cmpR op_gt (pe_fk g__law_draw hr (by rfl) (pa_cons (pv 0) (pa_cons pe_int pa_nil))) pe_int (nomark _)) pa_nil)) (fun _ _ => rfl))))) pss_nil)
       (pss_cons (ps_set (i := 9) sc__law_parts.nd rfl (Or.inl rfl) (pe_ifExp (pt_cmpR op_eqI (pv 4) pe_int (nomark _)) pe_int (pe_op op_add pe_int (pe_fk g__law_draw hr (by rfl) (pa_cons (pv 0) (pa_cons pe_int pa_nil))))))
       (pss_cons (ps_set (i := 10) sc__law_parts.nd rfl (Or.inl rfl) (pe_ifExp (pt_cmpR op_eqI (pv 4) pe_int (nomark _)) (pe_fk g__law_draw hr (by rfl) (pa_cons (pv 0) (pa_cons pe_int pa_nil))) (pe_op op_sub (pe_fk g__law_draw hr (by rfl) (pa_cons (pv 0) (pa_cons pe_int pa_nil))) pe_int)))
       (pss_one (ps_expr (pe_bm PySem.F.plainAttrs_list PySem.F.slot_list_append PySem.F.type_list_append mt_append (pv 5) (pa_cons (pe_tup (pa_cons (pv 7) (pa_cons (pv 8) (pa_cons (pv 9) (pa_cons (pv 10) pa_nil))))) pa_nil)))))))))
      (pss_one (ps_ret (pe_tup (pa_cons (pv 3) (pa_cons (pe_callTy call_tuple_of (by rfl) T.tuple (by decide +kernel) (pa_cons (pv 5) pa_nil)) pa_nil))))))))), ?_⟩
    refine ⟨_, rfl, _, rfl, p, ga, sa, N, 4, rfl, hP, by omega, by decide, by decide, fun H1 r1 k1 P1 hr1 => ⟨1, (r1 : Int), rfl, rfl, ?_⟩⟩
    refine ⟨_, rfl, p, ga, sa, N + 1, 4, rfl, P1, by omega, by decide, by decide, fun H2 kd k2 P2 hkd => ?_⟩
    refine ⟨Nat.zero_le _, fun Dl nD => ?_⟩
    obtain ⟨nDp, nDg⟩ := P2.nn nD
    have k12 := k1.trans k2
    have HDn : H Dl = none := (k12.free hP nD nDp nDg)
    have s3 : Same H2 (upd H2 Dl (.lst [])) := same_new nD
    refine ⟨_, rfl, _, rfl, p, ga, sa, N + 2, 6, rfl, P2.same s3, by omega, by decide, by decide, fun H4 r4 k4 P4 hr4 => ⟨1, (r4 : Int), rfl, rfl, 1 + (r4 : Int), rfl, by omega, by omega, ?_⟩⟩
    have k14 := (k12.trans (.of s3)).trans k4
    have hD4 : H4 Dl = some (.lst []) := k4 _ _ upd_same nDp nDg
    obtain ⟨n, hn⟩ : ∃ n, n = 1 + r1 := ⟨_, rfl⟩
    have en : ((1 : Int) + (r1 : Int)) = (n : Int) := by omega
    refine for_range (lo := 0) (n := (1 + (r4 : Int)).toNat) (fun i σ H' => ∃ v6 v7 v8 v9 v10 es as, σ = [some (.ref p), some (.int 4), some (.int 6), some (.int ((1 : Int) + (r1 : Int))), some (.int (kd : Nat)), some (.ref Dl), v6, v7, v8, v9, v10] ∧ KP p ga H H' ∧ PotAt H' p ga sa (N + 3 + 5 * i) ∧ H' Dl = some (.lst (as.map V.ref)) ∧ EvL H' as es ∧ es.length = i ∧ ∀ e ∈ es, PEv n e)
      ⟨_, _, _, _, _, [], [], rfl, k14, P4, hD4, ⟨rfl, fun j e h => by cases h⟩, rfl, fun e h => by cases h⟩ ?_ ?_
    · rintro i σ H5 hi ⟨v6, v7, v8, v9, v10, es, as, rfl, k5, P5, hD5, hE5, hl5, he5⟩
      have fin : ∀ (b a t : Nat) (x : Int) (H2 : Hp) (M : Nat), KP p ga H5 H2 → PotAt H2 p ga sa M → M ≤ N + 3 + 5 * (i + 1) → b < n → a < n → 1 ≤ t → t ≤ 3 → -4 ≤ x → x ≤ 4 → ∀ (k : Addr), H2 k = none → ∀ (vb va vt : V) (w6 : Option V) (w7 w8 w9 w10 : Option V), vb = .int (b : Nat) → va = .int (a : Nat) → vt = .int (t : Nat) →
          ∃ v6 v7 v8 v9 v10 es2 as2, ([some (.ref p), some (.int 4), some (.int 6), some (.int ((1 : Int) + (r1 : Int))), some (.int (kd : Nat)), some (.ref Dl), w6, w7, w8, w9, w10] : L2.St) = [some (.ref p), some (.int 4), some (.int 6), some (.int ((1 : Int) + (r1 : Int))), some (.int (kd : Nat)), some (.ref Dl), v6, v7, v8, v9, v10] ∧
          KP p ga H (upd (upd H2 k (.tup [vb, va, vt, .int x])) Dl (.lst (as.map V.ref ++ [.ref k]))) ∧ PotAt (upd (upd H2 k (.tup [vb, va, vt, .int x])) Dl (.lst (as.map V.ref ++ [.ref k]))) p ga sa (N + 3 + 5 * (i + 1)) ∧ (upd (upd H2 k (.tup [vb, va, vt, .int x])) Dl (.lst (as.map V.ref ++ [.ref k]))) Dl = some (.lst (as2.map V.ref)) ∧
          EvL (upd (upd H2 k (.tup [vb, va, vt, .int x])) Dl (.lst (as.map V.ref ++ [.ref k]))) as2 es2 ∧ es2.length = i + 1 ∧ ∀ e ∈ es2, PEv n e := by
        intro b a t x H2 M k2 P2 hM hb ha ht1 ht2 hx1 hx2 k nk vb va vt w6 w7 w8 w9 w10 e1 e2 e3
        subst e1 e2 e3
        have hD2 : H2 Dl = some (.lst (as.map V.ref)) := k2 _ _ hD5 nDp nDg
        have sk : Same H2 (upd H2 k (.tup [.int (b : Nat), .int (a : Nat), .int (t : Nat), .int x])) := same_new nk
        have tk : TupK (upd H2 k (.tup [.int (b : Nat), .int (a : Nat), .int (t : Nat), .int x])) (upd (upd H2 k (.tup [.int (b : Nat), .int (a : Nat), .int (t : Nat), .int x])) Dl (.lst (as.map V.ref ++ [.ref k]))) := TupK.upd (sk _ _ hD2) (by intro xs z; cases z)
        have hk : EvT (upd H2 k (.tup [.int (b : Nat), .int (a : Nat), .int (t : Nat), .int x])) k ⟨b, a, t, x⟩ := upd_same
        refine ⟨_, _, _, _, _, es ++ [⟨b, a, t, x⟩], as ++ [k], rfl, fun c o ec n1 n2 => ?_, ?_, ?_, (((hE5.tk (k2.tk P5)).tk (.of sk)).push hk).tk tk, by rw [List.length_append, hl5]; rfl, fun e he => ?_⟩
        · rw [upd_ne (ne_of_none ec HDn)]
          exact sk _ _ (k2 _ _ (k5 _ _ ec n1 n2) n1 n2)
        · obtain ⟨gs, ss, t, z, h1, h2, h3, r⟩ := ((P2.same sk).more hM).ex
          refine ⟨gs, ss, t, z, by rw [upd_ne nDp.symm]; exact h1, by rw [upd_ne nDg.symm]; exact h2, ?_, r⟩
          rw [upd_ne (fun z => ?_)]
          · exact h3
          · rw [z, sk _ _ hD2] at h3
            injection h3 with h3
            injection h3 with h3
            cases ss with
            | nil => exact r.2.2.2.1 rfl
            | cons a r => cases as with
              | nil => cases h3
              | cons b l => cases h3
        · rw [upd_same, List.map_append]
          rfl
        · rcases List.mem_append.mp he with h | h
          · exact he5 e h
          · rw [List.mem_singleton.mp h]
            exact ⟨hb, ha, ht1, ht2, hx1, hx2⟩
      have hi4 : i ≤ 6 := by omega
      refine ⟨_, rfl, _, rfl, p, ga, sa, N + 3 + 5 * i, (1 : Int) + (r1 : Int), rfl, P5, by omega, by omega, by omega, fun H6 ra k6 P6 hra => ?_⟩
      refine ⟨_, rfl, _, rfl, p, ga, sa, N + 3 + 5 * i + 1, (1 : Int) + (r1 : Int), rfl, P6, by omega, by omega, by omega, fun H7 rb k7 P7 hrb => ⟨_, _, rfl, ?_⟩⟩
      have k57 := k6.trans k7
      refine ⟨_, rfl, (kd : Int), 1, rfl, rfl, _, rfl, ifD (fun hk1 => ?_) fun hk1 => ?_⟩
      · have hmA := mod_nat (x := (0 : Int) + (i : Int)) (m := (1 : Int) + (r1 : Int)) (by omega)
        refine ⟨_, rfl, .inl ⟨(0 : Int) + (i : Int), rfl, _, rfl, (0 : Int) + (i : Int), (1 : Int) + (r1 : Int), rfl, rfl, by omega, ?_⟩⟩
        obtain ⟨b, hb⟩ : ∃ b, b = (((0 : Int) + (i : Int)) % ((1 : Int) + (r1 : Int))).toNat := ⟨_, rfl⟩
        rw [← hb] at hmA
        have hmB := mod_nat (x := (b : Int) + 1) (m := (1 : Int) + (r1 : Int)) (by omega)
        obtain ⟨b2, hb2⟩ : ∃ b2, b2 = (((b : Int) + 1) % ((1 : Int) + (r1 : Int))).toNat := ⟨_, rfl⟩
        rw [← hb2] at hmB
        refine ⟨_, rfl, _, rfl, (b : Int), 1, congrArg V.int hmA.1, rfl, .inl ⟨(b : Int) + 1, rfl, _, rfl, (b : Int) + 1, (1 : Int) + (r1 : Int), rfl, rfl, by omega, le_line (n := 2) (by decide), fun tp ntp => ?_⟩⟩
        have st : Same H7 (upd H7 tp (.tup [.int (((0 : Int) + (i : Int)) % ((1 : Int) + (r1 : Int))), .int (((b : Int) + 1) % ((1 : Int) + (r1 : Int)))])) := same_new ntp
        refine ⟨_, rfl, p, ga, sa, N + 3 + 5 * i + 1 + 1, 3, rfl, P7.same st, by omega, by decide, by decide, fun H8 rc k8 P8 hrc => ⟨(rc : Int), 0, rfl, rfl, .inr ⟨decide ((0 : Int) < (rc : Int)), rfl, ?_⟩⟩⟩
        have htp : H8 tp = some (.tup [.int (((0 : Int) + (i : Int)) % ((1 : Int) + (r1 : Int))), .int (((b : Int) + 1) % ((1 : Int) + (r1 : Int)))]) := k8.tup (P7.same st) upd_same
        obtain ⟨a, ha, hv⟩ : ∃ a : Nat, a < n ∧ atI [V.int (((0 : Int) + (i : Int)) % ((1 : Int) + (r1 : Int))), V.int (((b : Int) + 1) % ((1 : Int) + (r1 : Int)))] (if decide ((0 : Int) < (rc : Int)) = true then 1 else 0) = some (.int (a : Nat)) := by
          by_cases h0 : (0 : Int) < (rc : Int)
          · exact ⟨b2, by omega, by rw [decide_eq_true h0, if_pos rfl, hmB.1]; rfl⟩
          · exact ⟨b, by omega, by rw [decide_eq_false h0, if_neg (by decide), hmA.1]; rfl⟩
        have k58 := k57.trans ((KP.of st).trans k8)
        refine ⟨tp, _, _, .int (a : Nat), rfl, rfl, SqT.of htp, hv, ?_⟩
        refine ⟨_, rfl, (kd : Int), 1, rfl, rfl, _, rfl, ifF (by omega) ?_⟩
        refine ⟨_, rfl, p, ga, sa, (N + 3 + 5 * i + 1 + 1 + 1), 3, rfl, P8, by omega, by decide, by decide, fun H9 rt k9 P9 hrt => ⟨1, (rt : Int), rfl, rfl, ?_⟩⟩
        refine ⟨_, rfl, (kd : Int), 1, rfl, rfl, _, rfl, ifF (by omega) ?_⟩
        refine ⟨_, rfl, p, ga, sa, (N + 3 + 5 * i + 1 + 1 + 1) + 1, 9, rfl, P9, by omega, by decide, by decide, fun HA rx kA PA hrx => ⟨(rx : Int), 4, rfl, rfl, ?_⟩⟩
        have kk := (k58.trans k9).trans kA
        have hDA : HA Dl = some (.lst (as.map V.ref)) := kk _ _ hD5 nDp nDg
        refine ⟨_, rfl, .inl ⟨rfl, _, SqL.of hDA⟩, _, rfl, _, rfl, _, rfl, _, rfl, le_line (n := 4) (by decide), fun k nk => ⟨Dl, as.map V.ref, _, rfl, rfl, same_new nk _ _ hDA, lt_line (by rw [List.length_map, hE5.len]; omega), ?_⟩⟩
        exact fin (b) (a) (1 + rt) ((rx : Int) - 4) HA _ kk PA (by omega) (by omega) (by omega) (by omega) (by omega) (by omega) (by omega) k nk _ _ _ _ _ _ _ _ (congrArg V.int hmA.1) rfl rfl
      · by_cases hk0 : (kd : Int) = 1
        · refine ⟨_, rfl, (kd : Int), 1, rfl, rfl, _, rfl, ifT hk0 ?_⟩
          refine ⟨_, rfl, (kd : Int), 1, rfl, rfl, _, rfl, ifT hk0 ?_⟩
          refine ⟨_, rfl, p, ga, sa, N + 3 + 5 * i + 1 + 1, 2, rfl, P7, by omega, by decide, by decide, fun HA rx kA PA hrx => ?_⟩
          have kk := k57.trans kA
          have hDA : HA Dl = some (.lst (as.map V.ref)) := kk _ _ hD5 nDp nDg
          refine ⟨_, rfl, .inl ⟨rfl, _, SqL.of hDA⟩, _, rfl, _, rfl, _, rfl, _, rfl, le_line (n := 4) (by decide), fun k nk => ⟨Dl, as.map V.ref, _, rfl, rfl, same_new nk _ _ hDA, lt_line (by rw [List.length_map, hE5.len]; omega), ?_⟩⟩
          exact fin ra rb 1 (rx : Int) HA _ kk PA (by omega) (by omega) (by omega) (by omega) (by omega) (by omega) (by omega) k nk _ _ _ _ _ _ _ _ rfl rfl rfl
        · refine ⟨_, rfl, (kd : Int), 1, rfl, rfl, _, rfl, ifF (by omega) ?_⟩
          refine ⟨_, rfl, p, ga, sa, (N + 3 + 5 * i + 1 + 1), 3, rfl, P7, by omega, by decide, by decide, fun H9 rt k9 P9 hrt => ⟨1, (rt : Int), rfl, rfl, ?_⟩⟩
          refine ⟨_, rfl, (kd : Int), 1, rfl, rfl, _, rfl, ifF (by omega) ?_⟩
          refine ⟨_, rfl, p, ga, sa, (N + 3 + 5 * i + 1 + 1) + 1, 9, rfl, P9, by omega, by decide, by decide, fun HA rx kA PA hrx => ⟨(rx : Int), 4, rfl, rfl, ?_⟩⟩
          have kk := (k57.trans k9).trans kA
          have hDA : HA Dl = some (.lst (as.map V.ref)) := kk _ _ hD5 nDp nDg
          refine ⟨_, rfl, .inl ⟨rfl, _, SqL.of hDA⟩, _, rfl, _, rfl, _, rfl, _, rfl, le_line (n := 4) (by decide), fun k nk => ⟨Dl, as.map V.ref, _, rfl, rfl, same_new nk _ _ hDA, lt_line (by rw [List.length_map, hE5.len]; omega), ?_⟩⟩
          exact fin (ra) (rb) (1 + rt) ((rx : Int) - 4) HA _ kk PA (by omega) (by omega) (by omega) (by omega) (by omega) (by omega) (by omega) k nk _ _ _ _ _ _ _ _ rfl rfl rfl
    · rintro σ H5 ⟨v6, v7, v8, v9, v10, es, as, rfl, k5, P5, hD5, hE5, hl5, he5⟩
      refine ⟨_, rfl, _, rfl, Dl, _, rfl, .inl ⟨SqL.of hD5, fun tp ntp => ⟨le_line (n := 2) (by decide), fun pp npp => ?_⟩⟩⟩
      have st : Same H5 (upd (upd H5 tp (.tup (as.map V.ref))) pp (.tup [.int ((1 : Int) + (r1 : Int)), .ref tp])) := (same_new ntp).trans (same_new npp)
      refine q _ pp n es (k5.trans (.of st)) ((P5.more (by omega)).same st) ⟨tp, ?_, as, same_new npp _ _ upd_same, hE5.len, fun j e he => ?_⟩ ⟨by omega, by omega, by omega, by omega, he5⟩
      · rw [upd_same, en]
      · obtain ⟨x, h1, h2⟩ := hE5.at_ j e he
        exact ⟨x, h1, st _ _ h2⟩
abbrev n__law_walk : List Str := ["_law_pot_here", "_law_parts_here", "_law_many", "_law_run", "_law_standing", "_law_turn", "_law_some"]
theorem sc__law_walk : FnScope n__law_walk ["_law_pot_here", "_law_parts_here", "_law_many"] (defScope s__law_walk) := ⟨rfl, rfl, rfl, by decide +kernel, rfl, by decide +kernel, by decide +kernel⟩
theorem ok__law_walk (D : Df K mg "_law_walk" s__law_walk) (T : TX K mg) (g__law_draw : Fk P w K mg base 1 "_law_draw" ["_law_pot_here", "_law_many"] spDraw) (g__law_out : Fk P w K mg base 1 "_law_out" ["_law_parts_here", "_law_standing"] spOut) : Fk P w K mg base 2 "_law_walk" ["_law_pot_here", "_law_parts_here", "_law_many"] spWalk := by
  refine fk_of D sc__law_walk (fun _ _ _ _ _ _ us hl => match us, hl with | [_, _, _], _ => rfl) (fun vs H Q E h => ?_) (fun f cdv A outer s H vs Q E hr h => ?_)
  · obtain ⟨_, _, _, _, _, _, _, _, rfl, _⟩ := h
    rfl
  · obtain ⟨p, ga, sa, pa, N, m, n, es, rfl, hP, hN, hpa, hM, hm, q⟩ := h
    refine ⟨_, (pss_cons (ps_set (i := 3) sc__law_walk.nd rfl (Or.inl rfl) (pe_lst pa_nil))
      (pss_cons (ps_set (i := 4) sc__law_walk.nd rfl (Or.inl rfl) pe_int)
      (pss_cons (ps_for PassesOwn.never (by rfl) (pi_range1 (by rfl) T.range (pa_cons (pv 2) pa_nil)) (pg_name (i := 5) sc__law_walk.nd rfl (Or.inl rfl))
       (pss_cons (ps_set (i := 6) sc__law_walk.nd rfl (Or.inl rfl) (pe_fk g__law_out hr (by rfl) (pa_cons (pv 1) (pa_cons (pv 4) pa_nil))))
       (pss_cons (ps_if (pt_cmpR op_eqI (pe_callB call_len_seq (by rfl) T.len (by decide +kernel) (pa_cons (pv 6) pa_nil)) pe_int (nomark _)) (pss_one ps_break) pss_nil)
       (pss_cons (ps_expr (pe_bm PySem.F.plainAttrs_list PySem.F.slot_list_append PySem.F.type_list_append mt_append (pv 3) (pa_cons (pe_ix ix_list (pv 6) (pe_fk g__law_draw hr (by rfl) (pa_cons (pv 0) (pa_cons (pe_callB call_len_seq (by rfl) T.len (by decide +kernel) (pa_cons (pv 6) pa_nil)) pa_nil))) (fun _ _ => rfl)) pa_nil)))
       (pss_one (ps_set (i := 4) sc__law_walk.nd rfl (Or.inl rfl) (pe_ix ix_tup (pe_ix ix_tup (pe_ix ix_tup (pv 1) pe_int (fun _ _ => rfl)) (pe_ix ix_list (pv 3) (pe_un un_neg pe_int) (fun _ _ => rfl)) (fun _ _ => rfl)) pe_int (fun _ _ => rfl))))))))
      (pss_one (ps_ret (pe_callTy call_tuple_of (by rfl) T.tuple (by decide +kernel) (pa_cons (pv 3) pa_nil))))))), ?_⟩
    refine ⟨Nat.zero_le _, fun Dl nD => ?_⟩
    obtain ⟨nDp, nDg⟩ := hP.nn nD
    have s1 : Same H (upd H Dl (.lst [])) := same_new nD
    refine ⟨_, rfl, (m : Int), rfl, by omega, by omega, for_range (lo := 0) (n := (m : Int).toNat) (fun i σ H' => ∃ v5 v6 l t st c, σ = [some (.ref p), some (.ref pa), some (.int (m : Nat)), some (.ref Dl), some (.int (st.1 : Nat)), v5, v6] ∧ KP p ga H H' ∧ PotAt H' p ga sa (N + i) ∧ H' Dl = some (.lst (l.map fun j => V.int (j : Nat))) ∧ Way es g0 0 (0, 0) t st l c ∧ l.length = i)
      ⟨_, _, [], 0, (0, 0), 0, rfl, .of s1, hP.same s1, upd_same, Way.nil, rfl⟩ ?_ ?_⟩
    · rintro i σ H2 hi ⟨v5, v6, l, t, st, c, rfl, k2, P2, hD2, hw, hl⟩
      have him : i < m := by omega
      have hpa2 := hpa.kp k2 hP
      have h6 : es.length ≤ 6 := hM.len
      refine ⟨_, rfl, _, rfl, pa, n, st.1, es, rfl, hpa2, by omega, fun H3 L s3 nL hL => ?_⟩
      refine ⟨_, rfl, L, _, rfl, .inl (SqL.of hL), ((outs es st.1).length : Int), 0, by rw [List.length_map], rfl, _, rfl, ifD (fun h0 => ?_) fun h0 => ?_⟩
      · refine ⟨_, rfl, Dl, _, rfl, .inl ⟨SqL.of (s3 _ _ hD2), fun tp ntp => ?_⟩⟩
        exact q _ tp l t st c ((k2.trans (.of s3)).trans (.of (same_new ntp))) (((P2.same s3).same (same_new ntp)).more (by omega)) upd_same hw (by omega)
      · obtain ⟨nLp, nLg⟩ := P2.nn nL
        have hol := outs_len es st.1
        have hD3 := s3 _ _ hD2
        refine ⟨_, rfl, .inl ⟨rfl, _, SqL.of hD3⟩, _, rfl, _, rfl, _, rfl, L, _, rfl, .inl (SqL.of hL), p, ga, sa, N + i, ((outs es st.1).length : Int), by rw [List.length_map], P2.same s3, by omega, by omega, by omega, fun H4 r k4 P4 hr => ?_⟩
        obtain ⟨j, hj⟩ : ∃ j, (outs es st.1)[r]? = some j := ⟨(outs es st.1)[r]'(by omega), List.getElem?_eq_getElem (by omega)⟩
        obtain ⟨e, he, heb⟩ := mem_outs.mp (List.mem_of_getElem? hj)
        have hD4 : H4 Dl = some (.lst (l.map fun j => V.int (j : Nat))) := k4 _ _ hD3 nDp nDg
        refine ⟨L, _, (r : Int), .int (j : Nat), rfl, rfl, SqL.of (k4 _ _ hL nLp nLg), atI_nat (map_get hj), Dl, _, _, rfl, rfl, hD4, lt_line (by rw [List.length_map]; omega), ?_⟩
        obtain ⟨ea, e1, e2⟩ := hpa2.ex
        obtain ⟨as, a1, a2, a3⟩ := e2.ex
        obtain ⟨x, x1, x2⟩ := a3 j e he
        have t5 : TupK H2 (upd H4 Dl (.lst (l.map (fun j => V.int (j : Nat)) ++ [.int (j : Nat)]))) := ((TupK.of s3).trans (k4.tk (P2.same s3))).trans (TupK.upd hD4 (by intro xs z; cases z))
        have x3 : upd H4 Dl (.lst (l.map (fun j => V.int (j : Nat)) ++ [.int (j : Nat)])) x = some (.tup [.int (e.b : Nat), .int (e.a : Nat), .int (e.t : Nat), .int e.p]) := t5 _ _ x2
        refine ⟨_, rfl, pa, _, 1, .ref ea, rfl, rfl, SqT.of (t5 _ _ e1), atI_nat (j := 1) rfl, _, rfl, 1, rfl, Dl, _, _, .int (j : Nat), rfl, rfl, SqL.of upd_same, atI_last _ _, ea, _, (j : Int), .ref x, rfl, rfl, SqT.of (t5 _ _ a1), at_of rfl (map_get x1), x, _, 1, .int (e.a : Nat), rfl, rfl, SqT.of x3, atI_nat (j := 1) rfl, ?_⟩
        refine ⟨_, _, l ++ [j], t + e.t, (e.a, st.2 + e.p), _, rfl, fun b o eb n1 n2 => ?_, ?_, by rw [upd_same, List.map_append]; rfl, Way.snoc hw he heb, by rw [List.length_append, hl]; rfl⟩
        · rw [upd_ne (ne_of_none eb nD)]
          exact k4 _ _ (s3 _ _ (k2 _ _ eb n1 n2)) n1 n2
        · obtain ⟨gs, ss, t, z, h1, h2, h3, r⟩ := P4.ex
          refine ⟨gs, ss, t, z, by rw [upd_ne nDp.symm]; exact h1, by rw [upd_ne nDg.symm]; exact h2, ?_, r⟩
          have h3H : H sa ≠ none := by
            obtain ⟨_, _, _, _, _, _, y, _⟩ := hP.ex
            rw [y]
            simp
          rw [upd_ne (fun z => h3H (by rw [z]; exact nD))]
          exact h3
    · rintro σ H2 ⟨v5, v6, l, t, st, c, rfl, k2, P2, hD2, hw, hl⟩
      refine ⟨_, rfl, Dl, _, rfl, .inl ⟨SqL.of hD2, fun tp ntp => ?_⟩⟩
      exact q _ tp l t st c (k2.trans (.of (same_new ntp))) ((P2.same (same_new ntp)).more (by omega)) upd_same hw (by omega)
end
end Nl
namespace Nl
open PySem PySem.Spec PyProof.Rows L2 LamX NdefX
/-- by a word that holds where the ways meet -/
theorem via {R : L2.St → Hp → Prop} {G : Prop} (I : L2.St → Hp → Prop) (h1 : (∀ σ H, I σ H → R σ H) → G) (h2 : ∀ σ H, I σ H → R σ H) : G := h1 h2
theorem BdsAt.tk {H H' : Hp} {a : Addr} {bs : List (Nat × Int)} (h : BdsAt H a bs) (k : TupK H H') (e : ∀ xs, H a = some (.lst xs) → H' a = some (.lst xs)) : BdsAt H' a bs := by
  obtain ⟨as, h1, h2, h3⟩ := h.ex
  exact ⟨as, e _ h1, h2, fun i b hb => by
    obtain ⟨x, k1, k2⟩ := h3 i b hb
    exact ⟨x, k1, k _ _ k2⟩⟩
theorem BdsAt.kp {H H' : Hp} {a p ga sa : Addr} {N : Nat} {bs : List (Nat × Int)} (h : BdsAt H a bs) (k : KP p ga H H') (P : PotAt H p ga sa N) (n1 : a ≠ p) (n2 : a ≠ ga) : BdsAt H' a bs := h.tk (k.tk P) fun xs e => k _ _ e n1 n2
theorem PotAt.up {H : Hp} {p ga sa D : Addr} {N : Nat} {o : HO} (h : PotAt H p ga sa N) (n1 : D ≠ p) (n2 : D ≠ ga) (n3 : D ≠ sa) : PotAt (upd H D o) p ga sa N := by
  obtain ⟨gs, ss, t, z, h1, h2, h3, r⟩ := h.ex
  exact ⟨gs, ss, t, z, by rw [upd_ne n1.symm]; exact h1, by rw [upd_ne n2.symm]; exact h2, by rw [upd_ne n3.symm]; exact h3, r⟩
theorem PotAt.nns {H : Hp} {p ga sa : Addr} {N : Nat} (h : PotAt H p ga sa N) {b : Addr} (e : H b = none) : b ≠ sa := by
  obtain ⟨gs, ss, t, z, h1, h2, h3, r⟩ := h.ex
  exact fun z => (by rw [z, h3] at e; cases e)
def spRoom : Sp := fun vs H Q _ => ∃ (pa : Addr) (n : Nat) (es : List Ev), vs = [.ref pa] ∧ PartsAt H pa n es ∧ POk n es ∧ ∀ (H' : Hp) (r : Int), Same H H' → 5 ≤ r → r ≤ 37 → Q (.int r) H'
def spBoardsWith : Sp := fun vs H Q _ => ∃ (pa ra : Addr) (n t : Nat) (es : List Ev) (l : List Nat) (s : Sta) (c : Int), vs = [.ref pa, .ref ra] ∧ PartsAt H pa n es ∧ RunT H ra l ∧ Way es g0 0 (0, 0) t s l c ∧ l.length ≤ 1000 ∧
  ∀ (H' : Hp) (p : Addr), Same H H' → BdsAt H' p ((0, 0) :: bds es 0 0 l) → Q (.ref p) H'
def spTwo : Sp := fun vs H Q _ => ∃ (p ga sa pa : Addr) (N m n : Nat) (es : List Ev), vs = [.ref p, .ref pa, .int (m : Nat)] ∧ PotAt H p ga sa N ∧ N ≤ 800000 ∧ PartsAt H pa n es ∧ MOk n es ∧ m ≤ 299 ∧
  ∀ (H' : Hp) (q fa la : Addr) (f l : Nat × Int), KP p ga H H' → PotAt H' p ga sa (N + 310) → H' q = some (.tup [.ref fa, .ref la]) → Tp2 H' fa (f.1 : Nat) f.2 → Tp2 H' la (l.1 : Nat) l.2 → f.1 < l.1 → l.1 ≤ 300 → -1400 ≤ f.2 → f.2 ≤ 1400 → -1400 ≤ l.2 → l.2 ≤ 1400 → (0 < f.1 ∨ f.2 = 0) → Q (.ref q) H'
section
variable {P : Program} {w : World} {K : PySem.W.Frag} {mg : Str → Option Value} {base : Heap}
abbrev n__law_room : List Str := ["_law_parts_here", "_law_points", "_law_event"]
theorem sc__law_room : FnScope n__law_room ["_law_parts_here"] (defScope s__law_room) := ⟨rfl, rfl, rfl, by decide +kernel, rfl, by decide +kernel, by decide +kernel⟩
theorem ok__law_room (D : Df K mg "_law_room" s__law_room) (T : TX K mg) : Fk P w K mg base 1 "_law_room" ["_law_parts_here"] spRoom := by
  refine fk_of D sc__law_room (fun _ _ _ _ _ _ us hl => match us, hl with | [_], _ => rfl) (fun vs H Q E h => ?_) (fun f cdv A outer s H vs Q E hr h => ?_)
  · obtain ⟨_, _, _, rfl, _⟩ := h
    rfl
  · obtain ⟨pa, n, es, rfl, hpa, hO, q⟩ := h
    refine ⟨_, (pss_cons (ps_setLc (i := 1) (own := [("_law_event", 2)]) (g := gName 2) (tt := tYes) (by rfl) sc__law_room.nd rfl rfl (sw_true rfl rfl rfl (by decide +kernel)) (pi_tup (pe_ix ix_tup (pv 0) pe_int (fun _ _ => rfl))) (blkOk_by (own := [("_law_event", 2)]) (N := n__law_room) (sc := defScope s__law_room) (by decide +kernel)) (fun _ _ _ _ _ => (pg_name (i := 2) sc__law_room.nd rfl (Or.inl rfl))) (fun _ _ _ _ _ => pts_nil) (fun _ _ _ _ _ => (pe_ix (ix_tupK (K := K) rfl) (pv 2) pe_int (fun _ _ => rfl))))
      (pss_one (ps_ret (pe_op op_add pe_int (pe_op op_fdivW pe_int (pe_op op_sub (pe_op op_add pe_int (pe_callB (cr_max (by rfl)) (by rfl) T.max (by decide +kernel) (pa_cons (pv 1) pa_nil))) (pe_callB (cr_min (by rfl)) (by rfl) T.min (by decide +kernel) (pa_cons (pv 1) pa_nil)))))))), ?_⟩
    obtain ⟨ea, h1, h2⟩ := hpa.ex
    obtain ⟨as, a1, a2, a3⟩ := h2.ex
    refine ⟨_, rfl, pa, _, 1, .ref ea, rfl, rfl, SqT.of h1, atI_nat (j := 1) rfl, ea, rfl, ⟨_, SqT.of a1⟩, fun Dl nD => lc_it walk_tup (fun i H' => Same H H' ∧ ∃ ps : List Int, H' Dl = some (.lst (ps.map V.int)) ∧ ps.length = i ∧ ∀ x ∈ ps, -4 ≤ x ∧ x ≤ 4) ⟨same_new nD, [], upd_same, rfl, fun x h => by cases h⟩ (fun i H' _ ⟨z, _⟩ => SqT.of (z _ _ a1)) ?_ ?_⟩
    · rintro i x H'' H' hi ⟨s1, ps, hD, hl, hp⟩ ⟨rfl, hx⟩
      obtain ⟨k, hk, rfl⟩ := of_map_get hx
      have hie := (List.getElem?_eq_some_iff.mp hk).1
      obtain ⟨e, he⟩ : ∃ e, es[i]? = some e := ⟨es[i]'(by omega), List.getElem?_eq_getElem (by omega)⟩
      obtain ⟨k', k1, k2⟩ := a3 i e he
      rw [hk] at k1
      cases k1
      have k2 : H' k = some (.tup [.int (e.b : Nat), .int (e.a : Nat), .int (e.t : Nat), .int e.p]) := s1 _ _ k2
      have hev := hO.ev e (List.mem_of_getElem? he)
      refine ⟨rfl, _, rfl, k, _, 3, .int e.p, rfl, rfl, SqT.of k2, atI_nat (j := 3) rfl, _, hD, ?_, fun b o eb => ?_, ps ++ [e.p], ?_, ?_, ?_⟩
      · rw [List.length_map]
        have := hO.l6
        exact lt_line (by omega)
      · rw [upd_ne (ne_of_none eb nD)]
        exact s1 _ _ eb
      · rw [upd_same, List.map_append]
        rfl
      · rw [List.length_append, hl]
        rfl
      · intro y hy
        rcases List.mem_append.mp hy with h | h
        · exact hp y h
        · rw [List.mem_singleton.mp h]
          exact ⟨hev.2.2.2.2.1, hev.2.2.2.2.2⟩
    · rintro H1 ⟨s1, ps, hD, hl, hp⟩
      have hl1 := hO.l1
      rw [List.length_map] at hl
      refine ⟨_, rfl, Dl, ps, rfl, SqL.of hD, by omega, fun mx hmx hmx2 => ⟨1, mx, rfl, rfl, _, rfl, Dl, ps, rfl, SqL.of hD, by omega, fun mn hmn hmn2 => ?_⟩⟩
      have b1 := hp mx hmx
      have b2 := hp mn hmn
      have b3 := hmn2 mx hmx
      refine ⟨1 + mx, mn, rfl, rfl, 32, 1 + mx - mn, rfl, rfl, cdiv_small (by omega) (by omega), 5, 32 / (1 + mx - mn), rfl, rfl, ?_⟩
      have c1 : 0 ≤ 32 / (1 + mx - mn) := Int.ediv_nonneg (by decide) (by omega)
      have c2 : 32 / (1 + mx - mn) ≤ 32 := Int.ediv_le_self _ (by decide)
      exact q H1 _ s1 (by omega) (by omega)
abbrev n__law_boards_with : List Str := ["_law_parts_here", "_law_run", "_law_found", "_law_number", "_law_event"]
theorem sc__law_boards_with : FnScope n__law_boards_with ["_law_parts_here", "_law_run"] (defScope s__law_boards_with) := ⟨rfl, rfl, rfl, by decide +kernel, rfl, by decide +kernel, by decide +kernel⟩
theorem ok__law_boards_with (D : Df K mg "_law_boards_with" s__law_boards_with) (T : TX K mg) : Fk P w K mg base 1 "_law_boards_with" ["_law_parts_here", "_law_run"] spBoardsWith := by
  refine fk_of D sc__law_boards_with (fun _ _ _ _ _ _ us hl => match us, hl with | [_, _], _ => rfl) (fun vs H Q E h => ?_) (fun f cdv A outer s H vs Q E hr h => ?_)
  · obtain ⟨_, _, _, _, _, _, _, _, rfl, _⟩ := h
    rfl
  · obtain ⟨pa, ra, n, t, es, l, s, c, rfl, hpa, hrt, hw, hll, q⟩ := h
    refine ⟨_, (pss_cons (ps_set (i := 2) sc__law_boards_with.nd rfl (Or.inl rfl) (pe_lst (pa_cons (pe_tup (pa_cons pe_int (pa_cons pe_int pa_nil))) pa_nil)))
      (pss_cons (ps_for PassesOwn.never (by rfl) (pi_tup (pv 1)) (pg_name (i := 3) sc__law_boards_with.nd rfl (Or.inl rfl))
       (pss_cons (ps_set (i := 4) sc__law_boards_with.nd rfl (Or.inl rfl) (pe_ix ix_tup (pe_ix ix_tup (pv 0) pe_int (fun _ _ => rfl)) (pv 3) (fun _ _ => rfl)))
       (pss_one (ps_expr (pe_bm PySem.F.plainAttrs_list PySem.F.slot_list_append PySem.F.type_list_append mt_append (pv 2) (pa_cons (pe_tup (pa_cons (pe_op op_add (pe_ix ix_tup (pe_ix ix_list (pv 2) (pe_un un_neg pe_int) (fun _ _ => rfl)) pe_int (fun _ _ => rfl)) (pe_ix ix_tup (pv 4) pe_int (fun _ _ => rfl))) (pa_cons (pe_op op_add (pe_ix ix_tup (pe_ix ix_list (pv 2) (pe_un un_neg pe_int) (fun _ _ => rfl)) pe_int (fun _ _ => rfl)) (pe_ix ix_tup (pv 4) pe_int (fun _ _ => rfl))) pa_nil))) pa_nil))))))
      (pss_one (ps_ret (pv 2))))), ?_⟩
    have hrt : H ra = some (.tup (l.map fun j => V.int (j : Nat))) := hrt
    refine ⟨le_line (n := 2) (by decide), fun k0 nk0 => ⟨le_line (n := 1) (by decide), fun Dl nD => ?_⟩⟩
    have s0 : Same H (upd (upd H k0 (.tup [.int 0, .int 0])) Dl (.lst [.ref k0])) := (same_new nk0).trans (same_new nD)
    have nDH : H Dl = none := (same_new (o := HO.tup [.int 0, .int 0]) nk0).free nD
    have hb0 : BdsAt (upd (upd H k0 (.tup [.int 0, .int 0])) Dl (.lst [.ref k0])) Dl [(0, 0)] := ⟨[k0], upd_same, rfl, fun i b e => by
      cases i with
      | zero => cases e; exact ⟨k0, rfl, same_new nD _ _ upd_same⟩
      | succ i => cases e⟩
    refine ⟨_, rfl, ra, rfl, ⟨_, SqT.of (s0 _ _ hrt)⟩, for_tup (fun i σ H' => ∃ v3 v4 ti si, σ = [some (.ref pa), some (.ref ra), some (.ref Dl), v3, v4] ∧ Mid es g0 0 (0, 0) t s l i ti si ∧ Same H H' ∧ BdsAt H' Dl ((0, 0) :: bds es 0 0 (l.take i)))
        ⟨none, none, 0, (0, 0), rfl, Mid.zero hw, s0, hb0⟩ (fun i σ H' _ ⟨_, _, _, _, _, _, s2, _⟩ => SqT.of (s2 _ _ hrt)) ?_ ?_⟩
    · rintro i x σ H' hx ⟨v3, v4, ti, si, rfl, hmid, s2, hbd⟩
      obtain ⟨j, hj, rfl⟩ := of_map_get hx
      obtain ⟨e, he, hb, hmid2⟩ := hmid.next hj
      have hl := (List.getElem?_eq_some_iff.mp hj).1
      obtain ⟨ea, h1, h2⟩ := (hpa.same s2).ex
      obtain ⟨as, a1, a2, a3⟩ := h2.ex
      obtain ⟨x, x1, x2⟩ := a3 j e he
      have x2 : H' x = some (.tup [.int (e.b : Nat), .int (e.a : Nat), .int (e.t : Nat), .int e.p]) := x2
      obtain ⟨bs, b1, b2, b3⟩ := hbd.ex
      have hlast : ((0, 0) :: bds es 0 0 (l.take i))[i]? = some (ti, si.2) := by
        obtain ⟨c1, c2, w1, w2⟩ := hmid.ex
        have := bds_last w1
        rw [List.length_take, Nat.min_eq_left (by omega)] at this
        exact this
      obtain ⟨y, y1, y2⟩ := b3 i _ hlast
      have y2 : H' y = some (.tup [.int (ti : Nat), .int si.2]) := y2
      have hbl : bs.length = i + 1 := by
        rw [b2, List.length_cons]
        have := hmid.bl
        rw [List.length_take] at this
        show (bds es 0 ((0, 0) : Sta).2 (l.take i)).length + 1 = i + 1
        omega
      refine ⟨_, rfl, pa, _, 1, .ref ea, rfl, rfl, SqT.of h1, atI_nat (j := 1) rfl, _, rfl, ea, _, (j : Int), .ref x, rfl, rfl, SqT.of a1, at_of rfl (map_get x1), ?_⟩
      refine ⟨_, rfl, .inl ⟨rfl, _, SqL.of b1⟩, _, rfl, 1, rfl, Dl, _, _, .ref y, rfl, rfl, SqL.of b1, last_at hbl y1, y, _, 0, .int (ti : Nat), rfl, rfl, SqT.of y2, atI_nat (j := 0) rfl, _, rfl, x, _, 2, .int (e.t : Nat), rfl, rfl, SqT.of x2, atI_nat (j := 2) rfl, (ti : Int), (e.t : Int), rfl, rfl, ?_⟩
      refine ⟨_, rfl, 1, rfl, Dl, _, _, .ref y, rfl, rfl, SqL.of b1, last_at hbl y1, y, _, 1, .int si.2, rfl, rfl, SqT.of y2, atI_nat (j := 1) rfl, _, rfl, x, _, 3, .int e.p, rfl, rfl, SqT.of x2, atI_nat (j := 3) rfl, si.2, e.p, rfl, rfl, le_line (n := 2) (by decide), fun k nk => ?_⟩
      refine ⟨Dl, bs.map V.ref, _, rfl, rfl, same_new nk _ _ b1, lt_line (by rw [List.length_map]; omega), _, _, ti + e.t, (e.a, si.2 + e.p), rfl, hmid2, fun b o eb => ?_, ?_⟩
      · rw [upd_ne (ne_of_none eb nDH), upd_ne (ne_of_none (s2 _ _ eb) nk)]
        exact s2 _ _ eb
      · have hbb : bds es 0 0 (l.take (i + 1)) = bds es 0 0 (l.take i) ++ [(ti + e.t, si.2 + e.p)] := hmid.bds hj he
        rw [hbb, ← List.cons_append]
        exact hbd.push b1 nk
    · rintro σ H' ⟨v3, v4, ti, si, rfl, hmid, s2, hbd⟩
      rw [List.length_map, List.take_length] at hbd
      exact ⟨_, rfl, q H' Dl s2 hbd⟩
abbrev n__law_two_boards : List Str := ["_law_pot_here", "_law_parts_here", "_law_most", "_law_shown", "_law_number", "_law_event", "_law_at", "_law_first", "_law_last", "_law_kind"]
theorem sc__law_two_boards : FnScope n__law_two_boards ["_law_pot_here", "_law_parts_here", "_law_most"] (defScope s__law_two_boards) := ⟨rfl, rfl, rfl, by decide +kernel, rfl, by decide +kernel, by decide +kernel⟩
theorem ok__law_two_boards (D : Df K mg "_law_two_boards" s__law_two_boards) (T : TX K mg) (g__law_draw : Fk P w K mg base 1 "_law_draw" ["_law_pot_here", "_law_many"] spDraw) (g__law_walk : Fk P w K mg base 2 "_law_walk" ["_law_pot_here", "_law_parts_here", "_law_many"] spWalk) :
    Fk P w K mg base 3 "_law_two_boards" ["_law_pot_here", "_law_parts_here", "_law_most"] spTwo := by
  refine fk_of D sc__law_two_boards (fun _ _ _ _ _ _ us hl => match us, hl with | [_, _, _], _ => rfl) (fun vs H Q E h => ?_) (fun f cdv A outer s H vs Q E hr h => ?_)
  · obtain ⟨_, _, _, _, _, _, _, _, rfl, _⟩ := h
    rfl
  · obtain ⟨p, ga, sa, pa, N, m, n, es, rfl, hP, hN, hpa, hM, hm, q⟩ := h
    refine ⟨_, (pss_cons (ps_set (i := 3) sc__law_two_boards.nd rfl (Or.inl rfl) (pe_lst (pa_cons (pe_tup (pa_cons pe_int (pa_cons pe_int pa_nil))) pa_nil)))
      (pss_cons (ps_for PassesOwn.never (by rfl) (pi_tup (pe_fk g__law_walk hr (by rfl) (pa_cons (pv 0) (pa_cons (pv 1) (pa_cons (pv 2) pa_nil))))) (pg_name (i := 4) sc__law_two_boards.nd rfl (Or.inl rfl))
       (pss_cons (ps_set (i := 5) sc__law_two_boards.nd rfl (Or.inl rfl) (pe_ix ix_tup (pe_ix ix_tup (pv 1) pe_int (fun _ _ => rfl)) (pv 4) (fun _ _ => rfl)))
       (pss_cons (ps_if (pt_cmpR op_gt (pe_op op_add (pe_ix ix_tup (pe_ix ix_list (pv 3) (pe_un un_neg pe_int) (fun _ _ => rfl)) pe_int (fun _ _ => rfl)) (pe_ix ix_tup (pv 5) pe_int (fun _ _ => rfl))) (pv 2) (nomark _)) (pss_one ps_break) pss_nil)
       (pss_one (ps_expr (pe_bm PySem.F.plainAttrs_list PySem.F.slot_list_append PySem.F.type_list_append mt_append (pv 3) (pa_cons (pe_tup (pa_cons (pe_op op_add (pe_ix ix_tup (pe_ix ix_list (pv 3) (pe_un un_neg pe_int) (fun _ _ => rfl)) pe_int (fun _ _ => rfl)) (pe_ix ix_tup (pv 5) pe_int (fun _ _ => rfl))) (pa_cons (pe_op op_add (pe_ix ix_tup (pe_ix ix_list (pv 3) (pe_un un_neg pe_int) (fun _ _ => rfl)) pe_int (fun _ _ => rfl)) (pe_ix ix_tup (pv 5) pe_int (fun _ _ => rfl))) pa_nil))) pa_nil)))))))
      (pss_cons (ps_set (i := 6) sc__law_two_boards.nd rfl (Or.inl rfl) (pe_fk g__law_draw hr (by rfl) (pa_cons (pv 0) (pa_cons (pe_op op_fdivW (pe_op op_add (pe_callB call_len_seq (by rfl) T.len (by decide +kernel) (pa_cons (pv 3) pa_nil)) pe_int) pe_int) pa_nil))))
      (pss_cons (ps_par (i := 7) (j := 8) (by rfl) sc__law_two_boards.nd rfl rfl (by decide) rfl rfl (pa_cons (pe_ix ix_list (pv 3) (pv 6) (fun _ _ => rfl)) (pa_cons (pe_ix ix_list (pv 3) (pe_op op_sub (pe_op op_sub (pe_callB call_len_seq (by rfl) T.len (by decide +kernel) (pa_cons (pv 3) pa_nil)) pe_int) (pe_fk g__law_draw hr (by rfl) (pa_cons (pv 0) (pa_cons (pe_op op_fdivW (pe_op op_add (pe_callB call_len_seq (by rfl) T.len (by decide +kernel) (pa_cons (pv 3) pa_nil)) pe_int) pe_int) pa_nil)))) (fun _ _ => rfl)) pa_nil)) (by rfl))
      (pss_cons (ps_if (pt_cmpR op_le (pe_ix ix_tup (pv 8) pe_int (fun _ _ => rfl)) (pe_ix ix_tup (pv 7) pe_int (fun _ _ => rfl)) (nomark _)) (pss_one (ps_set (i := 8) sc__law_two_boards.nd rfl (Or.inl rfl) (pe_tup (pa_cons (pe_op op_add (pe_ix ix_tup (pv 7) pe_int (fun _ _ => rfl)) pe_int) (pa_cons (pe_op op_sub (pe_op op_add (pe_ix ix_tup (pv 7) pe_int (fun _ _ => rfl)) (pe_fk g__law_draw hr (by rfl) (pa_cons (pv 0) (pa_cons pe_int pa_nil)))) pe_int) pa_nil))))) pss_nil)
      (pss_cons (ps_set (i := 9) sc__law_two_boards.nd rfl (Or.inl rfl) (pe_fk g__law_draw hr (by rfl) (pa_cons (pv 0) (pa_cons pe_int pa_nil))))
      (pss_cons (ps_if (pt_cmpR op_eqI (pv 9) pe_int (nomark _)) (pss_one (ps_set (i := 8) sc__law_two_boards.nd rfl (Or.inl rfl) (pe_tup (pa_cons (pe_ix ix_tup (pv 8) pe_int (fun _ _ => rfl)) (pa_cons (pe_op op_add (pe_ix ix_tup (pv 8) pe_int (fun _ _ => rfl)) pe_int) pa_nil))))) pss_nil)
      (pss_cons (ps_if (PW.pt (pw_and (pt_cmpR op_eqI (pv 9) pe_int (nomark _)) (pw_and1 (pt_cmpR op_gt (pe_ix ix_tup (pv 7) pe_int (fun _ _ => rfl)) pe_int (nomark _))))) (pss_one (ps_set (i := 7) sc__law_two_boards.nd rfl (Or.inl rfl) (pe_tup (pa_cons (pe_ix ix_tup (pv 7) pe_int (fun _ _ => rfl)) (pa_cons (pe_op op_sub (pe_ix ix_tup (pv 7) pe_int (fun _ _ => rfl)) pe_int) pa_nil))))) pss_nil)
      (pss_one (ps_ret (pe_tup (pa_cons (pv 7) (pa_cons (pv 8) pa_nil))))))))))))), ?_⟩
    refine ⟨le_line (n := 2) (by decide), fun k0 nk0 => ⟨le_line (n := 1) (by decide), fun Dl nD => ?_⟩⟩
    have s0 : Same H (upd (upd H k0 (.tup [.int 0, .int 0])) Dl (.lst [.ref k0])) := (same_new nk0).trans (same_new nD)
    have nDH : H Dl = none := (same_new (o := HO.tup [.int 0, .int 0]) nk0).free nD
    obtain ⟨nDp, nDg⟩ := hP.nn nDH
    have nDs := hP.nns nDH
    have hb0 : BdsAt (upd (upd H k0 (.tup [.int 0, .int 0])) Dl (.lst [.ref k0])) Dl [(0, 0)] := ⟨[k0], upd_same, rfl, fun i b e => by
      cases i with
      | zero => cases e; exact ⟨k0, rfl, same_new nD _ _ upd_same⟩
      | succ i => cases e⟩
    refine ⟨_, rfl, _, rfl, _, rfl, p, ga, sa, pa, N, m, n, es, rfl, hP.same s0, by omega, hpa.same s0, hM, by omega, fun H1 ra l t s c k1 P1 hrt hw hll => ?_⟩
    have hb1 := hb0.kp k1 (hP.same s0) nDp nDg
    have k01 : KP p ga H H1 := (KP.of s0).trans k1
    have hrt : H1 ra = some (.tup (l.map fun j => V.int (j : Nat))) := hrt
    refine ⟨ra, rfl, ⟨_, SqT.of hrt⟩, ?_⟩
    apply via (fun σ H' => ∃ v4 v5 bs, σ = [some (.ref p), some (.ref pa), some (.int (m : Nat)), some (.ref Dl), v4, v5, none, none, none, none] ∧ KP p ga H H' ∧ PotAt H' p ga sa (N + m) ∧ BdsAt H' Dl bs ∧ 1 ≤ bs.length ∧ bs.length ≤ 1001 ∧ ∀ b ∈ bs, b.1 ≤ m ∧ -(4 * (b.1 : Int)) ≤ b.2 ∧ b.2 ≤ 4 * (b.1 : Int))
    · intro rest
      refine for_tup (fun i σ H' => ∃ v4 v5 bs, σ = [some (.ref p), some (.ref pa), some (.int (m : Nat)), some (.ref Dl), v4, v5, none, none, none, none] ∧ KP p ga H H' ∧ PotAt H' p ga sa (N + m) ∧ TupK H1 H' ∧ BdsAt H' Dl bs ∧ bs.length = i + 1 ∧ ∀ b ∈ bs, b.1 ≤ m ∧ -(4 * (b.1 : Int)) ≤ b.2 ∧ b.2 ≤ 4 * (b.1 : Int))
        ⟨_, _, [(0, 0)], rfl, k01, P1, fun _ _ h => h, hb1, rfl, fun b hb => by rw [List.mem_singleton.mp hb]; exact ⟨Nat.zero_le _, by decide, by decide⟩⟩ (fun i σ H' _ ⟨_, _, _, _, _, _, z, _⟩ => SqT.of (z _ _ hrt)) ?_ ?_
      · rintro i x σ H' hx ⟨v4, v5, bs, rfl, k2, P2, tk2, hbd, hbl, hbb⟩
        obtain ⟨j, hj, rfl⟩ := of_map_get hx
        have hjl := (List.getElem?_eq_some_iff.mp hj).1
        have hje := hw.evs j (List.mem_of_getElem? hj)
        obtain ⟨e, he⟩ : ∃ e, es[j]? = some e := ⟨es[j], List.getElem?_eq_getElem hje⟩
        have hev := hM.at he
        obtain ⟨ea, h1, h2⟩ := (hpa.kp k01 hP).ex
        obtain ⟨as, a1, a2, a3⟩ := h2.ex
        obtain ⟨x, x1, x2⟩ := a3 j e he
        have x2 : H' x = some (.tup [.int (e.b : Nat), .int (e.a : Nat), .int (e.t : Nat), .int e.p]) := tk2 _ _ x2
        obtain ⟨cs, b1, b2, b3⟩ := hbd.ex
        obtain ⟨b, hb⟩ : ∃ b, bs[i]? = some b := ⟨bs[i]'(by omega), List.getElem?_eq_getElem (by omega)⟩
        obtain ⟨bt, bx⟩ := b
        obtain ⟨y, y1, y2⟩ := b3 i _ hb
        have y2 : H' y = some (.tup [.int (bt : Nat), .int bx]) := y2
        have hbi := hbb _ (List.mem_of_getElem? hb)
        dsimp only at hbi
        have hcl : cs.length = i + 1 := by omega
        refine ⟨_, rfl, pa, _, 1, .ref ea, rfl, rfl, SqT.of (tk2 _ _ h1), atI_nat (j := 1) rfl, _, rfl, ea, _, (j : Int), .ref x, rfl, rfl, SqT.of (tk2 _ _ a1), at_of rfl (map_get x1), ?_⟩
        refine ⟨_, rfl, 1, rfl, Dl, _, _, .ref y, rfl, rfl, SqL.of b1, last_at hcl y1, y, _, 0, .int (bt : Nat), rfl, rfl, SqT.of y2, atI_nat (j := 0) rfl, _, rfl, x, _, 2, .int (e.t : Nat), rfl, rfl, SqT.of x2, atI_nat (j := 2) rfl, (bt : Int), (e.t : Int), rfl, rfl, _, rfl, (bt : Int) + (e.t : Int), (m : Int), rfl, rfl, _, rfl, ifD (fun hgt => ?_) fun hgt => ?_⟩
        · exact rest _ _ ⟨_, _, bs, rfl, k2, P2, hbd, by omega, by omega, hbb⟩
        · refine ⟨_, rfl, .inl ⟨rfl, _, SqL.of b1⟩, _, rfl, 1, rfl, Dl, _, _, .ref y, rfl, rfl, SqL.of b1, last_at hcl y1, y, _, 0, .int (bt : Nat), rfl, rfl, SqT.of y2, atI_nat (j := 0) rfl, _, rfl, x, _, 2, .int (e.t : Nat), rfl, rfl, SqT.of x2, atI_nat (j := 2) rfl, (bt : Int), (e.t : Int), rfl, rfl, ?_⟩
          refine ⟨_, rfl, 1, rfl, Dl, _, _, .ref y, rfl, rfl, SqL.of b1, last_at hcl y1, y, _, 1, .int bx, rfl, rfl, SqT.of y2, atI_nat (j := 1) rfl, _, rfl, x, _, 3, .int e.p, rfl, rfl, SqT.of x2, atI_nat (j := 3) rfl, bx, e.p, rfl, rfl, le_line (n := 2) (by decide), fun k nk => ?_⟩
          have sk : Same H' (upd H' k (.tup [.int ((bt : Int) + (e.t : Int)), .int (bx + e.p)])) := same_new nk
          refine ⟨Dl, cs.map V.ref, _, rfl, rfl, sk _ _ b1, lt_line (by rw [List.length_map]; omega), _, _, bs ++ [(bt + e.t, bx + e.p)], rfl, fun b o eb n1 n2 => ?_, (P2.same sk).up nDp nDg nDs, (tk2.trans (.of sk)).trans (TupK.upd (sk _ _ b1) (by intro xs z; cases z)), hbd.push b1 nk, by rw [List.length_append, hbl]; rfl, fun b hb => ?_⟩
          · rw [upd_ne (ne_of_none eb nDH), upd_ne (ne_of_none (k2 _ _ eb n1 n2) nk)]
            exact k2 _ _ eb n1 n2
          · rcases List.mem_append.mp hb with h | h
            · exact hbb b h
            · rw [List.mem_singleton.mp h]
              exact ⟨by show bt + e.t ≤ m; omega, by show -(4 * ((bt + e.t : Nat) : Int)) ≤ bx + e.p; omega, by show bx + e.p ≤ 4 * ((bt + e.t : Nat) : Int); omega⟩
      · rintro σ H' ⟨v4, v5, bs, rfl, k2, P2, tk2, hbd, hbl, hbb⟩
        rw [List.length_map] at hbl
        exact rest _ _ ⟨_, _, bs, rfl, k2, P2, hbd, by omega, by omega, hbb⟩
    · rintro σ H2 ⟨v4, v5, bs, rfl, k2, P2, hbd, hb1l, hbl, hbb⟩
      have nHDl : ∀ {H' : Hp}, KP p ga H2 H' → BdsAt H' Dl bs := fun k => hbd.kp k P2 nDp nDg
      obtain ⟨cs, b1, b2, b3⟩ := hbd.ex
      have hd : (0 : Int) < (((bs.length : Nat) : Int) + 1) / 2 := by omega
      refine ⟨_, rfl, _, rfl, Dl, _, rfl, .inl (SqL.of b1), (bs.length : Int), 1, by rw [List.length_map, b2], rfl, (bs.length : Int) + 1, 2, rfl, rfl, cdiv_small (by decide) (by decide), p, ga, sa, N + m, ((bs.length : Int) + 1) / 2, rfl, P2, by omega, by omega, by omega, fun H3 r3 k3 P3 hr3 => ?_⟩
      obtain ⟨c3, d1, d2, d3⟩ := (nHDl k3).ex
      obtain ⟨f, hf⟩ : ∃ f, bs[r3]? = some f := ⟨bs[r3]'(by omega), List.getElem?_eq_getElem (by omega)⟩
      obtain ⟨fa, f1, f2⟩ := d3 r3 f hf
      refine ⟨_, rfl, _, rfl, Dl, _, (r3 : Int), .ref fa, rfl, rfl, SqL.of d1, at_of rfl (map_get f1), _, rfl, _, rfl, Dl, _, rfl, .inl (SqL.of d1), (bs.length : Int), 1, by rw [List.length_map, d2], rfl, ?_⟩
      refine ⟨_, rfl, _, rfl, Dl, _, rfl, .inl (SqL.of d1), (bs.length : Int), 1, by rw [List.length_map, d2], rfl, (bs.length : Int) + 1, 2, rfl, rfl, cdiv_small (by decide) (by decide), p, ga, sa, N + m + 1, ((bs.length : Int) + 1) / 2, rfl, P3, by omega, by omega, by omega, fun H4 r4 k4 P4 hr4 => ?_⟩
      obtain ⟨c4, e1, e2, e3⟩ := (nHDl (k3.trans k4)).ex
      obtain ⟨l, hl⟩ : ∃ l, bs[bs.length - 1 - r4]? = some l := ⟨bs[bs.length - 1 - r4]'(by omega), List.getElem?_eq_getElem (by omega)⟩
      obtain ⟨la, l1, l2⟩ := e3 _ l hl
      have f4 : Tp2 H4 fa (f.1 : Nat) f.2 := k4.tup P3 f2
      obtain ⟨ft, fx⟩ := f
      obtain ⟨lt, lx⟩ := l
      have hfb := hbb _ (List.mem_of_getElem? hf)
      have hlb := hbb _ (List.mem_of_getElem? hl)
      dsimp only at hfb hlb
      refine ⟨(bs.length : Int) - 1, (r4 : Int), rfl, rfl, Dl, _, (bs.length : Int) - 1 - (r4 : Int), .ref la, rfl, rfl, SqL.of e1, at_of (j := bs.length - 1 - r4) (by omega) (map_get l1), _, _, rfl, ?_⟩
      have k04 : KP p ga H H4 := (k2.trans k3).trans k4
      have f4' : H4 fa = some (.tup [.int (ft : Nat), .int fx]) := f4
      have l4' : H4 la = some (.tup [.int (lt : Nat), .int lx]) := l2
      apply via (fun σ H' => ∃ (la : Addr) (l : Nat × Int), σ = [some (.ref p), some (.ref pa), some (.int (m : Nat)), some (.ref Dl), v4, v5, some (.int (r3 : Nat)), some (.ref fa), some (.ref la), none] ∧ KP p ga H H' ∧ PotAt H' p ga sa (N + m + 3) ∧ Tp2 H' fa (ft : Nat) fx ∧ Tp2 H' la (l.1 : Nat) l.2 ∧ ft < l.1 ∧ l.1 ≤ 300 ∧ -1300 ≤ l.2 ∧ l.2 ≤ 1300)
      · intro rest
        refine ⟨_, rfl, la, _, 0, .int (lt : Nat), rfl, rfl, SqT.of l4', atI_nat (j := 0) rfl, _, rfl, fa, _, 0, .int (ft : Nat), rfl, rfl, SqT.of f4', atI_nat (j := 0) rfl, (lt : Int), (ft : Int), rfl, rfl, _, rfl, ifD (fun hle => ?_) fun hle => ?_⟩
        rotate_left
        · exact rest _ _ ⟨la, (lt, lx), rfl, k04, P4.more (by omega), f4, l2, by show ft < lt; omega, by show lt ≤ 300; omega, by show -1300 ≤ lx; omega, by show lx ≤ 1300; omega⟩
        · refine ⟨_, rfl, fa, _, 0, .int (ft : Nat), rfl, rfl, SqT.of f4', atI_nat (j := 0) rfl, (ft : Int), 1, rfl, rfl, _, rfl, fa, _, 1, .int fx, rfl, rfl, SqT.of f4', atI_nat (j := 1) rfl, _, rfl, p, ga, sa, N + m + 1 + 1, 9, rfl, P4, by omega, by decide, by decide, fun H5 r5 k5 P5 hr5 => ?_⟩
          refine ⟨fx, (r5 : Int), rfl, rfl, fx + (r5 : Int), 4, rfl, rfl, le_line (n := 2) (by decide), fun k nk => ?_⟩
          have sk : Same H5 (upd H5 k (.tup [.int ((ft : Int) + 1), .int (fx + (r5 : Int) - 4)])) := same_new nk
          exact rest _ _ ⟨k, (ft + 1, fx + (r5 : Int) - 4), rfl, (k04.trans k5).trans (.of sk), P5.same sk, sk _ _ (k5.tup P4 f4'), upd_same, by show ft < ft + 1; omega, by show ft + 1 ≤ 300; omega, by show -1300 ≤ fx + (r5 : Int) - 4; omega, by show fx + (r5 : Int) - 4 ≤ 1300; omega⟩
      · rintro σ H5 ⟨la, ⟨lt, lx⟩, rfl, k5, P5, f5, l5, q1, q2, q3, q4⟩
        dsimp only at l5 q1 q2 q3 q4
        refine ⟨_, rfl, p, ga, sa, N + m + 3, 12, rfl, P5, by omega, by decide, by decide, fun H6 r6 k6 P6 hr6 => ?_⟩
        have f6 : H6 fa = some (.tup [.int (ft : Nat), .int fx]) := k6.tup P5 f5
        have l6 : H6 la = some (.tup [.int (lt : Nat), .int lx]) := k6.tup P5 l5
        have k06 := k5.trans k6
        apply via (fun σ H' => ∃ (la : Addr) (l : Nat × Int), σ = [some (.ref p), some (.ref pa), some (.int (m : Nat)), some (.ref Dl), v4, v5, some (.int (r3 : Nat)), some (.ref fa), some (.ref la), some (.int (r6 : Nat))] ∧ KP p ga H H' ∧ PotAt H' p ga sa (N + m + 4) ∧ Tp2 H' fa (ft : Nat) fx ∧ Tp2 H' la (l.1 : Nat) l.2 ∧ ft < l.1 ∧ l.1 ≤ 300 ∧ -1301 ≤ l.2 ∧ l.2 ≤ 1301)
        · intro rest
          refine ⟨_, rfl, (r6 : Int), 0, rfl, rfl, _, rfl, ifD (fun h0 => ?_) fun h0 => ?_⟩
          rotate_left
          · exact rest _ _ ⟨la, (lt, lx), rfl, k06, P6, f6, l6, q1, q2, by show -1301 ≤ lx; omega, by show lx ≤ 1301; omega⟩
          · refine ⟨_, rfl, la, _, 0, .int (lt : Nat), rfl, rfl, SqT.of l6, atI_nat (j := 0) rfl, _, rfl, la, _, 1, .int lx, rfl, rfl, SqT.of l6, atI_nat (j := 1) rfl, lx, 1, rfl, rfl, le_line (n := 2) (by decide), fun k nk => ?_⟩
            have sk : Same H6 (upd H6 k (.tup [.int (lt : Nat), .int (lx + 1)])) := same_new nk
            exact rest _ _ ⟨k, (lt, lx + 1), rfl, k06.trans (.of sk), P6.same sk, sk _ _ f6, upd_same, q1, q2, by show -1301 ≤ lx + 1; omega, by show lx + 1 ≤ 1301; omega⟩
        · rintro σ H7 ⟨la, ⟨lt, lx⟩, rfl, k7, P7, f7, l7, w1, w2, w3, w4⟩
          dsimp only at l7 w1 w2 w3 w4
          have f7' : H7 fa = some (.tup [.int (ft : Nat), .int fx]) := f7
          have fin : ∀ (H8 : Hp) (fb : Addr) (f : Nat × Int), KP p ga H H8 → PotAt H8 p ga sa (N + m + 4) → Tp2 H8 fb (f.1 : Nat) f.2 → Tp2 H8 la (lt : Nat) lx → f.1 < lt → -1400 ≤ f.2 → f.2 ≤ 1400 → (0 < f.1 ∨ f.2 = 0) → ∀ k, H8 k = none → Q (.ref k) (upd H8 k (.tup [.ref fb, .ref la])) := fun H8 fb f k8 P8 hf hl g1 g2 g3 g4 k nk => by
            have sk : Same H8 (upd H8 k (.tup [.ref fb, .ref la])) := same_new nk
            exact q _ k fb la f (lt, lx) (k8.trans (.of sk)) ((P8.same sk).more (by omega)) upd_same (sk _ _ hf) (sk _ _ hl) g1 w2 g2 g3 (by show -1400 ≤ lx; omega) (by show lx ≤ 1400; omega) g4
          refine ⟨_, rfl, (r6 : Int), 1, rfl, rfl, _, rfl, ifD (fun h1 => ?_) fun h1 => ?_⟩
          · refine ⟨_, rfl, fa, _, 0, .int (ft : Nat), rfl, rfl, SqT.of f7', atI_nat (j := 0) rfl, (ft : Int), 0, rfl, rfl, _, rfl, ifD (fun hf0 => ?_) fun hf0 => ?_⟩
            · refine ⟨_, rfl, fa, _, 0, .int (ft : Nat), rfl, rfl, SqT.of f7', atI_nat (j := 0) rfl, _, rfl, fa, _, 1, .int fx, rfl, rfl, SqT.of f7', atI_nat (j := 1) rfl, fx, 1, rfl, rfl, le_line (n := 2) (by decide), fun k nk => ?_⟩
              have sk : Same H7 (upd H7 k (.tup [.int (ft : Nat), .int (fx - 1)])) := same_new nk
              exact ⟨_, rfl, _, rfl, le_line (n := 2) (by decide), fun kq nkq => fin _ k (ft, fx - 1) (k7.trans (.of sk)) (P7.same sk) upd_same (sk _ _ l7) w1 (by show -1400 ≤ fx - 1; omega) (by show fx - 1 ≤ 1400; omega) (.inl (by show 0 < ft; omega)) kq nkq⟩
            · exact ⟨_, rfl, _, rfl, le_line (n := 2) (by decide), fun kq nkq => fin _ fa (ft, fx) k7 P7 f7 l7 w1 (by show -1400 ≤ fx; omega) (by show fx ≤ 1400; omega) (by show 0 < ft ∨ fx = 0; omega) kq nkq⟩
          · exact ⟨_, rfl, _, rfl, le_line (n := 2) (by decide), fun kq nkq => fin _ fa (ft, fx) k7 P7 f7 l7 w1 (by show -1400 ≤ fx; omega) (by show fx ≤ 1400; omega) (by show 0 < ft ∨ fx = 0; omega) kq nkq⟩
end
end Nl
namespace Nl
open PySem PySem.Spec PyProof.Rows L2 LamX NdefX
/-! ### the law's layers: dicts of dicts -/
structure CSet (H : Hp) (a : Addr) (P : Int → Prop) : Prop where
  ex : ∃ ks : List (L2.Key × V), H a = some (.dK ks) ∧ (ks.map (·.1)).Nodup ∧ (∀ q ∈ ks.map (·.1), ∃ n : Nat, q = .inl (n : Int) ∧ n ≤ 400) ∧ ∀ n : Int, P n ↔ valV ks (.inl n) ≠ none
def kn : L2.Key → Nat
  | .inl n => n.toNat
  | _ => 0
theorem cset_len {ks : List (L2.Key × V)} (h1 : (ks.map (·.1)).Nodup) (h2 : ∀ q ∈ ks.map (·.1), ∃ n : Nat, q = .inl (n : Int) ∧ n ≤ 400) : ks.length ≤ 401 := by
  have h := nd_le 401 ((ks.map (·.1)).map kn) ?_ ?_
  · rw [List.length_map, List.length_map] at h
    exact h
  · refine List.pairwise_map.mpr (List.Pairwise.imp_of_mem (fun {a c} ha hc hne e => ?_) h1)
    obtain ⟨n, rfl, z1⟩ := h2 _ ha
    obtain ⟨n', rfl, z2⟩ := h2 _ hc
    refine hne ?_
    have e : ((n : Int)).toNat = ((n' : Int)).toNat := e
    have : n = n' := by omega
    rw [this]
  · intro x hx
    obtain ⟨k, hk, rfl⟩ := List.mem_map.mp hx
    obtain ⟨n, rfl, z1⟩ := h2 _ hk
    show ((n : Int)).toNat < _
    omega
theorem CSet.keep {H H' : Hp} {a : Addr} {P : Int → Prop} (h : CSet H a P) (e : H' a = H a) : CSet H' a P := by
  obtain ⟨ks, h1, r⟩ := h.ex
  exact ⟨ks, e.trans h1, r⟩
theorem CSet.same {H H' : Hp} {a : Addr} {P : Int → Prop} (h : CSet H a P) (s : Same H H') : CSet H' a P := by
  obtain ⟨ks, h1, r⟩ := h.ex
  exact ⟨ks, s _ _ h1, r⟩
theorem CSet.some {H : Hp} {a : Addr} {P : Int → Prop} (h : CSet H a P) : ∃ ks, H a = Option.some (.dK ks) := by
  obtain ⟨ks, h1, r⟩ := h.ex
  exact ⟨ks, h1⟩
theorem keys_inl : ∀ ks : List (L2.Key × V), (∀ q ∈ ks.map (·.1), ∃ n : Nat, q = .inl (n : Int) ∧ n ≤ 400) → ∃ xs : List Int, ks.map (·.1) = xs.map Sum.inl
  | [], _ => ⟨[], rfl⟩
  | p :: r, h => by
    obtain ⟨xs, hx⟩ := keys_inl r fun q hq => h q (List.mem_cons.mpr (.inr hq))
    obtain ⟨n, hn, _⟩ := h p.1 (List.mem_cons_self ..)
    exact ⟨(n : Int) :: xs, by rw [List.map_cons, List.map_cons, hx, hn]⟩
theorem mem_inl {xs : List Int} {n : Int} : (Sum.inl n : L2.Key) ∈ xs.map Sum.inl ↔ n ∈ xs := by
  rw [List.mem_map]
  constructor
  · rintro ⟨y, h1, h2⟩
    injection h2 with h2
    rw [← h2]
    exact h1
  · intro h
    exact ⟨n, h, rfl⟩
theorem valV_ne {κ : Type} [DecidableEq κ] {ks : List (κ × V)} {k : κ} : valV ks k ≠ none ↔ k ∈ ks.map (·.1) := by
  constructor
  · intro h
    cases e : valV ks k with
    | none => exact absurd e h
    | some v =>
      obtain ⟨i, hi⟩ := valV_get e
      exact List.mem_map.mpr ⟨_, List.mem_of_getElem? hi, rfl⟩
  · intro h e
    exact valV_not e h
/-- one more count -/
theorem CSet.put {H : Hp} {a : Addr} {P : Int → Prop} (h : CSet H a P) {ks : List (L2.Key × V)} (e : H a = Option.some (.dK ks)) {n : Nat} (hn : n ≤ 400) (v : V) : CSet (upd H a (.dK (putK ks (.inl (n : Int)) v))) a fun y => P y ∨ y = (n : Int) := by
  obtain ⟨ks', h1, h2, h3, h4⟩ := h.ex
  rw [e] at h1
  injection h1 with h1
  injection h1 with h1
  subst h1
  refine ⟨_, upd_same, ?_, fun q hq => ?_, fun y => ?_⟩
  · cases ev : valV ks (.inl (n : Int)) with
    | none => exact nd_putK v h2 ev
    | some v0 => rw [keys_putK_old ev]; exact h2
  · cases ev : valV ks (.inl (n : Int)) with
    | none =>
      rw [putK_new v ev, List.map_append] at hq
      rcases List.mem_append.mp hq with z | z
      · exact h3 q z
      · exact ⟨n, List.mem_singleton.mp z, hn⟩
    | some v0 =>
      rw [keys_putK_old ev] at hq
      exact h3 q hq
  · rw [valV_put, h4]
    by_cases z : y = (n : Int)
    · subst z
      rw [if_pos rfl]
      simp
    · rw [if_neg (fun w => z (Sum.inl.inj w))]
      constructor
      · rintro (w | w)
        · exact w
        · exact absurd w z
      · exact fun w => .inl w
def FLayV (kvs : List (List L2.Key × V)) (A : Sta → Option Addr) : Prop := ∀ s, (A s = none → valV kvs (kS s) = none) ∧ ∀ a, A s = some a → valV kvs (kS s) = some (.ref a)
structure FLay (H : Hp) (d : Addr) (A : Sta → Option Addr) : Prop where
  ex : ∃ kvs, H d = some (.dT kvs) ∧ Box kvs ∧ FLayV kvs A
theorem FLayV.at {kvs : List (List L2.Key × V)} {A : Sta → Option Addr} (h : FLayV kvs A) (b : Box kvs) {i : Nat} {q : List L2.Key × V} (e : kvs[i]? = some q) : ∃ s a, q = (kS s, .ref a) ∧ A s = some a ∧ BoxS s := by
  have hm := List.mem_of_getElem? e
  obtain ⟨s, h1, h2⟩ := b.bx q.1 (List.mem_map.mpr ⟨q, hm, rfl⟩)
  have hv := valV_mem b.nd q hm
  rw [h1] at hv
  cases eA : A s with
  | none =>
    rw [(h s).1 eA] at hv
    cases hv
  | some a =>
    have k1 := (h s).2 a eA
    rw [k1] at hv
    exact ⟨s, a, Prod.ext h1 (Option.some.inj hv).symm, eA, h2⟩
theorem FLayV.ix {kvs : List (List L2.Key × V)} {A : Sta → Option Addr} (h : FLayV kvs A) {s : Sta} {a : Addr} (e : A s = some a) : ∃ i : Nat, kvs[i]? = some (kS s, .ref a) := valV_get ((h s).2 a e)
theorem FLayV.put {kvs : List (List L2.Key × V)} {A : Sta → Option Addr} (h : FLayV kvs A) (s : Sta) (a : Addr) : FLayV (putK kvs (kS s) (.ref a)) (fun s2 => if s2 = s then some a else A s2) := fun s2 => by
  rw [valV_put]
  by_cases e : s2 = s
  · rw [if_pos (by rw [e])]
    refine ⟨fun z => ?_, fun b z => ?_⟩
    · simp only [if_pos e] at z
      cases z
    · simp only [if_pos e] at z
      cases z
      rfl
  · rw [if_neg (fun z => e (kS_inj z))]
    simp only [if_neg e]
    exact h s2
structure FlowAt (H : Hp) (p : Addr) (ds : List Addr) (A : Nat → Sta → Option Addr) (C : Nat → Sta → Option (Int → Prop)) : Prop where
  at_ : H p = some (.lst (ds.map V.ref))
  nd : ds.Nodup
  lay : ∀ k d, ds[k]? = some d → FLay H d (A k)
  inj : ∀ k s k' s' a, A k s = some a → A k' s' = some a → k = k' ∧ s = s'
  set : ∀ k s a, A k s = some a → ∃ P, C k s = some P ∧ CSet H a P
  non : ∀ k s, A k s = none → C k s = none
structure FStart (H : Hp) (d : Addr) (A : Sta → Option Addr) (C : Sta → Option (Int → Prop)) : Prop where
  lay : FLay H d A
  inj : ∀ s s' a, A s = some a → A s' = some a → s = s'
  set : ∀ s a, A s = some a → ∃ P, C s = some P ∧ CSet H a P
  non : ∀ s, A s = none → C s = none
theorem FLay.same {H H' : Hp} {d : Addr} {A : Sta → Option Addr} (h : FLay H d A) (s : Same H H') : FLay H' d A := by
  obtain ⟨kvs, h1, r⟩ := h.ex
  exact ⟨kvs, s _ _ h1, r⟩
theorem FlowAt.same {H H' : Hp} {p : Addr} {ds : List Addr} {A : Nat → Sta → Option Addr} {C : Nat → Sta → Option (Int → Prop)} (h : FlowAt H p ds A C) (s : Same H H') : FlowAt H' p ds A C :=
  ⟨s _ _ h.at_, h.nd, fun k d e => (h.lay k d e).same s, h.inj, fun k q a e => by
    obtain ⟨P, h1, h2⟩ := h.set k q a e
    exact ⟨P, h1, h2.same s⟩, h.non⟩
theorem FStart.same {H H' : Hp} {d : Addr} {A : Sta → Option Addr} {C : Sta → Option (Int → Prop)} (h : FStart H d A C) (s : Same H H') : FStart H' d A C :=
  ⟨h.lay.same s, h.inj, fun q a e => by
    obtain ⟨P, h1, h2⟩ := h.set q a e
    exact ⟨P, h1, h2.same s⟩, h.non⟩
/-- an inner dict is changed -/
theorem FlowAt.inner {H : Hp} {p : Addr} {ds : List Addr} {A : Nat → Sta → Option Addr} {C : Nat → Sta → Option (Int → Prop)} (h : FlowAt H p ds A C) {k : Nat} {s : Sta} {a : Addr} (hA : A k s = some a) {ks : List (L2.Key × V)} {P : Int → Prop} (hs : CSet (upd H a (.dK ks)) a P) :
    FlowAt (upd H a (.dK ks)) p ds A (setT C k s P) := by
  obtain ⟨P0, h0, hc⟩ := h.set k s a hA
  obtain ⟨ks0, hk0⟩ := hc.some
  refine ⟨by rw [upd_ne (ne_of h.at_ hk0 (by intro z; cases z))]; exact h.at_, h.nd, fun k2 d e => ?_, h.inj, fun k2 s2 a2 e => ?_, fun k2 s2 e => ?_⟩
  · obtain ⟨kvs, h1, r⟩ := (h.lay k2 d e).ex
    exact ⟨kvs, by rw [upd_ne (ne_of h1 hk0 (by intro z; cases z))]; exact h1, r⟩
  · by_cases z : k2 = k ∧ s2 = s
    · obtain ⟨rfl, rfl⟩ := z
      rw [hA] at e
      cases e
      exact ⟨P, setT_same, hs⟩
    · obtain ⟨P2, h1, h2⟩ := h.set k2 s2 a2 e
      refine ⟨P2, by rw [setT_ne z]; exact h1, h2.keep (upd_ne fun y => z ?_)⟩
      rw [y] at e
      exact h.inj _ _ _ _ _ e hA
  · have z : ¬ (k2 = k ∧ s2 = s) := fun z => by rw [z.1, z.2, hA] at e; cases e
    rw [setT_ne z]
    exact h.non k2 s2 e
/-- a new state, its inner dict still empty -/
theorem FlowAt.new {H : Hp} {p : Addr} {ds : List Addr} {A : Nat → Sta → Option Addr} {C : Nat → Sta → Option (Int → Prop)} (h : FlowAt H p ds A C) {k : Nat} {s : Sta} {a d : Addr} (hA : A k s = none) (hd : ds[k]? = some d) {kvs : List (List L2.Key × V)} (hk : H d = some (.dT kvs))
    (ha : H a = some (.dK [])) (hr : ∀ k s, A k s ≠ some a) (hB : BoxS s) : FlowAt (upd H d (.dT (putK kvs (kS s) (.ref a)))) p ds (setT A k s a) (setT C k s fun _ => False) := by
  have nad : a ≠ d := ne_of ha hk (by intro z; cases z)
  refine ⟨by rw [upd_ne (ne_of h.at_ hk (by intro z; cases z))]; exact h.at_, h.nd, fun k2 d2 e => ?_, fun k1 s1 k2 s2 b e1 e2 => ?_, fun k2 s2 b e => ?_, fun k2 s2 e => ?_⟩
  · obtain ⟨kvs2, h1, h2, h3⟩ := (h.lay k2 d2 e).ex
    by_cases ek : k2 = k
    · subst ek
      rw [hd] at e
      cases e
      rw [hk] at h1
      injection h1 with h1
      injection h1 with h1
      subst h1
      refine ⟨_, upd_same, h2.put hB _, fun s2 => ?_⟩
      have q := h3.put s a s2
      have e2 : setT A k2 s a k2 s2 = if s2 = s then some a else A k2 s2 := by
        unfold setT
        by_cases z : s2 = s
        · rw [if_pos ⟨rfl, z⟩, if_pos z]
        · rw [if_neg (fun y => z y.2), if_neg z]
      rw [e2]
      exact q
    · refine ⟨kvs2, by rw [upd_ne (fun z => ek (nd_ix h.nd e (by rw [z]; exact hd)))]; exact h1, h2, fun s2 => ?_⟩
      rw [setT_ne (fun z => ek z.1)]
      exact h3 s2
  · by_cases z1 : k1 = k ∧ s1 = s
    · by_cases z2 : k2 = k ∧ s2 = s
      · exact ⟨z1.1.trans z2.1.symm, z1.2.trans z2.2.symm⟩
      · rw [z1.1, z1.2, setT_same] at e1
        cases e1
        rw [setT_ne z2] at e2
        exact absurd e2 (hr _ _)
    · rw [setT_ne z1] at e1
      by_cases z2 : k2 = k ∧ s2 = s
      · rw [z2.1, z2.2, setT_same] at e2
        cases e2
        exact absurd e1 (hr _ _)
      · rw [setT_ne z2] at e2
        exact h.inj _ _ _ _ _ e1 e2
  · by_cases z : k2 = k ∧ s2 = s
    · obtain ⟨rfl, rfl⟩ := z
      rw [setT_same] at e
      cases e
      refine ⟨_, setT_same, [], by rw [upd_ne nad]; exact ha, List.nodup_nil, fun q hq => (by cases hq), fun n => ⟨fun z => z.elim, fun z => z rfl⟩⟩
    · rw [setT_ne z] at e
      obtain ⟨P2, h1, h2⟩ := h.set k2 s2 b e
      obtain ⟨ks, hks⟩ := h2.some
      exact ⟨P2, by rw [setT_ne z]; exact h1, h2.keep (upd_ne (ne_of hks hk (by intro z; cases z)))⟩
  · by_cases z : k2 = k ∧ s2 = s
    · rw [z.1, z.2, setT_same] at e
      cases e
    · rw [setT_ne z] at e ⊢
      exact h.non k2 s2 e
def C0Ok (n : Nat) (C0 : Sta → Option (Int → Prop)) : Prop := ∀ s P, C0 s = some P → s.1 < n ∧ -1500 ≤ s.2 ∧ s.2 ≤ 1500 ∧ (∃ x, P x) ∧ ∀ x, P x → 0 ≤ x ∧ x ≤ 1
section
variable {es : List Ev} {g : Nat → Int → Int} {n : Nat} {bg m : Nat} {C0 : Sta → Option (Int → Prop)} {Dn : Nat → Sta → Nat → Prop} {C : Nat → Sta → Option (Int → Prop)}
theorem FInv.small (M : MOk n es) (I : FInv es g bg m C0 Dn C) (hg : ∀ t x, 0 ≤ g t x ∧ g t x ≤ 1) (h0 : C0Ok n C0) (hm : m ≤ 300) {k : Nat} {s : Sta} {P : Int → Prop} (h : C k s = some P) : k ≤ m ∧ s.1 < n ∧ -2700 ≤ s.2 ∧ s.2 ≤ 2700 ∧ (∃ x, P x) ∧ ∀ x, P x → 0 ≤ x ∧ x ≤ 301 := by
  have hk : k ≤ m := by
    rcases Nat.lt_or_ge m k with q | q
    · rw [I.top k s q] at h; cases h
    · exact q
  obtain ⟨⟨x0, hx0⟩, hs⟩ := I.sound k s P h
  have key : ∀ x, P x → s.1 < n ∧ -2700 ≤ s.2 ∧ s.2 ≤ 2700 ∧ 0 ≤ x ∧ x ≤ 301 := fun x hx => by
    obtain ⟨s0, P0, c0, r, c, e0, hc0, w, ec⟩ := hs x hx
    obtain ⟨z1, z2, z3, _, z5⟩ := h0 s0 P0 e0
    have z6 := z5 c0 hc0
    obtain ⟨b1, b2, b3⟩ := w.box M z1
    obtain ⟨c2, c3⟩ := w.cnt M hg
    exact ⟨b1, by omega, by omega, by omega, by omega⟩
  have := key x0 hx0
  exact ⟨hk, this.1, this.2.1, this.2.2.1, ⟨x0, hx0⟩, fun x hx => (key x hx).2.2.2⟩
def C1 (C0 : Sta → Option (Int → Prop)) : Nat → Sta → Option (Int → Prop) := fun k s => if k = 0 then C0 s else none
theorem FInv.init (h0 : C0Ok n C0) : FInv es g bg m C0 (fun k _ _ => k < 0) (C1 C0) := by
  refine ⟨fun s => rfl, fun k s P h => ?_, fun k s h => if_neg (by omega), fun k s j e P n h => absurd h (Nat.not_lt_zero _)⟩
  unfold C1 at h
  split at h
  · rename_i hk
    subst hk
    exact ⟨(h0 s P h).2.2.2.1, fun x hx => ⟨s, P, x, [], 0, h, hx, Way.nil, by omega⟩⟩
  · cases h
end
def spFlow : Sp := fun vs H Q _ => ∃ (pa sp sh : Addr) (n bg m : Nat) (es : List Ev) (a b : Int) (A0 : Sta → Option Addr) (C0 : Sta → Option (Int → Prop)), vs = [.ref pa, .ref sp, .int (bg : Nat), .int ((bg + m : Nat) : Int), .ref sh] ∧ PartsAt H pa n es ∧ MOk n es ∧ FStart H sp A0 C0 ∧ C0Ok n C0 ∧ Tp2 H sh a b ∧
  a.natAbs < 2 ^ 200 ∧ b.natAbs < 2 ^ 200 ∧ m ≤ 300 ∧ bg ≤ 1000 ∧
  ∀ (H' : Hp) (p : Addr) (ds : List Addr) (A : Nat → Sta → Option Addr) (C : Nat → Sta → Option (Int → Prop)), Same H H' → FlowAt H' p ds A C → ds.length = m + 1 → FInv es (gn a b) bg m C0 (fun k _ _ => k < m) C → Q (.ref p) H'
end Nl
namespace Nl
open PySem PySem.Spec PyProof.Rows L2 LamX NdefX
/-- all but dicts stays -/
def ND (H H' : Hp) : Prop := ∀ b o, H b = some o → (∀ ks, o ≠ .dK ks) → (∀ kvs, o ≠ .dT kvs) → H' b = some o
theorem ND.of {H H' : Hp} (s : Same H H') : ND H H' := fun b o h _ _ => s b o h
theorem ND.trans {H H1 H2 : Hp} (a : ND H H1) (b : ND H1 H2) : ND H H2 := fun c o h n1 n2 => b c o (a c o h n1 n2) n1 n2
theorem ND.upT {H H1 : Hp} (h : ND H H1) {d : Addr} {kvs : List (List L2.Key × V)} {o : HO} (e : H1 d = some (.dT kvs)) : ND H (upd H1 d o) := fun b x hb n1 n2 => by
  have q := h b x hb n1 n2
  rw [upd_ne (fun z => by rw [z, e] at q; exact n2 _ (Option.some.inj q).symm)]
  exact q
theorem ND.upK {H H1 : Hp} (h : ND H H1) {d : Addr} {kvs : List (L2.Key × V)} {o : HO} (e : H1 d = some (.dK kvs)) : ND H (upd H1 d o) := fun b x hb n1 n2 => by
  have q := h b x hb n1 n2
  rw [upd_ne (fun z => by rw [z, e] at q; exact n1 _ (Option.some.inj q).symm)]
  exact q
theorem ND.tup {H H' : Hp} (h : ND H H') {b : Addr} {xs : List V} (e : H b = some (.tup xs)) : H' b = some (.tup xs) := h _ _ e (by intro ks z; cases z) (by intro ks z; cases z)
theorem ND.lst {H H' : Hp} (h : ND H H') {b : Addr} {xs : List V} (e : H b = some (.lst xs)) : H' b = some (.lst xs) := h _ _ e (by intro ks z; cases z) (by intro ks z; cases z)
theorem setT_setT {α : Type} {T : Nat → Sta → Option α} {k : Nat} {s : Sta} {v w : α} : setT (setT T k s v) k s w = setT T k s w := by
  funext k2 s2
  unfold setT
  by_cases z : k2 = k ∧ s2 = s
  · rw [if_pos z, if_pos z]
  · rw [if_neg z, if_neg z, if_neg z]
theorem setT_id {α : Type} {T : Nat → Sta → Option α} {k : Nat} {s : Sta} {v : α} (h : T k s = some v) : setT T k s v = T := by
  funext k2 s2
  unfold setT
  by_cases z : k2 = k ∧ s2 = s
  · rw [if_pos z, z.1, z.2, h]
  · rw [if_neg z]
theorem gn_more {a b : Int} {t : Nat} {x : Int} (ht : 0 < t) : (if decide (b * x = a * ((t : Nat) : Int)) = true then (1 : Int) else 0) = gn a b t x := by
  unfold gn
  by_cases h : b * x = a * ((t : Nat) : Int)
  · rw [decide_eq_true h, if_pos rfl, if_pos ⟨ht, by rw [Int.mul_comm x, Int.mul_comm (t : Int)]; exact h⟩]
  · rw [decide_eq_false h, if_neg (by decide), if_neg (fun z => h (by rw [Int.mul_comm b, Int.mul_comm a]; exact z.2))]
section
variable {P : Program} {w : World} {K : PySem.W.Frag} {mg : Str → Option Value} {base : Heap}
abbrev n__law_flow : List Str := ["_law_parts_here", "_law_starts", "_law_begin", "_law_end", "_law_share_here", "_law_tries", "_law_layers", "_law_state", "_law_counts", "_law_number", "_law_event", "_law_later", "_law_some", "_law_more", "_law_count"]
theorem sc__law_flow : FnScope n__law_flow ["_law_parts_here", "_law_starts", "_law_begin", "_law_end", "_law_share_here"] (defScope s__law_flow) := ⟨rfl, rfl, rfl, by decide +kernel, rfl, by decide +kernel, by decide +kernel⟩
theorem ok__law_flow (D : Df K mg "_law_flow" s__law_flow) (T : TX K mg) (g__law_out : Fk P w K mg base 1 "_law_out" ["_law_parts_here", "_law_standing"] spOut) : Fk P w K mg base 2 "_law_flow" ["_law_parts_here", "_law_starts", "_law_begin", "_law_end", "_law_share_here"] spFlow := by
  refine fk_of D sc__law_flow (fun _ _ _ _ _ _ us hl => match us, hl with | [_, _, _, _, _], _ => rfl) (fun vs H Q E h => ?_) (fun f cdv A outer s H vs Q E hr h => ?_)
  · obtain ⟨_, _, _, _, _, _, _, _, _, _, _, rfl, _⟩ := h
    rfl
  · obtain ⟨pa, sp, sh, n, bg, m, es, a, b, A0, C0, rfl, hpa, hM, hst, hC0, hsh, hab, hbb, hm300, hbg, q⟩ := h
    refine ⟨_, (pss_cons (ps_setLc (i := 6) (own := [("_law_tries", 5)]) (g := gName 5) (tt := tYes) (by rfl) sc__law_flow.nd rfl rfl (sw_true rfl rfl rfl (by decide +kernel)) (pi_range2 (by rfl) T.range (pa_cons (pv 2) (pa_cons (pe_op op_add (pv 3) pe_int) pa_nil))) (blkOk_by (own := [("_law_tries", 5)]) (N := n__law_flow) (sc := defScope s__law_flow) (by decide +kernel)) (fun _ _ _ _ _ => (pg_name (i := 5) sc__law_flow.nd rfl (Or.inl rfl))) (fun _ _ _ _ _ => pts_nil) (fun _ _ _ _ _ => pe_dnewT))
      (pss_cons (ps_asg (pv 1) (pg_sub (pv 6) pe_int set_list))
      (pss_cons (ps_for PassesOwn.never (by rfl) (pi_range2 (by rfl) T.range (pa_cons (pv 2) (pa_cons (pv 3) pa_nil))) (pg_name (i := 5) sc__law_flow.nd rfl (Or.inl rfl))
       (pss_one (ps_for PassesOwn.never (by rfl) (pi_list (pe_callB (call_sortT (by rfl)) (by rfl) T.sorted (by decide +kernel) (pa_cons (pe_ix ix_list (pv 6) (pe_op op_sub (pv 5) (pv 2)) (fun _ _ => rfl)) pa_nil))) (pg_name (i := 7) sc__law_flow.nd rfl (Or.inl rfl))
        (pss_cons (ps_set (i := 8) sc__law_flow.nd rfl (Or.inl rfl) (pe_callB (call_sortK (by rfl)) (by rfl) T.sorted (by decide +kernel) (pa_cons (pe_dget (hu_of hr) (pe_ix ix_list (pv 6) (pe_op op_sub (pv 5) (pv 2)) (fun _ _ => rfl)) (pv 7) (fun _ _ => rfl)) pa_nil)))
        (pss_one (ps_for PassesOwn.never (by rfl) (pi_list (pe_fk g__law_out hr (by rfl) (pa_cons (pv 0) (pa_cons (pe_ix ix_tup (pv 7) pe_int (fun _ _ => rfl)) pa_nil)))) (pg_name (i := 9) sc__law_flow.nd rfl (Or.inl rfl))
         (pss_cons (ps_set (i := 10) sc__law_flow.nd rfl (Or.inl rfl) (pe_ix ix_tup (pe_ix ix_tup (pv 0) pe_int (fun _ _ => rfl)) (pv 9) (fun _ _ => rfl)))
         (pss_one (ps_if (pt_cmpR op_le (pe_op op_add (pv 5) (pe_ix ix_tup (pv 10) pe_int (fun _ _ => rfl))) (pv 3) (nomark _)) (pss_cons (ps_set (i := 11) sc__law_flow.nd rfl (Or.inl rfl) (pe_ix ix_list (pv 6) (pe_op op_sub (pe_op op_add (pv 5) (pe_ix ix_tup (pv 10) pe_int (fun _ _ => rfl))) (pv 2)) (fun _ _ => rfl)))
          (pss_cons (ps_set (i := 12) sc__law_flow.nd rfl (Or.inl rfl) (pe_bm PySem.F.plainAttrs_dict PySem.F.slot_dict_setdefault PySem.F.type_dict_setdefault (mt_setdT (hu_of hr)) (pv 11) (pa_cons (pe_tup (pa_cons (pe_ix ix_tup (pv 10) pe_int (fun _ _ => rfl)) (pa_cons (pe_op op_add (pe_ix ix_tup (pv 7) pe_int (fun _ _ => rfl)) (pe_ix ix_tup (pv 10) pe_int (fun _ _ => rfl))) pa_nil))) (pa_cons pe_dnewK pa_nil))))
          (pss_cons (ps_set (i := 13) sc__law_flow.nd rfl (Or.inl rfl) (pe_callTy call_int1 (by rfl) T.int (by decide +kernel) (pa_cons (pe_cmpR op_eqI (pe_op op_mulW (pe_ix ix_tup (pv 4) pe_int (fun _ _ => rfl)) (pe_op op_add (pe_ix ix_tup (pv 7) pe_int (fun _ _ => rfl)) (pe_ix ix_tup (pv 10) pe_int (fun _ _ => rfl)))) (pe_op op_mulW (pe_ix ix_tup (pv 4) pe_int (fun _ _ => rfl)) (pe_op op_add (pv 5) (pe_ix ix_tup (pv 10) pe_int (fun _ _ => rfl)))) (nomark _)) pa_nil)))
          (pss_one (ps_for PassesOwn.never (by rfl) (pi_list (pv 8)) (pg_name (i := 14) sc__law_flow.nd rfl (Or.inl rfl))
           (pss_one (ps_dput (hu_of hr) (pv 12) (pe_op op_add (pv 14) (pv 13)) pe_bl rfl))))))) pss_nil)))))))))
      (pss_one (ps_ret (pv 6)))))), ?_⟩
    -- the layers, still empty
    refine ⟨_, rfl, _, rfl, ((bg + m : Nat) : Int), 1, rfl, rfl, (bg : Int), ((bg + m : Nat) : Int) + 1, rfl, by omega, fun Dl nD => lc_range (lo := (bg : Int)) (n := (((bg + m : Nat) : Int) + 1 - (bg : Int)).toNat) (fun i H' => ∃ ks : List Addr, Same H H' ∧ H' Dl = some (.lst (ks.map V.ref)) ∧ ks.length = i ∧ ks.Nodup ∧ Dl ∉ ks ∧ ∀ k ∈ ks, H' k = some (.dT []) ∧ H k = none)
      ⟨[], same_new nD, upd_same, rfl, List.nodup_nil, by simp, fun k hk => by cases hk⟩ ?_ ?_⟩
    · rintro i H' hi ⟨ks, sm, hD, hl, nd, hDk, hk⟩
      refine ⟨rfl, fun k nk => ⟨ks.map V.ref, ?_, ?_, ks ++ [k], ?_, ?_, ?_, ?_, ?_, ?_⟩⟩
      · rw [upd_ne (ne_of_none hD nk)]; exact hD
      · rw [List.length_map]; exact lt_line (by omega)
      · intro b o e
        have nbD : b ≠ Dl := fun z => by rw [z, nD] at e; cases e
        rw [upd_ne nbD, upd_ne (ne_of_none (sm _ _ e) nk)]
        exact sm _ _ e
      · rw [upd_same, List.map_append]; rfl
      · rw [List.length_append, List.length_singleton, hl]
      · refine List.nodup_append.mpr ⟨nd, by simp, fun a ha b hb => ?_⟩
        rw [List.mem_singleton.mp hb]
        exact ne_of_none (hk a ha).1 nk
      · intro z
        rcases List.mem_append.mp z with z | z
        · exact hDk z
        · exact ne_of_none hD nk (List.mem_singleton.mp z)
      · intro b hb
        rcases List.mem_append.mp hb with z | z
        · have nb : b ≠ Dl := fun y => hDk (y ▸ z)
          rw [upd_ne nb, upd_ne (ne_of_none (hk b z).1 nk)]
          exact hk b z
        · rw [List.mem_singleton.mp z]
          refine ⟨by rw [upd_ne (ne_of_none hD nk).symm, upd_same], ?_⟩
          exact sm.free nk
    rintro H1 ⟨ks, sm1, hD1, hl1, nd1, hDk1, hk1⟩
    have hl1 : ks.length = m + 1 := by rw [hl1]; omega
    refine ⟨_, rfl, _, rfl, Dl, ks.map V.ref, 0, 0, rfl, rfl, hD1, by rw [List.length_map, hl1]; exact ix0 m, ?_⟩
    generalize hHb : upd H1 Dl (.lst ((ks.map V.ref).set 0 (.ref sp))) = H3
    have hH : ∀ b o, H b = some o → b ≠ Dl := fun b o e z => by rw [z, nD] at e; cases e
    have sm3 : Same H H3 := fun b o e => by
      rw [← hHb, upd_ne (hH b o e)]
      exact sm1 _ _ e
    obtain ⟨k0, kr, rfl⟩ : ∃ k0 kr, ks = k0 :: kr := by
      cases ks with
      | nil => cases hl1
      | cons a r => exact ⟨a, r, rfl⟩
    obtain ⟨skv, hsp, _⟩ := hst.lay.ex
    have nsp : sp ∉ kr := fun z => by
      have := (hk1 sp (List.mem_cons.mpr (.inr z))).2
      rw [hsp] at this
      cases this
    have nd3 : (sp :: kr).Nodup := List.nodup_cons.mpr ⟨nsp, (List.nodup_cons.mp nd1).2⟩
    have hkr : ∀ d ∈ kr, H3 d = some (.dT []) ∧ H d = none := fun d hd => by
      obtain ⟨z1, z2⟩ := hk1 d (List.mem_cons.mpr (.inr hd))
      refine ⟨?_, z2⟩
      rw [← hHb, upd_ne (fun y => hDk1 (by rw [← y]; exact List.mem_cons.mpr (.inr hd)))]
      exact z1
    have hst3 := hst.same sm3
    obtain ⟨A1, hA1⟩ : ∃ A1 : Nat → Sta → Option Addr, A1 = fun k s => if k = 0 then A0 s else none := ⟨_, rfl⟩
    have hF3 : FlowAt H3 Dl (sp :: kr) A1 (C1 C0) := by
      subst hA1
      refine ⟨by rw [← hHb, upd_same]; rfl, nd3, fun k d e => ?_, fun k s k' s' a e1 e2 => ?_, fun k s a e => ?_, fun k s e => ?_⟩
      · cases k with
        | zero => cases e; exact hst3.lay
        | succ k =>
          have hd : d ∈ kr := List.mem_of_getElem? (show kr[k]? = some d from e)
          exact ⟨[], (hkr d hd).1, Box.nil, fun s4 => ⟨fun _ => rfl, fun a e => by cases e⟩⟩
      · split at e1
        · rename_i hk
          split at e2
          · rename_i hk'
            exact ⟨hk.trans hk'.symm, hst3.inj _ _ _ e1 e2⟩
          · cases e2
        · cases e1
      · split at e
        · rename_i hk
          subst hk
          exact hst3.set s a e
        · cases e
      · unfold C1
        split at e
        · rename_i hk
          rw [if_pos hk]
          exact hst3.non s e
        · rename_i hk
          rw [if_neg hk]
    have hA1f : ∀ k s a, 0 < k → A1 k s = some a → H a = none := fun k s a hk e => by
      rw [hA1] at e
      dsimp only at e
      rw [if_neg (by omega)] at e
      cases e
    have hdsf : ∀ k d, 0 < k → (sp :: kr)[k]? = some d → H d = none := fun k d hk e => by
      cases k with
      | zero => omega
      | succ k => exact (hkr d (List.mem_of_getElem? (show kr[k]? = some d from e))).2
    have hdl3 : (sp :: kr).length = m + 1 := hl1
    generalize (sp :: kr) = ds at hF3 hdsf hdl3
    clear hHb hkr nd3 nsp hk1 hDk1 nd1 hD1 sm1 hl1
    have hg01 := gn_01 a b
    -- the turns
    refine ⟨_, rfl, _, rfl, (bg : Int), ((bg + m : Nat) : Int), rfl, by omega, for_range (lo := (bg : Int)) (n := (((bg + m : Nat) : Int) - (bg : Int)).toNat) (fun i σ H' => ∃ v5 v7 v8 v9 v10 v11 v12 v13 v14 A C, σ = [some (.ref pa), some (.ref sp), some (.int (bg : Nat)), some (.int ((bg + m : Nat) : Int)), some (.ref sh), v5, some (.ref Dl), v7, v8, v9, v10, v11, v12, v13, v14] ∧
        Same H H' ∧ FlowAt H' Dl ds A C ∧ (∀ k s a, 0 < k → A k s = some a → H a = none) ∧ FInv es (gn a b) bg m C0 (fun k _ _ => k < i) C) ⟨_, _, _, _, _, _, _, _, _, A1, C1 C0, rfl, sm3, hF3, hA1f, FInv.init hC0⟩ ?_ ?_⟩
    · rintro i σ H4 hi ⟨v5, v7, v8, v9, v10, v11, v12, v13, v14, AA, CC, rfl, sm4, hF4, hf4, hI4⟩
      have him : i < m := by omega
      obtain ⟨d, hd⟩ : ∃ d, ds[i]? = some d := ⟨ds[i]'(by omega), List.getElem?_eq_getElem (by omega)⟩
      obtain ⟨kvs, y1, y2, y3⟩ := (hF4.lay i d hd).ex
      refine ⟨_, rfl, _, rfl, _, rfl, (bg : Int) + (i : Int), (bg : Int), rfl, rfl, Dl, _, _, .ref d, rfl, rfl, SqL.of hF4.at_, at_of (j := i) (by omega) (map_get hd), d, kvs, rfl, .inl y1, fun qq hq => ?_, fun bs cs l hbs hperm nl => ?_⟩
      · obtain ⟨j, hj⟩ := List.mem_iff_getElem?.mp hq
        obtain ⟨st, aI, rfl, _, _⟩ := y3.at y2 hj
        exact ⟨_, _, rfl⟩
      have sl : Same H4 (upd H4 l (.lst (cs.map V.ref))) := same_new nl
      have hl5 : upd H4 l (.lst (cs.map V.ref)) l = some (.lst (cs.map V.ref)) := upd_same
      refine ⟨l, rfl, ⟨_, SqL.of hl5⟩, ?_⟩
      generalize upd H4 l (.lst (cs.map V.ref)) = H5 at sl hl5
      have hbl := Paired.length hbs
      refine for_list (fun u σ H' => ∃ v7 v8 v9 v10 v11 v12 v13 v14 A' C', σ = [some (.ref pa), some (.ref sp), some (.int (bg : Nat)), some (.int ((bg + m : Nat) : Int)), some (.ref sh), some (.int ((bg : Int) + (i : Int))), some (.ref Dl), v7, v8, v9, v10, v11, v12, v13, v14] ∧
          Same H H' ∧ ND H5 H' ∧ FlowAt H' Dl ds A' C' ∧ (∀ k s a, 0 < k → A' k s = some a → H a = none) ∧ (∀ s, A' i s = AA i s) ∧
          FInv es (gn a b) bg m C0 (fun k s j => k < i ∨ (k = i ∧ (∃ u' bb, u' < u ∧ cs[u']? = some bb ∧ H4 bb = some (.tup ((kS s).map kV))) ∧ ∃ e, es[j]? = some e ∧ e.b = s.1)) C')
        ⟨_, _, _, _, _, _, _, _, AA, CC, rfl, sm4.trans sl, .of (Same.refl _), hF4.same sl, hf4, fun s => rfl, hI4.weak fun k s j e h _ _ _ => h.elim id fun ⟨_, ⟨u', _, hu, _⟩, _⟩ => absurd hu (Nat.not_lt_zero _)⟩ (fun u σ H' _ ⟨_, _, _, _, _, _, _, _, _, _, _, _, z, _⟩ => SqL.of (z.lst hl5)) ?_ ?_
      · rintro u x σ H6 hx ⟨v7, v8, v9, v10, v11, v12, v13, v14, A6, C6, rfl, sm6, nd6, hF6, hf6, hAi6, hI6⟩
        obtain ⟨bb, hbb', rfl⟩ := of_map_get hx
        have hbm : bb ∈ bs := hperm.mem_iff.mp (List.mem_of_getElem? hbb')
        obtain ⟨jb, hjb⟩ := List.mem_iff_getElem?.mp hbm
        have hjl := (List.getElem?_eq_some_iff.mp hjb).1
        obtain ⟨qq, hqq⟩ : ∃ qq, kvs[jb]? = some qq := ⟨kvs[jb]'(by omega), List.getElem?_eq_getElem (by omega)⟩
        obtain ⟨st, aI, rfl, hAst, hBst⟩ := y3.at y2 hqq
        obtain ⟨bb', hb1, hb2⟩ := L2.paired_get hbs hqq
        rw [hjb] at hb1
        cases hb1
        have hb2 : H4 bb = some (.tup [.int (st.1 : Nat), .int st.2]) := hb2
        have hb6 : H6 bb = some (.tup [.int (st.1 : Nat), .int st.2]) := nd6.tup (sl _ _ hb2)
        have hA6 : A6 i st = some aI := by rw [hAi6]; exact hAst
        obtain ⟨Pst, hCst, hset⟩ := hF6.set i st aI hA6
        obtain ⟨kv6, z1, z2, z3⟩ := (hF6.lay i d hd).ex
        obtain ⟨ik, e1, e2, e3, e4⟩ := hset.ex
        obtain ⟨xs, hxs⟩ := keys_inl ik e3
        refine ⟨_, rfl, _, rfl, _, rfl, (bg : Int) + (i : Int), (bg : Int), rfl, rfl, Dl, _, _, .ref d, rfl, rfl, SqL.of hF6.at_, at_of (j := i) (by omega) (map_get hd), _, rfl, d, .ref aI, rfl, by rw [← (z3 st).2 aI hA6]; exact DGet.t z1 (k := kS st) hb6, aI, ik, xs, rfl, .inl e1, hxs, fun ys pC hys nC => ?_⟩
        have hysP : ∀ y, y ∈ ys ↔ Pst y := fun y => by
          rw [hys.mem_iff, e4, valV_ne, hxs, mem_inl]
        have sC : Same H6 (upd H6 pC (.lst (ys.map V.int))) := same_new nC
        have hpC7 : upd H6 pC (.lst (ys.map V.int)) pC = some (.lst (ys.map V.int)) := upd_same
        generalize upd H6 pC (.lst (ys.map V.int)) = H7 at sC hpC7
        have hb7 := sC _ _ hb6
        have hpa7 := hpa.same (sm6.trans sC)
        refine ⟨_, rfl, _, rfl, bb, _, 0, .int (st.1 : Nat), rfl, rfl, SqT.of hb7, atI_nat (j := 0) rfl, pa, n, st.1, es, rfl, hpa7, by have := hM.len; omega, fun H8 L sL nL hL => ⟨L, rfl, ⟨_, SqL.of hL⟩, ?_⟩⟩
        have sm8 := (sm6.trans sC).trans sL
        have nd8 : ND H5 H8 := (nd6.trans (.of sC)).trans (.of sL)
        have hsml := hI6.small hM hg01 hC0 hm300 hCst
        refine for_list (fun v σ H' => ∃ v9 v10 v11 v12 v13 v14 A' C', σ = [some (.ref pa), some (.ref sp), some (.int (bg : Nat)), some (.int ((bg + m : Nat) : Int)), some (.ref sh), some (.int ((bg : Int) + (i : Int))), some (.ref Dl), some (.ref bb), some (.ref pC), v9, v10, v11, v12, v13, v14] ∧
            Same H H' ∧ ND H5 H' ∧ ND H8 H' ∧ FlowAt H' Dl ds A' C' ∧ (∀ k s a, 0 < k → A' k s = some a → H a = none) ∧ (∀ s, A' i s = AA i s) ∧ C' i st = some Pst ∧
            FInv es (gn a b) bg m C0 (fun k s j => (k < i ∨ (k = i ∧ (∃ u' bb, u' < u ∧ cs[u']? = some bb ∧ H4 bb = some (.tup ((kS s).map kV))) ∧ ∃ e, es[j]? = some e ∧ e.b = s.1)) ∨ (k = i ∧ s = st ∧ ∃ v', v' < v ∧ (outs es st.1)[v']? = some j)) C')
          ⟨_, _, _, _, _, _, A6, C6, rfl, sm8, nd8, .of (Same.refl _), (hF6.same sC).same sL, hf6, hAi6, hCst, hI6.weak fun k s j e h _ _ _ => h.elim id fun ⟨_, _, v', hv', _⟩ => absurd hv' (Nat.not_lt_zero _)⟩ (fun v σ H' _ ⟨_, _, _, _, _, _, _, _, _, _, _, z, _⟩ => SqL.of (z.lst hL)) ?_ ?_
        · rintro v x σ H9 hx ⟨v9, v10, v11, v12, v13, v14, A9, C9, rfl, sm9, nd9, nd89, hF9, hf9, hAi9, hC9, hI9⟩
          obtain ⟨j, hj, rfl⟩ := of_map_get hx
          obtain ⟨e, he, heb⟩ := mem_outs.mp (List.mem_of_getElem? hj)
          have hev := hM.at he
          obtain ⟨ea, p1, p2⟩ := (hpa.same sm9).ex
          obtain ⟨as, p3, p4, p5⟩ := p2.ex
          obtain ⟨x, x1, x2⟩ := p5 j e he
          have x2 : H9 x = some (.tup [.int (e.b : Nat), .int (e.a : Nat), .int (e.t : Nat), .int e.p]) := x2
          have hb9 : H9 bb = some (.tup [.int (st.1 : Nat), .int st.2]) := nd9.tup (sl _ _ hb2)
          have wk : ∀ k s j' e', ((k < i ∨ (k = i ∧ (∃ u' bb, u' < u ∧ cs[u']? = some bb ∧ H4 bb = some (.tup ((kS s).map kV))) ∧ ∃ e, es[j']? = some e ∧ e.b = s.1)) ∨ (k = i ∧ s = st ∧ ∃ v', v' < v + 1 ∧ (outs es st.1)[v']? = some j')) → ∀ C' : Nat → Sta → Option (Int → Prop), C' k s ≠ none → es[j']? = some e' → e'.b = s.1 →
              ((k < i ∨ (k = i ∧ (∃ u' bb, u' < u ∧ cs[u']? = some bb ∧ H4 bb = some (.tup ((kS s).map kV))) ∧ ∃ e, es[j']? = some e ∧ e.b = s.1)) ∨ (k = i ∧ s = st ∧ ∃ v', v' < v ∧ (outs es st.1)[v']? = some j')) ∨ (k = i ∧ s = st ∧ j' = j) := fun k s j' e' h _ _ _ _ => by
            rcases h with h | ⟨h1, h2, v', h3, h4⟩
            · exact .inl (.inl h)
            · by_cases hbb : v' < v
              · exact .inl (.inr ⟨h1, h2, v', hbb, h4⟩)
              · have : v' = v := by omega
                subst this
                rw [hj] at h4
                cases h4
                exact .inr ⟨h1, h2, rfl⟩
          have hDp : ∀ k s j, ((k < i ∨ (k = i ∧ (∃ u' bb, u' < u ∧ cs[u']? = some bb ∧ H4 bb = some (.tup ((kS s).map kV))) ∧ ∃ e, es[j]? = some e ∧ e.b = s.1)) ∨ (k = i ∧ s = st ∧ ∃ v', v' < v ∧ (outs es st.1)[v']? = some j)) → k ≤ i := fun k s j h => by
            rcases h with (h | h) | h
            · omega
            · omega
            · omega
          refine ⟨_, rfl, pa, _, 1, .ref ea, rfl, rfl, SqT.of p1, atI_nat (j := 1) rfl, _, rfl, ea, _, (j : Int), .ref x, rfl, rfl, SqT.of p3, at_of rfl (map_get x1), ?_⟩
          refine ⟨_, rfl, _, rfl, x, _, 2, .int (e.t : Nat), rfl, rfl, SqT.of x2, atI_nat (j := 2) rfl, (bg : Int) + (i : Int), (e.t : Int), rfl, rfl, _, rfl, (bg : Int) + (i : Int) + (e.t : Int), ((bg + m : Nat) : Int), rfl, rfl, _, rfl, ifD (fun hle => ?_) fun hle => ?_⟩
          · have hle2 : i + e.t ≤ m := by omega
            obtain ⟨d2, hd2⟩ : ∃ d2, ds[i + e.t]? = some d2 := ⟨ds[i + e.t]'(by omega), List.getElem?_eq_getElem (by omega)⟩
            have hd2H : H d2 = none := hdsf (i + e.t) d2 (by omega) hd2
            refine ⟨_, rfl, _, rfl, _, rfl, x, _, 2, .int (e.t : Nat), rfl, rfl, SqT.of x2, atI_nat (j := 2) rfl, (bg : Int) + (i : Int), (e.t : Int), rfl, rfl, _, rfl, (bg : Int) + (i : Int) + (e.t : Int), (bg : Int), rfl, rfl, Dl, _, _, .ref d2, rfl, rfl, SqL.of hF9.at_, at_of (j := i + e.t) (by omega) (map_get hd2), ?_⟩
            obtain ⟨kv9, w1, w2, w3⟩ := (hF9.lay _ d2 hd2).ex
            refine ⟨_, rfl, .inr (.inr (.inl ⟨rfl, .inr ⟨kv9, w1⟩⟩)), _, rfl, x, _, 1, .int (e.a : Nat), rfl, rfl, SqT.of x2, atI_nat (j := 1) rfl, _, rfl, bb, _, 1, .int st.2, rfl, rfl, SqT.of hb9, atI_nat (j := 1) rfl, _, rfl, x, _, 3, .int e.p, rfl, rfl, SqT.of x2, atI_nat (j := 3) rfl, st.2, e.p, rfl, rfl, le_line (n := 2) (by decide), fun ga nga na nna => ?_⟩
            have sg : Same H9 (upd (upd H9 ga (.tup [.int (e.a : Nat), .int (st.2 + e.p)])) na (.dK [])) := (same_new nga).trans (same_new nna)
            have naH9 : H9 na = none := (same_new (o := HO.tup [.int (e.a : Nat), .int (st.2 + e.p)]) nga).free nna
            have naH : H na = none := sm9.free naH9
            have hga : upd (upd H9 ga (.tup [.int (e.a : Nat), .int (st.2 + e.p)])) na (.dK []) ga = some (.tup ((kS (e.a, st.2 + e.p)).map kV)) := same_new nna _ _ upd_same
            have hna : upd (upd H9 ga (.tup [.int (e.a : Nat), .int (st.2 + e.p)])) na (.dK []) na = some (.dK []) := upd_same
            generalize upd (upd H9 ga (.tup [.int (e.a : Nat), .int (st.2 + e.p)])) na (.dK []) = HA at sg hga hna
            have hFA := hF9.same sg
            have smA := sm9.trans sg
            have ndA : ND H5 HA := nd9.trans (.of sg)
            have nd8A : ND H8 HA := nd89.trans (.of sg)
            have hsm9 := hI9.small hM hg01 hC0 hm300 hC9
            have hBg : BoxS (e.a, st.2 + e.p) := ⟨Nat.lt_of_lt_of_le hev.2.1 hM.n4, by show -3000 ≤ st.2 + e.p; omega, by show st.2 + e.p ≤ 3000; omega⟩
            obtain ⟨Po, hPo⟩ : ∃ Po : Int → Prop, Po = fun y => ∃ P1, C9 (i + e.t) (e.a, st.2 + e.p) = some P1 ∧ P1 y := ⟨_, rfl⟩
            apply via (fun σ H' => ∃ aS A3, σ = [some (.ref pa), some (.ref sp), some (.int (bg : Nat)), some (.int ((bg + m : Nat) : Int)), some (.ref sh), some (.int ((bg : Int) + (i : Int))), some (.ref Dl), some (.ref bb), some (.ref pC), some (.int (j : Nat)), some (.ref x), some (.ref d2), some (.ref aS), v13, v14] ∧
              Same H H' ∧ ND H5 H' ∧ ND H8 H' ∧ FlowAt H' Dl ds A3 (setT C9 (i + e.t) (e.a, st.2 + e.p) Po) ∧ A3 (i + e.t) (e.a, st.2 + e.p) = some aS ∧ (∀ k s a, 0 < k → A3 k s = some a → H a = none) ∧ (∀ s, A3 i s = AA i s))
            · intro rest
              refine ⟨d2, kv9, kS (e.a, st.2 + e.p), ga, .ref na, rfl, rfl, sg _ _ w1, hga, w2.lt, fun v0 hv0 => ?_, fun hv0 => ?_⟩
              · cases hAg : A9 (i + e.t) (e.a, st.2 + e.p) with
                | none =>
                  rw [(w3 _).1 hAg] at hv0
                  cases hv0
                | some a1 =>
                  rw [(w3 _).2 a1 hAg] at hv0
                  cases hv0
                  obtain ⟨P1, hP1, hs1⟩ := hFA.set _ _ a1 hAg
                  refine rest _ _ ⟨a1, A9, rfl, smA, ndA, nd8A, ?_, hAg, hf9, hAi9⟩
                  have ePo : Po = P1 := by
                    rw [hPo]
                    funext y
                    refine propext ⟨fun ⟨P2, h1, h2⟩ => ?_, fun h => ⟨P1, hP1, h⟩⟩
                    rw [hP1] at h1
                    cases h1
                    exact h2
                  rw [ePo, setT_id hP1]
                  exact hFA
              · have hAg : A9 (i + e.t) (e.a, st.2 + e.p) = none := by
                  cases hAg : A9 (i + e.t) (e.a, st.2 + e.p) with
                  | none => rfl
                  | some a1 =>
                    rw [(w3 _).2 a1 hAg] at hv0
                    cases hv0
                have hCg := hFA.non _ _ hAg
                have ePo : Po = fun _ => False := by
                  rw [hPo]
                  funext y
                  refine propext ⟨fun ⟨P2, h1, h2⟩ => ?_, fun h => h.elim⟩
                  rw [hCg] at h1
                  cases h1
                refine rest _ _ ⟨na, setT A9 (i + e.t) (e.a, st.2 + e.p) na, rfl, fun c o eb => ?_, ndA.upT (sg _ _ w1), nd8A.upT (sg _ _ w1), ?_, setT_same, fun k s a hk hA => ?_, fun s => ?_⟩
                · rw [upd_ne (ne_of_none eb hd2H)]
                  exact smA _ _ eb
                · rw [ePo]
                  refine hFA.new hAg hd2 (sg _ _ w1) hna (fun k s hA => ?_) hBg
                  obtain ⟨P1, _, hs1⟩ := hF9.set k s na hA
                  obtain ⟨kz, hkz⟩ := hs1.some
                  rw [naH9] at hkz
                  cases hkz
                · by_cases z : k = i + e.t ∧ s = (e.a, st.2 + e.p)
                  · rw [z.1, z.2, setT_same] at hA
                    cases hA
                    exact naH
                  · rw [setT_ne z] at hA
                    exact hf9 k s a hk hA
                · rw [setT_ne (fun z => by omega)]
                  exact hAi9 s
            · rintro σ HB ⟨aS, A3, rfl, smB, ndB, nd8B, hFB, hAS, hfB, hAiB⟩
              have x2B : HB x = some (.tup [.int (e.b : Nat), .int (e.a : Nat), .int (e.t : Nat), .int e.p]) := smB _ _ (by
                obtain ⟨ea', p1', p2'⟩ := hpa.ex
                obtain ⟨as', p3', p4', p5'⟩ := p2'.ex
                obtain ⟨x', x1', x2'⟩ := p5' j e he
                have q1 := sm9 _ _ p1'
                rw [p1] at q1
                cases q1
                have q2 := sm9 _ _ p3'
                rw [p3] at q2
                injection q2 with q2
                injection q2 with q2
                have q3 := map_get (f := V.ref) x1
                rw [q2, map_get (f := V.ref) x1'] at q3
                cases q3
                exact x2')
              have hbB : HB bb = some (.tup [.int (st.1 : Nat), .int st.2]) := ndB.tup (sl _ _ hb2)
              have hshB : HB sh = some (.tup [.int a, .int b]) := smB _ _ hsh
              have hmr := gn_more (a := a) (b := b) (t := bg + i + e.t) (x := st.2 + e.p) (by omega)
              have hg1 := hg01 (bg + i + e.t) (st.2 + e.p)
              refine ⟨_, rfl, sh, _, 1, .int b, rfl, rfl, SqT.of hshB, atI_nat (j := 1) rfl, _, rfl, bb, _, 1, .int st.2, rfl, rfl, SqT.of hbB, atI_nat (j := 1) rfl, _, rfl, x, _, 3, .int e.p, rfl, rfl, SqT.of x2B, atI_nat (j := 3) rfl, st.2, e.p, rfl, rfl, b, st.2 + e.p, rfl, rfl, cmul_big hbb (Nat.lt_of_le_of_lt (show (st.2 + e.p).natAbs ≤ 100000 by omega) (by decide)), ?_⟩
              refine ⟨_, rfl, sh, _, 0, .int a, rfl, rfl, SqT.of hshB, atI_nat (j := 0) rfl, _, rfl, _, rfl, x, _, 2, .int (e.t : Nat), rfl, rfl, SqT.of x2B, atI_nat (j := 2) rfl, (bg : Int) + (i : Int), (e.t : Int), rfl, rfl, a, (bg : Int) + (i : Int) + (e.t : Int), rfl, rfl, cmul_big hab (Nat.lt_of_le_of_lt (show ((bg : Int) + (i : Int) + (e.t : Int)).natAbs ≤ 100000 by omega) (by decide)), b * (st.2 + e.p), a * ((bg : Int) + (i : Int) + (e.t : Int)), rfl, rfl, .inr ⟨decide (b * (st.2 + e.p) = a * ((bg : Int) + (i : Int) + (e.t : Int))), rfl, ?_⟩⟩
              have hmr2 : (if decide (b * (st.2 + e.p) = a * ((bg : Int) + (i : Int) + (e.t : Int))) = true then (1 : Int) else 0) = gn a b (bg + i + e.t) (st.2 + e.p) := hmr
              rw [hmr2]
              refine ⟨_, rfl, pC, rfl, ⟨_, SqL.of (nd8B.lst (sL _ _ hpC7))⟩, ?_⟩
              refine for_list (fun c σ H' => ∃ v14, σ = [some (.ref pa), some (.ref sp), some (.int (bg : Nat)), some (.int ((bg + m : Nat) : Int)), some (.ref sh), some (.int ((bg : Int) + (i : Int))), some (.ref Dl), some (.ref bb), some (.ref pC), some (.int (j : Nat)), some (.ref x), some (.ref d2), some (.ref aS), some (.int (gn a b (bg + i + e.t) (st.2 + e.p))), v14] ∧
                Same H H' ∧ ND H5 H' ∧ ND H8 H' ∧ FlowAt H' Dl ds A3 (setT C9 (i + e.t) (e.a, st.2 + e.p) fun y => Po y ∨ ∃ c', c' < c ∧ ∃ z, ys[c']? = some z ∧ y = z + gn a b (bg + i + e.t) (st.2 + e.p)))
                ⟨_, rfl, smB, ndB, nd8B, ?_⟩ (fun c σ H' _ ⟨_, _, _, _, z, _⟩ => SqL.of (z.lst (sL _ _ hpC7))) ?_ ?_
              · have : (fun y => Po y ∨ ∃ c', c' < 0 ∧ ∃ z, ys[c']? = some z ∧ y = z + gn a b (bg + i + e.t) (st.2 + e.p)) = Po := by
                  funext y
                  exact propext ⟨fun h => h.elim id fun ⟨c', h, _⟩ => absurd h (Nat.not_lt_zero _), fun h => .inl h⟩
                rw [this]
                exact hFB
              · rintro c x' σ HC hx ⟨v14, rfl, smC, ndC, nd8C, hFC⟩
                obtain ⟨y, hy, rfl⟩ := of_map_get hx
                have hPy : Pst y := (hysP y).mp (List.mem_of_getElem? hy)
                have hyb := hsm9.2.2.2.2.2 y hPy
                obtain ⟨Pc, hPc, hsc⟩ := hFC.set _ _ aS hAS
                rw [setT_same] at hPc
                have hPc := Option.some.inj hPc
                subst hPc
                obtain ⟨kc, c1, c2, c3, c4⟩ := hsc.ex
                obtain ⟨nn, hnn⟩ : ∃ nn : Nat, y + gn a b (bg + i + e.t) (st.2 + e.p) = (nn : Int) := ⟨(y + gn a b (bg + i + e.t) (st.2 + e.p)).toNat, by omega⟩
                have hput := hsc.put c1 (n := nn) (by omega) (.bl true)
                have haS : H aS = none := hfB _ _ aS (by omega) hAS
                refine ⟨_, rfl, _, rfl, _, rfl, y, gn a b (bg + i + e.t) (st.2 + e.p), rfl, rfl, aS, _, rfl, DPut.k (k := .inl (y + gn a b (bg + i + e.t) (st.2 + e.p))) c1 (lt_line (by have := cset_len c2 c3; omega)), ?_⟩
                rw [hnn]
                refine ⟨_, rfl, fun b' o eb => ?_, ndC.upK c1, nd8C.upK c1, ?_⟩
                · rw [upd_ne (ne_of_none eb haS)]
                  exact smC _ _ eb
                · have := hFC.inner hAS hput
                  rw [setT_setT] at this
                  have eP : (fun z => (Po z ∨ ∃ c', c' < c ∧ ∃ z', ys[c']? = some z' ∧ z = z' + gn a b (bg + i + e.t) (st.2 + e.p)) ∨ z = (nn : Int)) = fun z => Po z ∨ ∃ c', c' < c + 1 ∧ ∃ z', ys[c']? = some z' ∧ z = z' + gn a b (bg + i + e.t) (st.2 + e.p) := by
                    funext z
                    refine propext ⟨fun h => ?_, fun h => ?_⟩
                    · rcases h with (h | ⟨c', h1, z', h2, h3⟩) | h
                      · exact .inl h
                      · exact .inr ⟨c', by omega, z', h2, h3⟩
                      · exact .inr ⟨c, by omega, y, hy, by rw [h, hnn]⟩
                    · rcases h with h | ⟨c', h1, z', h2, h3⟩
                      · exact .inl (.inl h)
                      · by_cases hcc : c' < c
                        · exact .inl (.inr ⟨c', hcc, z', h2, h3⟩)
                        · have : c' = c := by omega
                          subst this
                          rw [hy] at h2
                          cases h2
                          exact .inr (by rw [h3, hnn])
                  rw [eP] at this
                  exact this
              · rintro σ HC ⟨v14, rfl, smC, ndC, nd8C, hFC⟩
                rw [List.length_map] at hFC
                have eM : (fun z => Po z ∨ ∃ c', c' < ys.length ∧ ∃ z', ys[c']? = some z' ∧ z = z' + gn a b (bg + i + e.t) (st.2 + e.p)) = moreC C9 (i + e.t) (e.a, st.2 + e.p) Pst (gn a b (bg + i + e.t) (st.2 + e.p)) := by
                  funext z
                  rw [hPo]
                  refine propext ⟨fun h => ?_, fun h => ?_⟩
                  · rcases h with h | ⟨c', h1, z', h2, h3⟩
                    · exact .inl h
                    · exact .inr ⟨z', (hysP z').mp (List.mem_of_getElem? h2), h3⟩
                  · rcases h with h | ⟨z', h2, h3⟩
                    · exact .inl h
                    · obtain ⟨c', hc'⟩ := List.mem_iff_getElem?.mp ((hysP z').mpr h2)
                      exact .inr ⟨c', (List.getElem?_eq_some_iff.mp hc').1, z', hc', h3⟩
                rw [eM] at hFC
                refine ⟨_, _, _, _, _, _, A3, _, rfl, smC, ndC, nd8C, hFC, hfB, hAiB, ?_, (hI9.put hM hDp he heb hle2 hC9).weak fun k s j' e' h h1 h2 h3 => wk k s j' e' h _ h1 h2 h3⟩
                rw [setT_ne (fun z => by omega)]
                exact hC9
          · refine ⟨_, _, _, _, _, _, A9, C9, rfl, sm9, nd9, nd89, hF9, hf9, hAi9, hC9, (hI9.skip (i := i) (j := j) (s := st) fun e' he' _ hle' => ?_).weak fun k s j' e' h h1 h2 h3 => wk k s j' e' h _ h1 h2 h3⟩
            rw [he] at he'
            cases he'
            omega
        · rintro σ H9 ⟨v9, v10, v11, v12, v13, v14, A9, C9, rfl, sm9, nd9, nd89, hF9, hf9, hAi9, hC9, hI9⟩
          refine ⟨_, _, _, _, _, _, _, _, A9, C9, rfl, sm9, nd9, hF9, hf9, hAi9, hI9.weak fun k s j e h _ _ _ => ?_⟩
          rcases h with h | ⟨h1, ⟨u', b', h2, h3, h3'⟩, e, h4, h5⟩
          · exact .inl (.inl h)
          · by_cases haa : u' < u
            · exact .inl (.inr ⟨h1, ⟨u', b', haa, h3, h3'⟩, e, h4, h5⟩)
            · have : u' = u := by omega
              subst this
              rw [hbb'] at h3
              cases h3
              have e1 : some (HO.tup [.int (st.1 : Nat), .int st.2]) = some (HO.tup ((kS s).map kV)) := hb2.symm.trans h3'
              injection e1 with e1
              injection e1 with e1
              injection e1 with e1 e1'
              injection e1' with e1' _
              injection e1 with e1
              injection e1' with e1'
              have hs : s = st := Prod.ext (Int.ofNat.inj e1.symm) e1'.symm
              subst hs
              obtain ⟨v', hv'⟩ := List.mem_iff_getElem?.mp (mem_outs.mpr ⟨e, h4, h5⟩)
              refine .inr ⟨h1, rfl, v', ?_, hv'⟩
              rw [List.length_map]
              exact (List.getElem?_eq_some_iff.mp hv').1
      · rintro σ H6 ⟨v7, v8, v9, v10, v11, v12, v13, v14, A6, C6, rfl, sm6, nd6, hF6, hf6, hAi6, hI6⟩
        refine ⟨_, _, _, _, _, _, _, _, _, A6, C6, rfl, sm6, hF6, hf6, hI6.weak fun k s j e hk2 hC2 he heb => ?_⟩
        by_cases hki : k < i
        · exact .inl hki
        · have : k = i := by omega
          subst this
          cases hA : A6 k s with
          | none => exact absurd (hF6.non k s hA) hC2
          | some aI =>
            rw [hAi6] at hA
            obtain ⟨jx, hjx⟩ := y3.ix hA
            obtain ⟨bx, hb1, hb2⟩ := L2.paired_get hbs hjx
            obtain ⟨u', hu'⟩ := List.mem_iff_getElem?.mp (hperm.mem_iff.mpr (List.mem_of_getElem? hb1))
            refine .inr ⟨rfl, ⟨u', bx, ?_, hu', hb2⟩, e, he, heb⟩
            rw [List.length_map]
            exact (List.getElem?_eq_some_iff.mp hu').1
    · rintro σ H4 ⟨v5, v7, v8, v9, v10, v11, v12, v13, v14, AA, CC, rfl, sm4, hF4, hf4, hI4⟩
      have ei : (((bg + m : Nat) : Int) - (bg : Int)).toNat = m := by omega
      rw [ei] at hI4
      exact ⟨_, rfl, q H4 Dl ds AA CC sm4 hF4 hdl3 hI4⟩
end
end Nl
namespace Nl
open PySem PySem.Spec PyProof.Rows L2 LamX NdefX
def Cz : Sta → Option (Int → Prop) := fun s => if s = (0, 0) then some (fun y => y = 0) else none
theorem cz_ok {n : Nat} (h : 1 ≤ n) : C0Ok n Cz := fun s P e => by
  unfold Cz at e
  split at e
  · rename_i h0
    cases e
    subst h0
    exact ⟨h, by decide, by decide, ⟨0, rfl⟩, fun x hx => by rw [hx]; decide⟩
  · cases e
theorem one_set {H : Hp} {a : Addr} {c : Nat} (hc : c ≤ 400) (h : H a = some (.dK [(.inl (c : Int), .bl true)])) : CSet H a fun y => y = (c : Int) := by
  refine ⟨_, h, by simp, fun q hq => ⟨c, List.mem_singleton.mp hq, hc⟩, fun y => ?_⟩
  rw [valV_ne]
  constructor
  · intro e
    rw [e]
    exact List.mem_singleton.mpr rfl
  · intro e
    exact Sum.inl.inj (List.mem_singleton.mp e)
theorem disp_cz {H : Hp} {p ip : Addr} (h : H p = some (.dT [(kS (0, 0), .ref ip)])) (hi : H ip = some (.dK [(.inl 0, .bl true)])) : FStart H p (fun s => if s = (0, 0) then some ip else none) Cz := by
  refine ⟨⟨_, h, ⟨by simp, fun k hk => ⟨(0, 0), List.mem_singleton.mp hk, by decide, by decide, by decide⟩⟩, fun s => ?_⟩, fun s s' a e1 e2 => ?_, fun s a e => ?_, fun s e => ?_⟩
  · by_cases e : s = (0, 0)
    · subst e
      exact ⟨fun z => (by cases z), fun c z => by cases z; rfl⟩
    · simp only [if_neg e]
      exact ⟨fun _ => valV_neg (fun z => e (kS_inj z).symm), fun c z => (by cases z)⟩
  · split at e1
    · rename_i h1
      split at e2
      · rename_i h2
        exact h1.trans h2.symm
      · cases e2
    · cases e1
  · split at e
    · rename_i h1
      cases e
      exact ⟨_, if_pos h1, one_set (c := 0) (by decide) hi⟩
    · cases e
  · split at e
    · cases e
    · rename_i h1
      exact if_neg h1
/-- the layers' last counts are just the runs' counts -/
theorem flow_runs {es : List Ev} {n : Nat} (M : MOk n es) {f l : Nat × Int} {a b B : Int} {m : Nat} (hm : l.1 = f.1 + m) {CL C : Nat → Sta → Option (Int → Prop)} (I1 : FInv es (gn 1 B) 0 f.1 Cz (fun k _ _ => k < f.1) CL) {C0 : Sta → Option (Int → Prop)}
    (h1 : ∀ s, CL f.1 s ≠ none → s.2 = f.2 → C0 s = some fun y => y = gn a b f.1 f.2) (h2 : ∀ s P, C0 s = some P → CL f.1 s ≠ none ∧ s.2 = f.2 ∧ ∀ y, P y → y = gn a b f.1 f.2) (I2 : FInv es (gn a b) f.1 m C0 (fun k _ _ => k < m) C) (x : Int) :
    RunsN es f l a b x ↔ ∃ s P, C m s = some P ∧ s.2 = l.2 ∧ P x := by
  constructor
  · rintro ⟨r1, r2, q, q2, c2, w1, w2, rfl⟩
    obtain ⟨c', w1'⟩ := w1.regain (gn 1 B)
    obtain ⟨k, P, e1, e2, e3⟩ := I1.all (fun _ _ _ h => h) (s0 := (0, 0)) (P0 := fun y => y = 0) (c0 := 0) rfl rfl M w1' (by omega)
    have ek : k = f.1 := by omega
    subst ek
    have h0 := h1 (q, f.2) (by rw [e2]; simp) rfl
    obtain ⟨k, P, e1, e2, e3⟩ := I2.all (fun _ _ _ h => h) h0 (c0 := gn a b f.1 f.2) rfl M w2 (by omega)
    have ek : k = m := by omega
    subst ek
    exact ⟨(q2, l.2), P, e2, rfl, e3⟩
  · rintro ⟨s, P, e1, e2, e3⟩
    obtain ⟨_, hs⟩ := I2.sound m s P e1
    obtain ⟨s0, P0, c0, r2, c2, g1, g2, w2, rfl⟩ := hs x e3
    obtain ⟨k1, k2, k3⟩ := h2 s0 P0 g1
    have hc0 := k3 c0 g2
    subst hc0
    cases eL : CL f.1 s0 with
    | none => exact absurd eL k1
    | some PL =>
      obtain ⟨⟨y, hy⟩, hsL⟩ := I1.sound f.1 s0 PL eL
      obtain ⟨s00, P00, c00, r1, c1, g3, g4, w1, _⟩ := hsL y hy
      unfold Cz at g3
      split at g3
      · rename_i h00
        subst h00
        obtain ⟨c', w1'⟩ := w1.regain g0
        have hz := w1'.zero
        subst hz
        rw [Nat.zero_add] at w1'
        refine ⟨r1, r2, s0.1, s.1, c2, ?_, ?_, rfl⟩
        · rw [← k2]
          exact w1'
        · rw [← k2, ← e2, hm]
          exact w2
      · cases g3
def spLawOften : Sp := fun vs H Q _ => ∃ (pa fa la sh : Addr) (n : Nat) (es : List Ev) (f l : Nat × Int) (a b : Int), vs = [.ref pa, .ref fa, .ref la, .ref sh] ∧ PartsAt H pa n es ∧ MOk n es ∧ Tp2 H fa (f.1 : Nat) f.2 ∧ Tp2 H la (l.1 : Nat) l.2 ∧ f.1 < l.1 ∧ l.1 ≤ 300 ∧ -1500 ≤ f.2 ∧ f.2 ≤ 1500 ∧
  Tp2 H sh a b ∧ a.natAbs ≤ 1000000 ∧ b.natAbs ≤ 1000000 ∧
  ∀ H' : Hp, Same H H' → (OftenIs es f l a b none → Q .non H') ∧ ∀ (p : Addr) (x y : Int), Tp2 H' p x y → OftenIs es f l a b (some (x, y)) → Q (.ref p) H'
theorem kv_ints {ks : List (L2.Key × V)} {xs : List Int} (h : ks.map (·.1) = xs.map Sum.inl) : (ks.map fun kv => kV kv.1) = xs.map V.int := by
  have : (ks.map fun kv => kV kv.1) = (ks.map (·.1)).map kV := by rw [List.map_map]; rfl
  rw [this, h, List.map_map]
  rfl
section
variable {P : Program} {w : World} {K : PySem.W.Frag} {mg : Str → Option Value} {base : Heap}
abbrev n__law_often : List Str := ["_law_parts_here", "_law_first", "_law_last", "_law_share_here", "_law_lead", "_law_here", "_law_starts", "_law_state", "_law_layers", "_law_counts"]
theorem sc__law_often : FnScope n__law_often ["_law_parts_here", "_law_first", "_law_last", "_law_share_here"] (defScope s__law_often) := ⟨rfl, rfl, rfl, by decide +kernel, rfl, by decide +kernel, by decide +kernel⟩
theorem ok__law_often (D : Df K mg "_law_often" s__law_often) (T : TX K mg) (g__law_flow : Fk P w K mg base 2 "_law_flow" ["_law_parts_here", "_law_starts", "_law_begin", "_law_end", "_law_share_here"] spFlow) : Fk P w K mg base 3 "_law_often" ["_law_parts_here", "_law_first", "_law_last", "_law_share_here"] spLawOften := by
  refine fk_of D sc__law_often (fun _ _ _ _ _ _ us hl => match us, hl with | [_, _, _, _], _ => rfl) (fun vs H Q E h => ?_) (fun f cdv A outer s H vs Q E hr h => ?_)
  · obtain ⟨_, _, _, _, _, _, _, _, _, _, rfl, _⟩ := h
    rfl
  · obtain ⟨pa, fa, la, sh, n, es, ⟨t1, x1⟩, ⟨t2, x2⟩, a, b, rfl, hpa, hM, hf, hl, hfl, hl3, hf1, hf2, hsh, hab, hbb, q⟩ := h
    dsimp only at hf hl hfl hl3 hf1 hf2 q
    refine ⟨_, (pss_cons (ps_set (i := 4) sc__law_often.nd rfl (Or.inl rfl) (pe_fk g__law_flow hr (by rfl) (pa_cons (pv 0) (pa_cons (pe_dispT (hu_of hr) (pe_tup (pa_cons pe_int (pa_cons pe_int pa_nil))) (pe_disp (pps_cons pe_int pe_bl pps_nil) (by rfl) (by rfl) (fun z => by cases z) (by decide))) (pa_cons pe_int (pa_cons (pe_ix ix_tup (pv 1) pe_int (fun _ _ => rfl)) (pa_cons (pe_tup (pa_cons pe_int (pa_cons (pe_op op_pow pe_int pe_int) pa_nil))) pa_nil)))))))
      (pss_cons (ps_set (i := 5) sc__law_often.nd rfl (Or.inl rfl) (pe_callTy call_int1 (by rfl) T.int (by decide +kernel) (pa_cons (pe_and (pe_cmpR op_gt (pe_ix ix_tup (pv 1) pe_int (fun _ _ => rfl)) pe_int (nomark _)) (pe_one (pe_cmpR op_eqI (pe_op op_mulW (pe_ix ix_tup (pv 3) pe_int (fun _ _ => rfl)) (pe_ix ix_tup (pv 1) pe_int (fun _ _ => rfl))) (pe_op op_mulW (pe_ix ix_tup (pv 3) pe_int (fun _ _ => rfl)) (pe_ix ix_tup (pv 1) pe_int (fun _ _ => rfl))) (nomark _)))) pa_nil)))
      (pss_cons (ps_set (i := 6) sc__law_often.nd rfl (Or.inl rfl) pe_dnewT)
      (pss_cons (ps_lock (ps_for PassesOwn.never (by rfl) (pi_keys (pe_ix ix_list (pv 4) (pe_un un_neg pe_int) (fun _ _ => rfl))) (pg_name (i := 7) sc__law_often.nd rfl (Or.inl rfl))
       (pss_one (ps_if (pt_cmpR op_eqI (pe_ix ix_tup (pv 7) pe_int (fun _ _ => rfl)) (pe_ix ix_tup (pv 1) pe_int (fun _ _ => rfl)) (nomark _)) (pss_one (ps_dput (hu_of hr) (pv 6) (pv 7) (pe_disp (pps_cons (pv 5) pe_bl pps_nil) (by rfl) (by rfl) (fun z => by cases z) (by decide)) rfl)) pss_nil))))
      (pss_cons (ps_set (i := 8) sc__law_often.nd rfl (Or.inl rfl) (pe_fk g__law_flow hr (by rfl) (pa_cons (pv 0) (pa_cons (pv 6) (pa_cons (pe_ix ix_tup (pv 1) pe_int (fun _ _ => rfl)) (pa_cons (pe_ix ix_tup (pv 2) pe_int (fun _ _ => rfl)) (pa_cons (pv 3) pa_nil)))))))
      (pss_cons (ps_set (i := 9) sc__law_often.nd rfl (Or.inl rfl) (pe_lst pa_nil))
      (pss_cons (ps_lock (ps_for PassesOwn.never (by rfl) (pi_keys (pe_ix ix_list (pv 8) (pe_un un_neg pe_int) (fun _ _ => rfl))) (pg_name (i := 7) sc__law_often.nd rfl (Or.inl rfl))
       (pss_one (ps_if (pt_cmpR op_eqI (pe_ix ix_tup (pv 7) pe_int (fun _ _ => rfl)) (pe_ix ix_tup (pv 2) pe_int (fun _ _ => rfl)) (nomark _)) (pss_one (ps_set (i := 9) sc__law_often.nd rfl (Or.inl rfl) (pe_op op_cat (pv 9) (pe_callTy (call_list_dK (by rfl)) (by rfl) T.list (by decide +kernel) (pa_cons (pe_dget (hu_of hr) (pe_ix ix_list (pv 8) (pe_un un_neg pe_int) (fun _ _ => rfl)) (pv 7) (fun _ _ => rfl)) pa_nil))))) pss_nil))))
      (pss_one (ps_ret (pe_ifExp (pt_cmpR op_gt (pe_callB call_len_seq (by rfl) T.len (by decide +kernel) (pa_cons (pv 9) pa_nil)) pe_int (nomark _)) (pe_tup (pa_cons (pe_callB (cr_min (by rfl)) (by rfl) T.min (by decide +kernel) (pa_cons (pv 9) pa_nil)) (pa_cons (pe_callB (cr_max (by rfl)) (by rfl) T.max (by decide +kernel) (pa_cons (pv 9) pa_nil)) pa_nil))) pe_non)))))))))), ?_⟩
    have hf' : H fa = some (.tup [.int (t1 : Nat), .int x1]) := hf
    have hl' : H la = some (.tup [.int (t2 : Nat), .int x2]) := hl
    have hsh' : H sh = some (.tup [.int a, .int b]) := hsh
    -- the layers from the begin
    refine ⟨_, rfl, fun dp ndp => ⟨le_line (n := 2) (by decide), fun ka nka ip nip => ⟨upd_same, [(.inl 0, .bl true)], rfl, by decide, ?_⟩⟩⟩
    have nkd : ka ≠ dp := fun z => by rw [z, upd_same] at nka; cases nka
    have nid : ip ≠ dp := fun z => by rw [z, upd_ne nkd.symm, upd_same] at nip; cases nip
    have nik : ip ≠ ka := fun z => by rw [z, upd_same] at nip; cases nip
    refine ⟨?_, kS (0, 0), ka, rfl, ?_, ?_⟩
    · rw [upd_ne nid.symm, upd_ne nid.symm, upd_ne nkd.symm, upd_same]
    · rw [upd_ne nik.symm, upd_ne nik.symm, upd_same]
      rfl
    generalize hH1 : upd (upd (upd (upd (upd H dp (.dT [])) ka (.tup [.int 0, .int 0])) ip (.dK [])) ip (.dK (mergeK [] [(.inl 0, .bl true)]))) dp (.dT [(kS (0, 0), .ref ip)]) = H1
    have s1 : Same H H1 := fun c o e => by
      have n1 := ne_of_none e ndp
      have n2 : c ≠ ka := fun z => by rw [← z, upd_ne n1, e] at nka; cases nka
      have n3 : c ≠ ip := fun z => by rw [← z, upd_ne n2, upd_ne n1, e] at nip; cases nip
      rw [← hH1, upd_ne n1, upd_ne n3, upd_ne n3, upd_ne n2, upd_ne n1]
      exact e
    have hdp1 : H1 dp = some (.dT [(kS (0, 0), .ref ip)]) := by rw [← hH1, upd_same]
    have hip1 : H1 ip = some (.dK [(.inl 0, .bl true)]) := by rw [← hH1, upd_ne nid, upd_same]; rfl
    clear hH1
    refine ⟨_, rfl, fa, _, 0, .int (t1 : Nat), rfl, rfl, SqT.of (s1 _ _ hf'), atI_nat (j := 0) rfl, 10, 9, rfl, rfl, ⟨by decide, by decide, by decide⟩, le_line (n := 2) (by decide), fun sh1 nsh1 => ?_⟩
    have s2 := s1.trans (same_new (o := HO.tup [.int 1, .int (10 ^ (9 : Int).toNat)]) nsh1)
    have s12 : Same H1 _ := same_new (o := HO.tup [.int 1, .int (10 ^ (9 : Int).toNat)]) nsh1
    refine ⟨pa, dp, sh1, n, 0, t1, es, 1, 10 ^ (9 : Int).toNat, _, Cz, ?_, hpa.same s2, hM, (disp_cz hdp1 hip1).same s12, cz_ok hM.n1, upd_same, by decide, by decide, by omega, by decide, fun H3 pL dsL AL CL s3 hFL hdL hIL => ?_⟩
    · rw [Nat.zero_add]
      rfl
    have s03 := s2.trans s3
    have hf3 := s03 _ _ hf'
    have hsh3 := s03 _ _ hsh'
    -- here
    apply via (fun σ H' => H' = H3 ∧ σ = [some (.ref pa), some (.ref fa), some (.ref la), some (.ref sh), some (.ref pL), some (.int (gn a b t1 x1)), none, none, none, none])
    · intro rest
      refine ⟨_, rfl, fa, _, 0, .int (t1 : Nat), rfl, rfl, SqT.of hf3, atI_nat (j := 0) rfl, (t1 : Int), 0, rfl, rfl, ?_⟩
      by_cases h0 : 0 < t1
      · refine ⟨true, congrArg V.bl (decide_eq_true (by omega)), iteT ?_⟩
        refine ⟨_, rfl, sh, _, 1, .int b, rfl, rfl, SqT.of hsh3, atI_nat (j := 1) rfl, _, rfl, fa, _, 1, .int x1, rfl, rfl, SqT.of hf3, atI_nat (j := 1) rfl, b, x1, rfl, rfl, cmul_small hbb (by omega), _, rfl, sh, _, 0, .int a, rfl, rfl, SqT.of hsh3, atI_nat (j := 0) rfl, _, rfl, fa, _, 0, .int (t1 : Nat), rfl, rfl, SqT.of hf3, atI_nat (j := 0) rfl, a, (t1 : Int), rfl, rfl, cmul_small hab (by omega), b * x1, a * (t1 : Int), rfl, rfl, .inr ⟨decide (b * x1 = a * (t1 : Int)), rfl, ?_⟩⟩
        show tSeq _ _ _ _ _
        refine rest _ _ ⟨rfl, ?_⟩
        rw [← gn_more h0]
        rfl
      · refine ⟨false, congrArg V.bl (decide_eq_false (by omega)), iteF (.inr ⟨false, rfl, ?_⟩)⟩
        refine rest _ _ ⟨rfl, ?_⟩
        have eg : gn a b t1 x1 = 0 := if_neg (fun z => h0 z.1)
        rw [eg]
        rfl
    rintro σ H' ⟨rfl, rfl⟩
    have hgn := gn_01 a b t1 x1
    obtain ⟨c0, hc0⟩ : ∃ c0 : Nat, gn a b t1 x1 = (c0 : Int) := ⟨(gn a b t1 x1).toNat, by omega⟩
    -- the starts
    refine fun Ds nDs => ?_
    have s34 : Same H' (upd H' Ds (.dT [])) := same_new nDs
    have hDs4 : upd H' Ds (.dT []) Ds = some (.dT []) := upd_same
    have nDsH' := nDs
    generalize upd H' Ds (.dT []) = H4 at s34 hDs4
    have hFL4 := hFL.same s34
    obtain ⟨dL, hdL2⟩ : ∃ dL, dsL[t1]? = some dL := ⟨dsL[t1]'(by omega), List.getElem?_eq_getElem (by omega)⟩
    obtain ⟨kvL, y1, y2, y3⟩ := (hFL4.lay t1 dL hdL2).ex
    have nDsd : Ds ≠ dL := fun z => by
      obtain ⟨_, z1, _⟩ := (hFL.lay t1 dL hdL2).ex
      rw [← z, nDsH'] at z1
      cases z1
    have npL : pL ≠ dL := ne_of hFL4.at_ y1 (by intro z; cases z)
    have s04 := s03.trans s34
    refine ⟨dL, _, y1, True.intro, fun od => ?_⟩
    have tkL : TupK H4 (upd H4 dL (.frz od (.dT kvL))) := TupK.upd y1 (by intro xs z; cases z)
    have hpL5 : upd H4 dL (.frz od (.dT kvL)) pL = some (.lst (dsL.map V.ref)) := by rw [upd_ne npL]; exact hFL4.at_
    have hDs5 : upd H4 dL (.frz od (.dT kvL)) Ds = some (.dT []) := by rw [upd_ne nDsd]; exact hDs4
    have hdL5 : upd H4 dL (.frz od (.dT kvL)) dL = some (.frz od (.dT kvL)) := upd_same
    have hf5 := tkL _ _ (s04 _ _ hf')
    have hno : ∀ c o, H c = some o → c ≠ Ds := fun c o e => ne_of_none (s03 _ _ e) nDsH'
    have nDs5 : ∀ c, upd H4 dL (.frz od (.dT kvL)) c = none → c ≠ Ds := fun c e z => by rw [z, hDs5] at e; cases e
    generalize hHL : upd H4 dL (.frz od (.dT kvL)) = HL at tkL hpL5 hDs5 hdL5 hf5 nDs5
    refine ⟨_, rfl, 1, rfl, pL, _, _, .ref dL, rfl, rfl, SqL.of hpL5, last_at hdL hdL2, dL, od, rfl, .inr ⟨kvL, hdL5, ?_⟩⟩
    refine for_it walk_keysT (fun i σ H' => ∃ v7 kv A0, σ = [some (.ref pa), some (.ref fa), some (.ref la), some (.ref sh), some (.ref pL), some (.int (gn a b t1 x1)), some (.ref Ds), v7, none, none] ∧ (∀ c o, HL c = some o → c ≠ Ds → H' c = some o) ∧ H' Ds = some (.dT kv) ∧ Box kv ∧ FLayV kv A0 ∧
        (∀ s s' a, A0 s = some a → A0 s' = some a → s = s') ∧ (∀ s a, A0 s = some a → HL a = none ∧ H' a = some (.dK [(.inl (c0 : Int), .bl true)])) ∧ ∀ s : Sta, A0 s ≠ none ↔ s.2 = x1 ∧ ∃ j, j < i ∧ (kvL[j]?.map (·.1)) = some (kS s))
      ⟨none, [], fun _ => none, rfl, fun c o e _ => e, hDs5, Box.nil, fun s => ⟨fun _ => rfl, fun a e => by cases e⟩, fun s s' a e => (by cases e), fun s a e => (by cases e), fun s => ⟨fun h => absurd rfl h, fun ⟨_, j, hj, _⟩ => absurd hj (Nat.not_lt_zero _)⟩⟩ (fun i σ H' _ ⟨_, _, _, _, z, _⟩ => z _ _ hdL5 nDsd.symm) ?_ ?_
    · rintro i v σ H6 H6' hi ⟨v7, kv, A0, rfl, k6, d1, d2, d3, d4, d5, d6⟩ ⟨rfl, kk, vv, qa, e1, rfl, e3⟩
      obtain ⟨st, aI, hq, hA, hB⟩ := y3.at y2 e1
      cases hq
      have hqa : H6' qa = some (.tup [.int (st.1 : Nat), .int st.2]) := e3
      have hf6 : H6' fa = some (.tup [.int (t1 : Nat), .int x1]) := k6 _ _ hf5 (hno _ _ hf')
      have nkst : ∀ j : Nat, j < i → (kvL[j]?.map (·.1)) ≠ some (kS st) := fun j hj e => by
        cases ej : kvL[j]? with
        | none => rw [ej] at e; cases e
        | some qj =>
          rw [ej] at e
          have e' : qj.1 = kS st := Option.some.inj e
          have h1 : (kvL.map (·.1))[j]? = some (kS st) := by rw [List.getElem?_map, ej]; exact congrArg some e'
          have h2 : (kvL.map (·.1))[i]? = some (kS st) := by rw [List.getElem?_map, e1]; rfl
          have := nd_ix y2.nd h1 h2
          omega
      refine ⟨_, rfl, qa, _, 1, .int st.2, rfl, rfl, SqT.of hqa, atI_nat (j := 1) rfl, _, rfl, fa, _, 1, .int x1, rfl, rfl, SqT.of hf6, atI_nat (j := 1) rfl, st.2, x1, rfl, rfl, _, rfl, ifD (fun hsx => ?_) fun hsx => ?_⟩
      · refine fun ip2 nip2 => ⟨_, rfl, upd_same, [(.inl (gn a b t1 x1), .bl true)], rfl, (show 1 ≤ 15 by decide), ?_⟩
        have nDi : Ds ≠ ip2 := ne_of_none d1 nip2
        have nqi : qa ≠ ip2 := ne_of_none hqa nip2
        have gDs : upd (upd H6' ip2 (.dK [])) ip2 (.dK (mergeK [] [(.inl (gn a b t1 x1), .bl true)])) Ds = some (.dT kv) := by rw [upd_ne nDi, upd_ne nDi]; exact d1
        have gqa : upd (upd H6' ip2 (.dK [])) ip2 (.dK (mergeK [] [(.inl (gn a b t1 x1), .bl true)])) qa = some (.tup ((kS st).map kV)) := by rw [upd_ne nqi, upd_ne nqi]; exact hqa
        have gip : upd (upd H6' ip2 (.dK [])) ip2 (.dK (mergeK [] [(.inl (gn a b t1 x1), .bl true)])) ip2 = some (.dK [(.inl (c0 : Int), .bl true)]) := by rw [upd_same, ← hc0]; rfl
        have g6 : ∀ c, c ≠ ip2 → upd (upd H6' ip2 (.dK [])) ip2 (.dK (mergeK [] [(.inl (gn a b t1 x1), .bl true)])) c = H6' c := fun c hc => by rw [upd_ne hc, upd_ne hc]
        generalize upd (upd H6' ip2 (.dK [])) ip2 (.dK (mergeK [] [(.inl (gn a b t1 x1), .bl true)])) = H7 at gDs gqa gip g6
        have hA0n : A0 st = none := by
          cases e : A0 st with
          | none => rfl
          | some a0 =>
            obtain ⟨_, j, hj, hjk⟩ := (d6 st).mp (by rw [e]; simp)
            exact absurd hjk (nkst j hj)
        have hipL : HL ip2 = none := by
          cases e : HL ip2 with
          | none => rfl
          | some o =>
            have := k6 _ _ e nDi.symm
            rw [nip2] at this
            cases this
        refine ⟨_, rfl, _, rfl, Ds, _, rfl, DPut.t (k := kS st) gDs gqa d2.lt, _, _, fun s => if s = st then some ip2 else A0 s, rfl, fun c o e hc => ?_, upd_same, d2.put hB _, d3.put st ip2, fun s s' a' h1 h2 => ?_, fun s a' h1 => ?_, fun s => ?_⟩
        · rw [upd_ne hc, g6 _ (ne_of_none (k6 _ _ e hc) nip2)]
          exact k6 _ _ e hc
        · have hr : ∀ s, A0 s ≠ some ip2 := fun s h => by
            have := (d5 s ip2 h).2
            rw [nip2] at this
            cases this
          dsimp only at h1 h2
          split at h1
          · rename_i z1
            split at h2
            · rename_i z2
              exact z1.trans z2.symm
            · cases h1
              exact absurd h2 (hr s')
          · split at h2
            · cases h2
              exact absurd h1 (hr s)
            · exact d4 _ _ _ h1 h2
        · dsimp only at h1
          split at h1
          · cases h1
            exact ⟨hipL, by rw [upd_ne nDi.symm]; exact gip⟩
          · obtain ⟨w1, w2⟩ := d5 s a' h1
            refine ⟨w1, ?_⟩
            rw [upd_ne (nDs5 _ w1), g6 _ (ne_of_none w2 nip2)]
            exact w2
        · dsimp only
          by_cases z : s = st
          · rw [if_pos z]
            subst z
            exact ⟨fun _ => ⟨hsx, i, by omega, by rw [e1]; rfl⟩, fun _ => by simp⟩
          · rw [if_neg z, d6]
            constructor
            · rintro ⟨w1, j, w2, w3⟩
              exact ⟨w1, j, by omega, w3⟩
            · rintro ⟨w1, j, w2, w3⟩
              by_cases hji : j < i
              · exact ⟨w1, j, hji, w3⟩
              · have : j = i := by omega
                subst this
                rw [e1] at w3
                exact absurd (kS_inj (Option.some.inj w3)).symm z
      · refine ⟨_, kv, A0, rfl, k6, d1, d2, d3, d4, d5, fun s => ?_⟩
        rw [d6]
        constructor
        · rintro ⟨w1, j, w2, w3⟩
          exact ⟨w1, j, by omega, w3⟩
        · rintro ⟨w1, j, w2, w3⟩
          by_cases hji : j < i
          · exact ⟨w1, j, hji, w3⟩
          · have : j = i := by omega
            subst this
            rw [e1] at w3
            rw [← kS_inj (Option.some.inj w3)] at w1
            exact absurd w1 hsx
    rintro σ H6 ⟨v7, kv, A0, rfl, k6, d1, d2, d3, d4, d5, d6⟩
    refine ⟨k6 _ _ hdL5 nDsd.symm, ?_⟩
    have s6 : Same H (upd H6 dL (.dT kvL)) := fun c o e => by
      by_cases z : c = dL
      · subst z
        rw [upd_same]
        have := s04 _ _ e
        rw [y1] at this
        exact this
      · rw [upd_ne z]
        refine k6 c o ?_ (hno c o e)
        rw [← hHL, upd_ne z]
        exact s04 _ _ e
    have hA0s : ∀ s, A0 s ≠ none ↔ CL t1 s ≠ none ∧ s.2 = x1 := fun s => by
      rw [d6]
      constructor
      · rintro ⟨z1, j, z2, z3⟩
        refine ⟨?_, z1⟩
        cases e : kvL[j]? with
        | none => rw [e] at z3; cases z3
        | some qq =>
          rw [e] at z3
          obtain ⟨s3', a3, hq, hA3, _⟩ := y3.at y2 e
          subst hq
          have := kS_inj (Option.some.inj z3)
          subst this
          obtain ⟨P3, hP3, _⟩ := hFL4.set _ _ _ hA3
          rw [hP3]
          simp
      · rintro ⟨z1, z2⟩
        cases eA : AL t1 s with
        | none => exact absurd (hFL4.non _ _ eA) z1
        | some a3 =>
          obtain ⟨j, hj⟩ := y3.ix eA
          exact ⟨z2, j, (List.getElem?_eq_some_iff.mp hj).1, by rw [hj]; rfl⟩
    obtain ⟨C0, hC0⟩ : ∃ C0 : Sta → Option (Int → Prop), C0 = fun s => if A0 s = none then none else some fun y => y = gn a b t1 x1 := ⟨_, rfl⟩
    have nadL : ∀ s a', A0 s = some a' → a' ≠ dL := fun s a' h z => by
      have := (d5 s a' h).1
      rw [z, hdL5] at this
      cases this
    have hst6 : FStart (upd H6 dL (.dT kvL)) Ds A0 C0 := by
      refine ⟨⟨kv, by rw [upd_ne nDsd]; exact d1, d2, d3⟩, d4, fun s a' h => ?_, fun s h => ?_⟩
      · refine ⟨fun y => y = gn a b t1 x1, by rw [hC0]; dsimp only; rw [if_neg (by rw [h]; simp)], ?_⟩
        rw [hc0]
        exact one_set (by omega) (by rw [upd_ne (nadL s a' h)]; exact (d5 s a' h).2)
      · rw [hC0]
        dsimp only
        rw [if_pos h]
    have hC0n : ∀ s P, C0 s = some P → (CL t1 s ≠ none ∧ s.2 = x1) ∧ P = fun y => y = gn a b t1 x1 := fun s P h => by
      rw [hC0] at h
      dsimp only at h
      split at h
      · cases h
      · rename_i hz
        exact ⟨(hA0s s).mp hz, (Option.some.inj h).symm⟩
    have hC0k : C0Ok n C0 := fun s P h => by
      obtain ⟨⟨z1, z2⟩, rfl⟩ := hC0n s P h
      cases eC : CL t1 s with
      | none => exact absurd eC z1
      | some PL =>
        have := hIL.small hM (gn_01 _ _) (cz_ok hM.n1) (by omega) eC
        exact ⟨this.2.1, by omega, by omega, ⟨_, rfl⟩, fun x hx => by rw [hx]; exact hgn⟩
    obtain ⟨m, hm2⟩ : ∃ m, t2 = t1 + m := ⟨t2 - t1, by omega⟩
    generalize upd H6 dL (.dT kvL) = H8 at s6 hst6
    have hf8 := s6 _ _ hf'
    have hl8 := s6 _ _ hl'
    refine ⟨_, rfl, _, rfl, _, rfl, fa, _, 0, .int (t1 : Nat), rfl, rfl, SqT.of hf8, atI_nat (j := 0) rfl, _, rfl, la, _, 0, .int (t2 : Nat), rfl, rfl, SqT.of hl8, atI_nat (j := 0) rfl, _, rfl, pa, Ds, sh, n, t1, m, es, a, b, A0, C0, by rw [← hm2], hpa.same s6, hM, hst6, hC0k, s6 _ _ hsh, Nat.lt_of_le_of_lt hab (by decide), Nat.lt_of_le_of_lt hbb (by decide), by omega, by omega, fun H9 pT ds AA CC s9 hFT hdT hIT => ?_⟩
    have hruns := flow_runs hM (f := (t1, x1)) (l := (t2, x2)) (a := a) (b := b) hm2 hIL (C0 := C0) (fun s z1 z2 => by
      rw [hC0]
      dsimp only
      rw [if_neg ((hA0s s).mpr ⟨z1, z2⟩)]) (fun s P h => by
      obtain ⟨⟨z1, z2⟩, rfl⟩ := hC0n s P h
      exact ⟨z1, z2, fun y hy => hy⟩) hIT
    have s09 := s6.trans s9
    -- the counts
    refine ⟨Nat.zero_le _, fun Dc nDc => ?_⟩
    have sDc : Same H9 (upd H9 Dc (.lst [])) := same_new nDc
    have hDcA : upd H9 Dc (.lst []) Dc = some (.lst (([] : List Int).map V.int)) := upd_same
    generalize upd H9 Dc (.lst []) = HA at sDc hDcA
    have hFA := hFT.same sDc
    obtain ⟨dT, hdT2⟩ : ∃ dT, ds[m]? = some dT := ⟨ds[m]'(by omega), List.getElem?_eq_getElem (by omega)⟩
    obtain ⟨kvT, w1, w2, w3⟩ := (hFA.lay m dT hdT2).ex
    have npT : pT ≠ dT := ne_of hFA.at_ w1 (by intro z; cases z)
    refine ⟨dT, _, w1, True.intro, fun od2 => ?_⟩
    have tkT : TupK HA (upd HA dT (.frz od2 (.dT kvT))) := TupK.upd w1 (by intro xs z; cases z)
    have hpTB : upd HA dT (.frz od2 (.dT kvT)) pT = some (.lst (ds.map V.ref)) := by rw [upd_ne npT]; exact hFA.at_
    have hdTB : upd HA dT (.frz od2 (.dT kvT)) dT = some (.frz od2 (.dT kvT)) := upd_same
    have hDcB : upd HA dT (.frz od2 (.dT kvT)) Dc = some (.lst (([] : List Int).map V.int)) := by rw [upd_ne (ne_of hDcA w1 (by intro z; cases z))]; exact hDcA
    have hlB := tkT _ _ (sDc _ _ (s09 _ _ hl'))
    have hinB : ∀ s a', AA m s = some a' → ∃ P, CC m s = some P ∧ CSet (upd HA dT (.frz od2 (.dT kvT))) a' P := fun s a' h => by
      obtain ⟨P1, h1, h2⟩ := hFA.set m s a' h
      obtain ⟨ks, hks⟩ := h2.some
      exact ⟨P1, h1, h2.keep (upd_ne (ne_of hks w1 (by intro z; cases z)))⟩
    generalize hHB : upd HA dT (.frz od2 (.dT kvT)) = HB at tkT hpTB hdTB hDcB hlB hinB
    refine ⟨_, rfl, 1, rfl, pT, _, _, .ref dT, rfl, rfl, SqL.of hpTB, last_at hdT hdT2, dT, od2, rfl, .inr ⟨kvT, hdTB, ?_⟩⟩
    refine for_it walk_keysT (fun i σ H' => ∃ v7 cc cl, σ = [some (.ref pa), some (.ref fa), some (.ref la), some (.ref sh), some (.ref pL), some (.int (gn a b t1 x1)), some (.ref Ds), v7, some (.ref pT), some (.ref cc)] ∧ Same HB H' ∧ H' cc = some (.lst ((cl : List Int).map V.int)) ∧ cl.length ≤ 401 * i ∧
        ∀ y, y ∈ cl ↔ ∃ j s P, j < i ∧ (kvT[j]?.map (·.1)) = some (kS s) ∧ s.2 = x2 ∧ CC m s = some P ∧ P y)
      ⟨_, Dc, [], rfl, Same.refl _, hDcB, Nat.zero_le _, fun y => ⟨fun h => (by cases h), fun ⟨j, _, _, hj, _⟩ => absurd hj (Nat.not_lt_zero _)⟩⟩ (fun i σ H' _ ⟨_, _, _, _, z, _⟩ => z _ _ hdTB) ?_ ?_
    · rintro i v σ HC HC' hi ⟨v7, cc, cl, rfl, sC, hcc, hcl, hcm⟩ ⟨rfl, kk, vv, qa, e1, rfl, e3⟩
      obtain ⟨st, aI, hq, hA, hB⟩ := w3.at w2 e1
      cases hq
      have hqa : HC' qa = some (.tup [.int (st.1 : Nat), .int st.2]) := e3
      have hlC := sC _ _ hlB
      obtain ⟨Pst, hPst, hset⟩ := hinB st aI hA
      obtain ⟨ks, g1, g2, g3, g4⟩ := (hset.same sC).ex
      obtain ⟨xs, hxs⟩ := keys_inl ks g3
      have hxl : xs.length ≤ 401 := by
        have h1 := cset_len g2 g3
        have h2 := congrArg List.length hxs
        rw [List.length_map, List.length_map] at h2
        omega
      refine ⟨_, rfl, qa, _, 1, .int st.2, rfl, rfl, SqT.of hqa, atI_nat (j := 1) rfl, _, rfl, la, _, 1, .int x2, rfl, rfl, SqT.of hlC, atI_nat (j := 1) rfl, st.2, x2, rfl, rfl, _, rfl, ifD (fun hsx => ?_) fun hsx => ?_⟩
      · have hkl := w2.len
        refine ⟨_, rfl, _, rfl, 1, rfl, pT, _, _, .ref dT, rfl, rfl, SqL.of (sC _ _ hpTB), last_at hdT hdT2, _, rfl, dT, .ref aI, rfl, .inr ⟨kvT, kS st, qa, .inr ⟨od2, sC _ _ hdTB⟩, rfl, hqa, ((w3 st).2 aI hA).symm⟩, aI, ks, rfl, g1, fun lq nlq => ?_⟩
        have slq : Same HC' (upd HC' lq (.lst (ks.map fun kv => kV kv.1))) := same_new nlq
        refine ⟨cc, lq, _, _, rfl, rfl, slq _ _ hcc, upd_same, le_line (by rw [List.length_map, List.length_map]; have := congrArg List.length hxs; rw [List.length_map, List.length_map] at this; omega), fun cp ncp => ?_⟩
        refine ⟨_, cp, cl ++ xs, rfl, (sC.trans slq).trans (same_new ncp), ?_, by rw [List.length_append]; omega, fun y => ?_⟩
        · rw [upd_same, kv_ints hxs, List.map_append]
        · rw [List.mem_append, hcm]
          constructor
          · rintro (⟨j, s, P, h1, h2⟩ | h)
            · exact ⟨j, s, P, by omega, h2⟩
            · refine ⟨i, st, Pst, by omega, by rw [e1]; rfl, hsx, hPst, ?_⟩
              rw [g4, valV_ne, hxs, mem_inl]
              exact h
          · rintro ⟨j, s, P, h1, h2, h3, h4, h5⟩
            by_cases hji : j < i
            · exact .inl ⟨j, s, P, hji, h2, h3, h4, h5⟩
            · have : j = i := by omega
              subst this
              rw [e1] at h2
              have := kS_inj (Option.some.inj h2)
              subst this
              rw [hPst] at h4
              cases h4
              rw [g4, valV_ne, hxs, mem_inl] at h5
              exact .inr h5
      · refine ⟨_, cc, cl, rfl, sC, hcc, by omega, fun y => ?_⟩
        rw [hcm]
        constructor
        · rintro ⟨j, s, P, h1, h2⟩
          exact ⟨j, s, P, by omega, h2⟩
        · rintro ⟨j, s, P, h1, h2, h3, h4, h5⟩
          by_cases hji : j < i
          · exact ⟨j, s, P, hji, h2, h3, h4, h5⟩
          · have : j = i := by omega
            subst this
            rw [e1] at h2
            have := kS_inj (Option.some.inj h2)
            subst this
            exact absurd h3 hsx
    · rintro σ HC ⟨v7, cc, cl, rfl, sC, hcc, hcl, hcm⟩
      refine ⟨sC _ _ hdTB, ?_⟩
      have sHA : Same HA (upd HC dT (.dT kvT)) := by
        rw [← hHB] at sC
        exact same_unlock sC w1
      have sall : Same H (upd HC dT (.dT kvT)) := (s09.trans sDc).trans sHA
      have hccF : upd HC dT (.dT kvT) cc = some (.lst (cl.map V.int)) := by rw [upd_ne (ne_of hcc (sC _ _ hdTB) (by intro z; cases z))]; exact hcc
      have hmem : ∀ y, y ∈ cl ↔ RunsN es (t1, x1) (t2, x2) a b y := fun y => by
        rw [hcm, hruns]
        constructor
        · rintro ⟨j, s, P, h1, h2, h3, h4, h5⟩
          exact ⟨s, P, h4, h3, h5⟩
        · rintro ⟨s, P, h4, h3, h5⟩
          cases eA : AA m s with
          | none => rw [hFA.non _ _ eA] at h4; cases h4
          | some a' =>
            obtain ⟨j, hj⟩ := w3.ix eA
            exact ⟨j, s, P, (List.getElem?_eq_some_iff.mp hj).1, by rw [hj]; rfl, h3, h4, h5⟩
      generalize upd HC dT (.dT kvT) = HF at sall hccF
      refine ⟨_, rfl, cc, _, rfl, .inl (SqL.of hccF), (cl.length : Int), 0, by rw [List.length_map], rfl, _, rfl, ifD (fun h0 => ?_) fun h0 => ?_⟩
      · refine ⟨_, rfl, cc, cl, rfl, SqL.of hccF, by omega, fun mn hmn hmn2 => ⟨_, rfl, cc, cl, rfl, SqL.of hccF, by omega, fun mx hmx hmx2 => ⟨le_line (n := 2) (by decide), fun p np => ?_⟩⟩⟩
        refine (q _ (sall.trans (same_new np))).2 p mn mx upd_same ⟨(hmem mn).mp hmn, (hmem mx).mp hmx, fun y hy => ⟨hmn2 y ((hmem y).mpr hy), hmx2 y ((hmem y).mpr hy)⟩⟩
      · refine (q HF sall).1 fun y hy => ?_
        have := (hmem y).mpr hy
        have hz : cl = [] := List.eq_nil_of_length_eq_zero (by omega)
        rw [hz] at this
        cases this
end
end Nl
namespace Nl
open PySem PySem.Spec PyProof.Rows L2 LamX NdefX
/-! ### boards as data -/
def bD (x y : Int) : PyData := .tuple [.int x, .int y]
theorem bD_lay (x y : Int) : (bD x y).canLay0 = true := by simp [bD, PyData.canLay0, PyData.canLayAll0]
theorem bD_depth (x y : Int) : (bD x y).depth = 1 := by simp [bD, PyData.depth, PyData.depthAll]
theorem bDs_lay : ∀ zs : List (Nat × Int), PyData.canLayAll0 (zs.map fun z => bD (z.1 : Nat) z.2) = true
  | [] => by simp [PyData.canLayAll0]
  | z :: zs => by simp [PyData.canLayAll0, bD_lay, bDs_lay zs]
theorem bDs_depth : ∀ zs : List (Nat × Int), PyData.depthAll (zs.map fun z => bD (z.1 : Nat) z.2) ≤ 1
  | [] => by simp [PyData.depthAll]
  | z :: zs => by
    have h1 := bDs_depth zs
    have h2 := bD_depth (z.1 : Nat) z.2
    simp only [List.map_cons, PyData.depthAll]
    omega
theorem bD_shaped (x y : Int) : SeqAt.shaped (bD x y) = true := by
  have h := bD_depth x y
  show ((bD x y).canLay0 && decide ((bD x y).depth ≤ 64)) = true
  rw [Bool.and_eq_true]
  exact ⟨bD_lay x y, decide_eq_true (by omega)⟩
theorem bDs_shaped (zs : List (Nat × Int)) : SeqAt.shaped (.list (zs.map fun z => bD (z.1 : Nat) z.2)) = true := by
  have h1 := bDs_depth zs
  have h2 : PyData.depth (.list (zs.map fun z => bD (z.1 : Nat) z.2)) ≤ 64 := by
    simp only [PyData.depth]
    omega
  show (PyData.canLay0 (.list (zs.map fun z => bD (z.1 : Nat) z.2)) && decide (PyData.depth (.list (zs.map fun z => bD (z.1 : Nat) z.2)) ≤ 64)) = true
  rw [Bool.and_eq_true]
  exact ⟨by simp only [PyData.canLay0]; exact bDs_lay zs, decide_eq_true h2⟩
theorem bD_eqv (x y x' y' : Int) : PyData.eqv (bD x y) (bD x' y') = (decide (x = x') && decide (y = y')) := by
  have e : PyData.eqv (bD x y) (bD x' y') = ((x == x') && ((y == y') && true)) := by simp only [bD, PyData.eqv, PyData.eqvAll]
  rw [e, Bool.and_true]
  rfl
theorem dp_b {K : PySem.W.Frag} {H : Hp} {p : Addr} {x y : Int} (h : Tp2 H p x y) : Dp K H (.ref p) (bD x y) := .tup (SqT.of h) (.cons (.int x) (.cons (.int y) .nil))
theorem dp_bs {K : PySem.W.Frag} {H : Hp} : ∀ {as : List Addr} {bs : List (Nat × Int)}, as.length = bs.length → (∀ (i : Nat) (b : Nat × Int), bs[i]? = some b → ∃ x, as[i]? = some x ∧ Tp2 H x (b.1 : Nat) b.2) → DpAll K H (as.map V.ref) (bs.map fun z => bD (z.1 : Nat) z.2)
  | [], [], _, _ => .nil
  | [], _ :: _, h, _ => (by cases h)
  | _ :: _, [], h, _ => (by cases h)
  | a :: as, b :: bs, h, k => by
    obtain ⟨x, h1, h2⟩ := k 0 b rfl
    cases h1
    exact .cons (dp_b h2) (dp_bs (by simpa using h) fun i c hc => k (i + 1) c hc)
theorem dp_list {K : PySem.W.Frag} {H : Hp} {a : Addr} {bs : List (Nat × Int)} (h : BdsAt H a bs) : Dp K H (.ref a) (.list (bs.map fun z => bD (z.1 : Nat) z.2)) := by
  obtain ⟨as, h1, h2, h3⟩ := h.ex
  exact .lst (SqL.of h1) (dp_bs h2 h3)
theorem op_eqDK {X : Cx} {K : PySem.W.Frag} (h : X.K = K) (hu : X.A.units + 64 < cLine) : OpR X (compareOp .Eq) (rEqD K) := by
  subst h
  exact op_eqD hu
theorem un65 {k : Nat} {A : Around} (r : Room k A) : A.units + 65 < cLine := by have := r.un; omega
/-- every board of a run lies within -/
theorem bds_le {es : List Ev} {n : Nat} (M : MOk n es) {g : Nat → Int → Int} {t : Nat} {s : Sta} {l : List Nat} {c : Int} (w : Way es g 0 (0, 0) t s l c) : ∀ b ∈ (0, 0) :: bds es 0 0 l, b.1 ≤ t := fun b hb => by
  obtain ⟨i, hi⟩ := List.mem_iff_getElem?.mp hb
  have hl : (bds es 0 ((0, 0) : Sta).2 l).length = l.length := bds_len w
  have hil := (List.getElem?_eq_some_iff.mp hi).1
  rw [List.length_cons] at hil
  have hl : (bds es 0 0 l).length = l.length := hl
  by_cases h : i < l.length
  · exact Nat.le_of_lt ((bds_lt M w).2 i b h hi)
  · have e : i = l.length := by omega
    subst e
    have := bds_last w
    have hi : ((0, ((0, 0) : Sta).2) :: bds es 0 ((0, 0) : Sta).2 l)[l.length]? = some b := hi
    rw [this] at hi
    cases hi
    exact Nat.le_refl _
def spIsRight : Sp := fun vs H Q _ => ∃ (pa ra fa la sh : Addr) (n : Nat) (es : List Ev) (f l : Nat × Int) (a b x : Int) (r1 r2 : List Nat), vs = [.ref pa, .ref ra, .ref fa, .ref la, .ref sh, .int x] ∧ PartsAt H pa n es ∧ MOk n es ∧ RunT H ra (r1 ++ r2) ∧ Run2 es f l a b r1 r2 x ∧ Tp2 H fa (f.1 : Nat) f.2 ∧ Tp2 H la (l.1 : Nat) l.2 ∧
  Tp2 H sh a b ∧ ShOk a b ∧ l.1 ≤ 300 ∧ ∀ H' : Hp, Same H H' → Q (.bl true) H'
section
variable {P : Program} {w : World} {K : PySem.W.Frag} {mg : Str → Option Value} {base : Heap}
abbrev n__law_is_right : List Str := ["_law_parts_here", "_law_run", "_law_first", "_law_last", "_law_share_here", "_law_many", "_law_standing", "_law_number", "_law_shown", "_law_board"]
theorem sc__law_is_right : FnScope n__law_is_right ["_law_parts_here", "_law_run", "_law_first", "_law_last", "_law_share_here", "_law_many"] (defScope s__law_is_right) := ⟨rfl, rfl, rfl, by decide +kernel, rfl, by decide +kernel, by decide +kernel⟩
theorem ok__law_is_right (D : Df K mg "_law_is_right" s__law_is_right) (T : TX K mg) (g__law_out : Fk P w K mg base 1 "_law_out" ["_law_parts_here", "_law_standing"] spOut) (g__law_boards_with : Fk P w K mg base 1 "_law_boards_with" ["_law_parts_here", "_law_run"] spBoardsWith) (g__law_low : Fk P w K mg base 2 "_law_low" ["_law_top", "_law_bottom"] spLow) :
    Fk P w K mg base 3 "_law_is_right" ["_law_parts_here", "_law_run", "_law_first", "_law_last", "_law_share_here", "_law_many"] spIsRight := by
  refine fk_of D sc__law_is_right (fun _ _ _ _ _ _ us hl => match us, hl with | [_, _, _, _, _, _], _ => rfl) (fun vs H Q E h => ?_) (fun f cdv A outer s H vs Q E hr h => ?_)
  · obtain ⟨_, _, _, _, _, _, _, _, _, _, _, _, _, _, rfl, _⟩ := h
    rfl
  · obtain ⟨pa, ra, fa, la, sh, n, es, f, l, a, b, x, r1, r2, rfl, hpa, hM, hrt, hR, hf, hl, hsh, hsk, hl3, q⟩ := h
    refine ⟨_, (pss_cons (ps_if (pt_not (pt_val (pe_isi (C := "tuple") T.isinstance T.tuple (pv 1)))) (pss_one (ps_ret pe_bl)) pss_nil)
      (pss_cons (ps_set (i := 6) sc__law_is_right.nd rfl (Or.inl rfl) pe_int)
      (pss_cons (ps_for PassesOwn.never (by rfl) (pi_tup (pv 1)) (pg_name (i := 7) sc__law_is_right.nd rfl (Or.inl rfl))
       (pss_cons (ps_if (PW.pt (pw_or (pt_val (pe_isi (C := "bool") T.isinstance T.bool (pv 7))) (pw_or (pt_not (pt_val (pe_isi (C := "int") T.isinstance T.int (pv 7)))) (pw_or1 (pt_cmpR op_notIn_seq (pv 7) (pe_fk g__law_out hr (by rfl) (pa_cons (pv 0) (pa_cons (pv 6) pa_nil))) (by rfl)))))) (pss_one (ps_ret pe_bl)) pss_nil)
       (pss_one (ps_set (i := 6) sc__law_is_right.nd rfl (Or.inl rfl) (pe_ix ix_tup (pe_ix ix_tup (pe_ix ix_tup (pv 0) pe_int (fun _ _ => rfl)) (pv 7) (fun _ _ => rfl)) pe_int (fun _ _ => rfl))))))
      (pss_cons (ps_set (i := 8) sc__law_is_right.nd rfl (Or.inl rfl) (pe_fk g__law_boards_with hr (by rfl) (pa_cons (pv 0) (pa_cons (pv 1) pa_nil))))
      (pss_cons (ps_if (PW.pt (pw_or (pt_cmpR (op_neD hr.units) (pe_ix ix_list (pv 8) (pe_un un_neg pe_int) (fun _ _ => rfl)) (pv 3) (nomark _)) (pw_or1 (pt_cmpR (op_notInD (un65 hr)) (pv 2) (pv 8) (by rfl))))) (pss_one (ps_ret pe_bl)) pss_nil)
      (pss_cons (ps_setLc (i := 8) (own := [("_law_board", 9)]) (g := gName 9) (by rfl) sc__law_is_right.nd rfl rfl (sw_true rfl rfl rfl (by decide +kernel)) (pi_list (pe_slice sl_list (pv 8) (po_some (pe_bm PySem.F.plainAttrs_list PySem.F.slot_list_index PySem.F.type_list_index (mt_indexD (un65 hr)) (pv 8) (pa_cons (pv 2) pa_nil))) po_none)) (blkOk_by (own := [("_law_board", 9)]) (N := n__law_is_right) (sc := defScope s__law_is_right) (by decide +kernel)) (fun _ _ _ _ _ => (pg_name (i := 9) sc__law_is_right.nd rfl (Or.inl rfl))) (fun _ _ _ _ _ => (pts_one (pt_cmpR op_gt (pe_ix (ix_tupK (K := K) rfl) (pv 9) pe_int (fun _ _ => rfl)) pe_int (nomark _)))) (fun _ _ _ _ _ => (pv 9)))
      (pss_one (ps_ret (pe_cmpR op_eqI (pe_callB call_len_seq (by rfl) T.len (by decide +kernel) (pa_cons (pe_lc (own := [("_law_board", 9)]) (g := gName 9) (by rfl) sc__law_is_right.nd (pi_list (pv 8)) (blkOk_by (own := [("_law_board", 9)]) (N := n__law_is_right) (sc := defScope s__law_is_right) (by decide +kernel)) (fun _ _ _ _ _ => (pg_name (i := 9) sc__law_is_right.nd rfl (Or.inl rfl))) (fun _ _ _ _ _ => (pts_one (pt_cmpR (op_eqDK (K := K) rfl hr.units) (pe_fk g__law_low hr (by rfl) (pa_cons (pe_ix (ix_tupK (K := K) rfl) (pv 9) pe_int (fun _ _ => rfl)) (pa_cons (pe_ix (ix_tupK (K := K) rfl) (pv 9) pe_int (fun _ _ => rfl)) pa_nil))) (pv 4) (nomark _)))) (fun _ _ _ _ _ => (pv 9))) pa_nil)) (pv 5) (nomark _)))))))))), ?_⟩
    have hrt : H ra = some (.tup ((r1 ++ r2).map fun j => V.int (j : Nat))) := hrt
    obtain ⟨q2, c, hw⟩ := hR.way
    have hlen : (r1 ++ r2).length ≤ 300 := by have := hw.len hM; omega
    obtain ⟨L1, L2, hbs, hL1, hlt, hlast, hcnt⟩ := hR.shown hM
    have hble := bds_le hM hw
    refine ⟨_, rfl, isi_of (.tup hrt) kb_tt ⟨true, rfl, iteF ?_⟩⟩
    refine ⟨_, rfl, ra, rfl, ⟨_, SqT.of hrt⟩, for_tup (fun i σ H' => ∃ v7 ti si, σ = [some (.ref pa), some (.ref ra), some (.ref fa), some (.ref la), some (.ref sh), some (.int x), some (.int ((si : Sta).1 : Nat)), v7, none, none] ∧ Mid es g0 0 (0, 0) l.1 (q2, l.2) (r1 ++ r2) i ti si ∧ Same H H')
      ⟨none, 0, (0, 0), rfl, Mid.zero hw, Same.refl H⟩ (fun i σ H' _ ⟨_, _, _, _, _, s2⟩ => SqT.of (s2 _ _ hrt)) ?_ ?_⟩
    · rintro i v σ H' hx ⟨v7, ti, si, rfl, hmid, s2⟩
      obtain ⟨j, hj, rfl⟩ := of_map_get hx
      obtain ⟨e, he, hb, hmid2⟩ := hmid.next hj
      refine ⟨_, rfl, isi_of (.int (j : Int)) kb_ib ⟨false, rfl, iteF ?_⟩⟩
      refine ⟨_, rfl, isi_of (.int (j : Int)) kb_ii ⟨true, rfl, iteF ?_⟩⟩
      refine ⟨_, rfl, _, rfl, _, rfl, pa, n, si.1, es, rfl, hpa.same s2, by have := hM.len; omega, fun H3 L sL nL hL => ?_⟩
      have hin : inV (.int (j : Nat)) ((outs es si.1).map fun j => V.int (j : Nat)) = true := by
        refine List.any_eq_true.mpr ⟨.int (j : Nat), List.mem_map.mpr ⟨j, mem_outs.mpr ⟨e, he, hb⟩, rfl⟩, ?_⟩
        simp [eqV]
      have hfl : ((outs es si.1).map fun j => V.int (j : Nat)).all flatV = true := List.all_eq_true.mpr fun v hv => by
        obtain ⟨j, _, rfl⟩ := List.mem_map.mp hv
        rfl
      refine ⟨L, _, rfl, .inl (SqL.of hL), rfl, hfl, false, ?_, iteF ?_⟩
      · rw [if_pos rfl, hin]
        rfl
      have s3 := s2.trans sL
      obtain ⟨ea, h1, h2⟩ := (hpa.same s3).ex
      obtain ⟨as, a1, a2, a3⟩ := h2.ex
      obtain ⟨y, y1, y2⟩ := a3 j e he
      have y2 : H3 y = some (.tup [.int (e.b : Nat), .int (e.a : Nat), .int (e.t : Nat), .int e.p]) := y2
      exact ⟨_, rfl, pa, _, 1, .ref ea, rfl, rfl, SqT.of h1, atI_nat (j := 1) rfl, _, rfl, ea, _, (j : Int), .ref y, rfl, rfl, SqT.of a1, at_of rfl (map_get y1), y, _, 1, .int (e.a : Nat), rfl, rfl, SqT.of y2, atI_nat (j := 1) rfl, _, _, _, rfl, hmid2, s3⟩
    · rintro σ H1 ⟨v7, ti, si, rfl, hmid, s1⟩
      refine ⟨_, rfl, _, rfl, pa, ra, n, l.1, es, r1 ++ r2, (q2, l.2), c, rfl, hpa.same s1, s1 _ _ hrt, hw, by omega, fun H2 pS s2 hbd => ?_⟩
      rw [hbs] at hbd hble
      have s02 := s1.trans s2
      obtain ⟨as, b1, b2, b3⟩ := hbd.ex
      have hlL : (L1 ++ f :: L2).length = (r1 ++ r2).length + 1 := by
        rw [← hbs, List.length_cons]
        have : (bds es 0 ((0, 0) : Sta).2 (r1 ++ r2)).length = (r1 ++ r2).length := bds_len hw
        exact congrArg (· + 1) this
      obtain ⟨la', l1, l2⟩ := b3 _ l hlast
      have hasl : as.length = r1.length + r2.length + 1 := by rw [b2, hlL, List.length_append]
      have hD := dp_list (K := K) hbd
      have hfD := dp_b (K := K) (s02 _ _ hf : Tp2 H2 fa (f.1 : Nat) f.2)
      refine ⟨_, rfl, 1, rfl, pS, _, _, .ref la', rfl, rfl, SqL.of b1, last_at hasl l1, _, rfl, _, _, dp_b l2, dp_b (s02 _ _ hl : Tp2 H2 la (l.1 : Nat) l.2), bD_shaped _ _, bD_shaped _ _, false, ?_, iteF ?_⟩
      · rw [bD_eqv, decide_eq_true rfl, decide_eq_true rfl]
        rfl
      have hfget : (L1 ++ f :: L2)[r1.length]? = some f := by rw [← hL1, List.getElem?_append_right (Nat.le_refl _), Nat.sub_self]; rfl
      refine ⟨_, rfl, _, rfl, _, _, hfD, hD, bD_shaped _ _, bDs_shaped _, false, ?_, iteF ?_⟩
      · have : (List.map (fun z : Nat × Int => bD (z.1 : Nat) z.2) (L1 ++ f :: L2)).any (fun z => PyData.eqv z (bD (f.1 : Nat) f.2)) = true := by
          refine List.any_eq_true.mpr ⟨bD (f.1 : Nat) f.2, List.mem_map.mpr ⟨f, by simp, rfl⟩, ?_⟩
          rw [bD_eqv, decide_eq_true rfl, decide_eq_true rfl]
          rfl
        rw [this]
        rfl
      -- from the first board on
      refine ⟨_, rfl, _, rfl, .inl ⟨rfl, _, SqL.of b1⟩, _, rfl, pS, .ref fa, _, _, r1.length, bD (f.1 : Nat) f.2, rfl, rfl, hD, hfD, bDs_shaped _, bD_shaped _ _, map_get hfget, ?_, fun m z hm hz => ?_, _, rfl, pS, _, rfl, SqL.of b1, fun pT npT => ?_⟩
      · rw [bD_eqv, decide_eq_true rfl, decide_eq_true rfl]
        rfl
      · obtain ⟨bm, hbm, rfl⟩ := of_map_get hz
        rw [List.getElem?_append_left (by omega)] at hbm
        have := hlt bm (List.mem_of_getElem? hbm)
        rw [bD_eqv, decide_eq_false (by omega)]
        rfl
      have ecut : cutV (as.map V.ref) (some (r1.length : Nat)) none = (as.drop r1.length).map V.ref := by
        show ((as.map V.ref).drop (HT.sIx (as.map V.ref).length 0 (some ((r1.length : Nat) : Int)))).take (HT.sIx (as.map V.ref).length (as.map V.ref).length none - HT.sIx (as.map V.ref).length 0 (some ((r1.length : Nat) : Int))) = _
        rw [HT.sIx_nat, HT.sIx_none, List.length_map, Nat.min_eq_left (by omega), List.take_of_length_le (by rw [List.length_drop, List.length_map]; exact Nat.le_refl _), List.map_drop]
      rw [ecut]
      have s3 : Same H2 (upd H2 pT (.lst ((as.drop r1.length).map V.ref))) := same_new npT
      have hpT : upd H2 pT (.lst ((as.drop r1.length).map V.ref)) pT = some (.lst ((as.drop r1.length).map V.ref)) := upd_same
      generalize upd H2 pT (.lst ((as.drop r1.length).map V.ref)) = H3 at s3 hpT
      have s03 := s02.trans s3
      have hdr : ∀ (i : Nat) (k : Addr), (as.drop r1.length)[i]? = some k → ∃ b, (f :: L2)[i]? = some b ∧ Tp2 H3 k (b.1 : Nat) b.2 := fun i k hk => by
        rw [List.getElem?_drop] at hk
        have hkl := (List.getElem?_eq_some_iff.mp hk).1
        obtain ⟨b, hb⟩ : ∃ b, (L1 ++ f :: L2)[r1.length + i]? = some b := ⟨(L1 ++ f :: L2)[r1.length + i]'(by omega), List.getElem?_eq_getElem (by omega)⟩
        obtain ⟨k', k1, k2⟩ := b3 _ b hb
        rw [hk] at k1
        cases k1
        refine ⟨b, ?_, s3 _ _ k2⟩
        rw [List.getElem?_append_right (by omega), hL1, Nat.add_sub_cancel_left] at hb
        exact hb
      have hdl : (as.drop r1.length).length = (f :: L2).length := by
        rw [List.length_drop, hasl]
        rw [List.length_append, hL1, List.length_append] at hlL
        omega
      have hflt : (f :: L2).length ≤ 301 := by
        rw [List.length_append, hL1, List.length_append] at hlL
        rw [List.length_append] at hlen
        omega
      refine ⟨pT, rfl, ⟨_, SqL.of hpT⟩, fun Dl nD => lc_it walk_list (fun i H' => Same H3 H' ∧ BdsAt H' Dl (((f :: L2).take i).filter fun b => decide (0 < b.1))) ⟨same_new nD, [], upd_same, rfl, fun i b h => by cases h⟩ (fun i H' _ ⟨z, _⟩ => SqL.of (z _ _ hpT)) ?_ ?_⟩
      · rintro i v H'' H' hi ⟨sz, hb⟩ ⟨rfl, hx⟩
        obtain ⟨k, hk, rfl⟩ := of_map_get hx
        obtain ⟨bb, hbb, hkb⟩ := hdr i k hk
        have hkb' : H' k = some (.tup [.int (bb.1 : Nat), .int bb.2]) := sz _ _ hkb
        refine ⟨rfl, _, rfl, k, _, 0, .int (bb.1 : Nat), rfl, rfl, SqT.of hkb', atI_nat (j := 0) rfl, (bb.1 : Int), 0, rfl, rfl, _, rfl, ifD (fun hp => ?_) fun hp => ?_⟩
        · obtain ⟨cs, c1, c2, c3⟩ := hb.ex
          refine ⟨_, rfl, cs.map V.ref, c1, ?_, fun o u eb => ?_, ?_⟩
          · rw [List.length_map, c2]
            have := List.length_filter_le (fun b : Nat × Int => decide (0 < b.1)) ((f :: L2).take i)
            rw [List.length_take] at this
            exact lt_line (by omega)
          · rw [upd_ne (ne_of_none eb nD)]
            exact sz _ _ eb
          · rw [take_snoc hbb, List.filter_append]
            have : [bb].filter (fun b : Nat × Int => decide (0 < b.1)) = [bb] := by
              rw [List.filter_cons, if_pos (decide_eq_true (by omega))]
              rfl
            rw [this]
            exact hb.add c1 (hkb' : Tp2 H' k (bb.1 : Nat) bb.2)
        · refine ⟨sz, ?_⟩
          rw [take_snoc hbb, List.filter_append]
          have : [bb].filter (fun b : Nat × Int => decide (0 < b.1)) = [] := by
            rw [List.filter_cons, if_neg (fun z => hp (by have := of_decide_eq_true z; omega))]
            rfl
          rw [this, List.append_nil]
          exact hb
      rintro H4 ⟨s4, hb4⟩
      rw [List.length_map, hdl, List.take_length] at hb4
      have s04 := s03.trans s4
      obtain ⟨F, hF⟩ : ∃ F, F = (f :: L2).filter fun b => decide (0 < b.1) := ⟨_, rfl⟩
      rw [← hF] at hb4
      have hFl : F.length ≤ 301 := by
        rw [hF]
        exact Nat.le_trans (List.length_filter_le _ _) hflt
      have hFm : ∀ b ∈ F, 0 < b.1 ∧ b.1 ≤ 300 := fun b hb => by
        rw [hF] at hb
        obtain ⟨z1, z2⟩ := List.mem_filter.mp hb
        have := hble b (List.mem_append_right _ z1)
        exact ⟨of_decide_eq_true z2, by omega⟩
      have hFc : (F.filter (hitB a b)).length = ((f :: L2).filter (hitB a b)).length := by
        rw [hF, List.filter_filter]
        congr 1
        refine List.filter_congr fun b hb => ?_
        unfold hitB
        cases decide (0 < b.1) <;> simp
      obtain ⟨cs, c1, c2, c3⟩ := hb4.ex
      refine ⟨_, rfl, Dl, rfl, ⟨_, SqL.of c1⟩, fun De nDe => lc_it walk_list (fun i H' => Same H4 H' ∧ ∃ vs : List V, H' De = some (.lst vs) ∧ vs.length = ((F.take i).filter (hitB a b)).length) ⟨same_new nDe, [], upd_same, rfl⟩ (fun i H' _ ⟨z, _⟩ => SqL.of (z _ _ c1)) ?_ ?_⟩
      · rintro i v H'' H' hi ⟨sz, vs, hv, hvl⟩ ⟨rfl, hx⟩
        obtain ⟨k, hk, rfl⟩ := of_map_get hx
        have hkl := (List.getElem?_eq_some_iff.mp hk).1
        obtain ⟨bb, hbb⟩ : ∃ bb, F[i]? = some bb := ⟨F[i]'(by omega), List.getElem?_eq_getElem (by omega)⟩
        obtain ⟨k', k1, k2⟩ := c3 i bb hbb
        rw [hk] at k1
        cases k1
        have hkb' : H' k = some (.tup [.int (bb.1 : Nat), .int bb.2]) := sz _ _ k2
        have hbm := hFm bb (List.mem_of_getElem? hbb)
        have hfll : ((F.take i).filter (hitB a b)).length ≤ 301 := by
          refine Nat.le_trans (List.length_filter_le _ _) ?_
          rw [List.length_take]
          omega
        refine ⟨rfl, _, rfl, k, _, 1, .int bb.2, rfl, rfl, SqT.of hkb', atI_nat (j := 1) rfl, _, rfl, k, _, 0, .int (bb.1 : Nat), rfl, rfl, SqT.of hkb', atI_nat (j := 0) rfl, bb.2, (bb.1 : Int), rfl, by omega, by omega, fun H5 pl s5 hpl => ?_⟩
        have hli := low_iff (x := bb.2) (t := (bb.1 : Int)) (a := a) (b := b) (by omega) hsk
        have hdeq : PyData.eqv (bD (bb.2 / (Nat.gcd bb.2.natAbs ((bb.1 : Int)).natAbs : Nat)) ((bb.1 : Int) / (Nat.gcd bb.2.natAbs ((bb.1 : Int)).natAbs : Nat))) (bD a b) = hitB a b bb := by
          rw [bD_eqv]
          unfold hitB
          rw [decide_eq_true hbm.1, Bool.true_and]
          by_cases z : bb.2 * b = (bb.1 : Int) * a
          · obtain ⟨z1, z2⟩ := hli.mpr z
            rw [decide_eq_true z1, decide_eq_true z2, decide_eq_true z]
            rfl
          · rw [decide_eq_false z]
            by_cases z1 : bb.2 / (Nat.gcd bb.2.natAbs ((bb.1 : Int)).natAbs : Nat) = a
            · rw [decide_eq_false (fun z2 => z (hli.mp ⟨z1, z2⟩)), Bool.and_false]
            · rw [decide_eq_false z1, Bool.false_and]
        have hnext : ((F.take (i + 1)).filter (hitB a b)).length = ((F.take i).filter (hitB a b)).length + (if hitB a b bb = true then 1 else 0) := by
          rw [take_snoc hbb, List.filter_append, List.length_append]
          congr 1
          rw [List.filter_cons]
          split <;> rfl
        by_cases hh : hitB a b bb = true
        · rw [if_pos hh] at hnext
          refine ⟨_, rfl, _, _, dp_b hpl, dp_b (((s04.trans sz).trans s5) _ _ hsh : Tp2 H5 sh a b), bD_shaped _ _, bD_shaped _ _, true, congrArg V.bl (hdeq.trans hh), iteT ?_⟩
          refine ⟨_, rfl, vs, s5 _ _ hv, lt_line (by omega), fun o u eb => ?_, vs ++ [.ref k], upd_same, ?_⟩
          · rw [upd_ne (ne_of_none eb nDe)]
            exact (sz.trans s5) _ _ eb
          · rw [List.length_append, hvl, hnext]
            rfl
        · rw [if_neg hh] at hnext
          refine ⟨_, rfl, _, _, dp_b hpl, dp_b (((s04.trans sz).trans s5) _ _ hsh : Tp2 H5 sh a b), bD_shaped _ _, bD_shaped _ _, false, congrArg V.bl (hdeq.trans (Bool.eq_false_iff.mpr hh)), iteF ?_⟩
          exact ⟨sz.trans s5, vs, s5 _ _ hv, by rw [hvl, hnext]; rfl⟩
      · rintro H5 ⟨s5, vs, hv, hvl⟩
        rw [List.length_map, c2, List.take_length, hFc] at hvl
        refine ⟨De, vs, rfl, .inl (SqL.of hv), _, rfl, (vs.length : Int), x, rfl, rfl, ?_⟩
        exact blT (Q := Q) (by rw [hvl]; exact hcnt) (q H5 (s04.trans s5))
end
end Nl
namespace Nl
open PySem PySem.Spec PyProof.Rows L2 LamX NdefX
theorem pg_tupK {X : Cx} {K : PySem.W.Frag} (hK : X.K = K) {es : List Expr} {k : Nat} {t : TGs} {n : Nat} {pos : Pos} (hc : X.calm = true) (h : PGs X es t) (hn : (assignEach es X.env).length = n := by rfl) (hst : (assignEach es X.env).findIdx? (·.1) = none := by rfl) : PG X (.Tuple es k pos) (gTup K n t) := by
  subst hK
  exact pg_tup hc h hn hst
theorem tabsN_kp {T : List NTab} {H H' : Hp} {p ga sa : Addr} {N : Nat} (t : TabsN T H) (k : KP p ga H H') (P : PotAt H p ga sa N) : TabsN T H' := fun x hx => by
  obtain ⟨ps, h1, h2, h3⟩ := t x hx
  refine ⟨ps, k.non P h1 (by intro xs z; cases z), h2, fun pos cv hc => ?_⟩
  obtain ⟨c, e1, e2⟩ := h3 pos cv hc
  exact ⟨c, e1, k.non P e2 (by intro xs z; unfold CodeO at z; cases z)⟩
theorem MachX.kp {C : Addr} {H0 H H' : Hp} {pm p ga sa : Addr} {N n : Nat} {es : List Ev} (h : MachX C H0 H pm n es) (k : KP p ga H H') (P : PotAt H p ga sa N) (hp : H0 p ≠ none) (hg : H0 ga ≠ none) : MachX C H0 H' pm n es := by
  obtain ⟨dx, ea, ko, ks, fs, h1, h2, h3, h4, h5, h6, h7, h8, h9⟩ := h.ex
  refine ⟨dx, ea, ko, ks, fs, k.non P h1 (by intro xs z; cases z), h2, h3, h4.kp k P, k _ _ h5 (fun z => hp (by rw [← z]; exact h8)) (fun z => hg (by rw [← z]; exact h8)), h6, fun q hq => ?_, h8, h9⟩
  obtain ⟨x, k1, k2⟩ := h7 q hq
  have hx := h9 x (List.mem_of_getElem? k1)
  exact ⟨x, k1, k _ _ k2 (fun z => hp (by rw [← z]; exact hx)) (fun z => hg (by rw [← z]; exact hx))⟩
def DueAt (H : Hp) (vd : V) : Option (Int × Int) → Prop
  | none => vd = .non
  | some (x, y) => ∃ pd, vd = .ref pd ∧ Tp2 H pd x y
theorem DueAt.ext {H H' : Hp} {vd : V} : ∀ {o : Option (Int × Int)}, DueAt H vd o → ExtN H H' → DueAt H' vd o
  | none, h, _ => h
  | some (x, y), ⟨pd, h1, h2⟩, e => ⟨pd, h1, h2.ext e⟩
structure LCtx (K : PySem.W.Frag) (Pt : Addr) (H : Hp) (p ga sa pb pm fa la sh : Addr) (N n : Nat) (es : List Ev) (f l : Nat × Int) (a b : Int) (vd : V) (o : Option (Int × Int)) : Prop where
  pot : PotAt H p ga sa N
  parts : PartsAt H pb n es
  pre : BPre K Pt H pm fa la sh n es f l a b
  due : DueAt H vd o
  oft : OftenIs es f l a b o
theorem LCtx.ext {K : PySem.W.Frag} {Pt : Addr} {H H' : Hp} {p ga sa pb pm fa la sh : Addr} {N n : Nat} {es : List Ev} {f l : Nat × Int} {a b : Int} {vd : V} {o : Option (Int × Int)} (h : LCtx K Pt H p ga sa pb pm fa la sh N n es f l a b vd o) (e : ExtN H H') (t : TabsN (Tg Pt) H') : LCtx K Pt H' p ga sa pb pm fa la sh N n es f l a b vd o :=
  ⟨h.pot.ext e, h.parts.ext e, h.pre.ext e t, h.due.ext e, h.oft⟩
theorem LCtx.same {K : PySem.W.Frag} {Pt : Addr} {H H' : Hp} {p ga sa pb pm fa la sh : Addr} {N n : Nat} {es : List Ev} {f l : Nat × Int} {a b : Int} {vd : V} {o : Option (Int × Int)} (h : LCtx K Pt H p ga sa pb pm fa la sh N n es f l a b vd o) (s : Same H H') : LCtx K Pt H' p ga sa pb pm fa la sh N n es f l a b vd o :=
  h.ext (ext_of s) (h.pre.t.ext s)
def ShP (H : Hp) (k : Addr) : Prop := ∃ x y : Int, Tp2 H k x y ∧ ShOk x y ∧ x.natAbs ≤ 1000000 ∧ y.natAbs ≤ 1000000
theorem ShP.tk {H H' : Hp} {k : Addr} (h : ShP H k) (t : TupK H H') : ShP H' k := by
  obtain ⟨x, y, h1, h2⟩ := h
  exact ⟨x, y, t _ _ h1, h2⟩
theorem low_sh {H : Hp} {k : Addr} {x t : Int} (h1 : 1 ≤ t) (h2 : t ≤ 1000) (h3 : x.natAbs ≤ 5000) (hk : Tp2 H k (x / (Nat.gcd x.natAbs t.natAbs : Nat)) (t / (Nat.gcd x.natAbs t.natAbs : Nat))) : ShP H k := by
  obtain ⟨g0, hs, _, _⟩ := low_ok (x := x) h1
  refine ⟨_, _, hk, hs, ?_, ?_⟩
  · have := div_small (x := x) g0
    omega
  · have := div_small (x := t) g0
    omega
def spLaw (K : PySem.W.Frag) (Pt : Addr) : Sp := fun vs H Q _ => ∃ (a : Addr) (ns : List Int), vs = [.ref a] ∧ SqL K H a (ns.map V.int) ∧ ns.length ≤ 63 ∧ TabsN (Tg Pt) H ∧ ∀ H', Q (.bl true) H'
section
variable {P : Program} {w : World} {K : PySem.W.Frag} {mg : Str → Option Value} {base : Heap} {Pt : Addr}
abbrev n_law : List Str := ["_law_script", "_law_pot_here", "_law_turn", "_law_parts_here", "_law_most", "_law_longer", "_law_events", "_law_machine", "_law_first", "_law_last", "_law_some", "_law_share_here", "_law_due", "_law_run", "_law_before", "_law_after", "_law_tries", "_law_points"]
theorem sc_law : FnScope n_law ["_law_script"] (defScope s_law) := ⟨rfl, rfl, rfl, by decide +kernel, rfl, by decide +kernel, by decide +kernel⟩
theorem fn_ofF {x : Str} {st : Stmt} {N ps : List Str} {k : Nat} {sp : Sp} {f : Addr} {fd : FuncData} (F : FnP K x st f fd) (S : FnScope N ps (defScope st)) (len : ∀ vs H Q E, sp vs H Q E → vs.length = ps.length)
    (hbody : ∀ (cdv : Value) (A : Around) (outer : List Env) (s : Shared) (H : Hp) (vs : List V) (Q : VK) (E : XK), Room k (A.deeper (envOfC x (defScope st) s.heap.objs.size f cdv)) → sp vs H Q E →
      ∃ t, PSs (cxOf CX0 P w K mg base N x (defScope st) f cdv A outer s H E).nox (defBody st) t ∧ t { nx := fun _ H' => Q .non H', rt := Q } (start N vs) H) : FnOk P w K mg base CX0 (k + 1) f fd ps sp :=
  F.ok S len (fun cdv A outer s H vs Q E hr h => by
    obtain ⟨t, ht, q⟩ := hbody cdv A outer s H vs Q E hr h
    exact ⟨t, ht.nox, q⟩)
theorem ok_law {f0 : Addr} {fd0 fdI : FuncData} (F : FnP K "law" s_law f0 fd0) (T : TX K mg) (gI : FnOk P w K mg base CX0 4 (He.ma K (He.ga K "Machine") "__init__") fdI ["self", "standings", "events"] (spInit K)) (bI : Binds K fdI ["self", "standings", "events"] [])
    (g__law_pot : Fk P w K mg base 1 "_law_pot" ["_law_script"] (spPot K)) (g__law_parts : Fk P w K mg base 2 "_law_parts" ["_law_pot_here", "_law_most_standings", "_law_most_events"] spParts) (g__law_room : Fk P w K mg base 1 "_law_room" ["_law_parts_here"] spRoom)
    (g__law_any : Fk P w K mg base 2 "_law_any" ["_law_pot_here", "_law_items"] spAny) (g__law_two_boards : Fk P w K mg base 3 "_law_two_boards" ["_law_pot_here", "_law_parts_here", "_law_most"] spTwo) (g__law_low : Fk P w K mg base 2 "_law_low" ["_law_top", "_law_bottom"] spLow)
    (g__law_share : Fk P w K mg base 3 "_law_share" ["_law_pot_here", "_law_most"] spLawShare) (g__law_often : Fk P w K mg base 3 "_law_often" ["_law_parts_here", "_law_first", "_law_last", "_law_share_here"] spLawOften) (g_often : Fk P w K mg base 6 "often" ["machine", "first", "last", "share"] (spOften K Pt))
    (g_often_run : Fk P w K mg base 5 "often_run" ["machine", "first", "last", "share", "most"] (spOftenRun K Pt)) (g__law_is_right : Fk P w K mg base 3 "_law_is_right" ["_law_parts_here", "_law_run", "_law_first", "_law_last", "_law_share_here", "_law_many"] spIsRight)
    (g_is_run : Fk P w K mg base 5 "is_run" ["machine", "thing"] (spRunThere K)) (g_boards : Fk P w K mg base 6 "boards" ["machine", "run"] (spBoards K)) : FnOk P w K mg base CX0 7 f0 fd0 ["_law_script"] (spLaw K Pt) := by
  refine fn_ofF F sc_law (fun vs H Q E h => ?_) (fun cdv A outer s H vs Q E hr h => ?_)
  · obtain ⟨_, _, rfl, _⟩ := h
    rfl
  · obtain ⟨a, ns, rfl, ha, hn, hTb, q⟩ := h
    refine ⟨_, (pss_cons (ps_set (i := 1) sc_law.nd rfl (Or.inl rfl) (pe_fk g__law_pot hr (by rfl) (pa_cons (pv 0) pa_nil)))
      (pss_cons (ps_for PassesOwn.never (by rfl) (pi_range1 (by rfl) T.range (pa_cons pe_int pa_nil)) (pg_name (i := 2) sc_law.nd rfl (Or.inl rfl))
       (pss_cons (ps_set (i := 3) sc_law.nd rfl (Or.inl rfl) (pe_fk g__law_parts hr (by rfl) (pa_cons (pv 1) (pa_cons pe_int (pa_cons pe_int pa_nil)))))
       (pss_cons (ps_set (i := 4) sc_law.nd rfl (Or.inl rfl) (pe_fk g__law_room hr (by rfl) (pa_cons (pv 3) pa_nil)))
       (pss_cons (ps_set (i := 5) sc_law.nd rfl (Or.inr rfl) (pe_fk g__law_any hr (by rfl) (pa_cons (pv 1) (pa_cons (pe_tup (pa_cons pe_int (pa_cons pe_int (pa_cons pe_int (pa_cons pe_int (pa_cons pe_int pa_nil)))))) pa_nil))))
       (pss_cons (ps_setLc (i := 6) (own := [("_law_before", 14), ("_law_after", 15), ("_law_tries", 16), ("_law_points", 17)]) (tt := tYes) (by rfl) sc_law.nd rfl rfl (sw_true rfl rfl rfl (by decide +kernel)) (pi_tup (pe_ix ix_tup (pv 3) pe_int (fun _ _ => rfl))) (blkOk_by (own := [("_law_before", 14), ("_law_after", 15), ("_law_tries", 16), ("_law_points", 17)]) (N := n_law) (sc := defScope s_law) (by decide +kernel)) (fun _ _ _ _ _ => (pg_tupK (K := K) (n := 4) rfl rfl (pgs_cons (pg_name (i := 14) sc_law.nd rfl (Or.inl rfl)) (pgs_cons (pg_name (i := 15) sc_law.nd rfl (Or.inl rfl)) (pgs_cons (pg_name (i := 16) sc_law.nd rfl (Or.inl rfl)) (pgs_cons (pg_name (i := 17) sc_law.nd rfl (Or.inl rfl)) pgs_nil)))))) (fun _ _ _ _ _ => pts_nil) (fun _ _ _ _ _ => (pe_tup (pa_cons (pv 14) (pa_cons (pv 15) (pa_cons (pe_op op_mulW (pv 5) (pv 16)) (pa_cons (pv 17) pa_nil)))))))
       (pss_cons (ps_set (i := 3) sc_law.nd rfl (Or.inl rfl) (pe_tup (pa_cons (pe_ix ix_tup (pv 3) pe_int (fun _ _ => rfl)) (pa_cons (pe_callTy call_tuple_of (by rfl) T.tuple (by decide +kernel) (pa_cons (pv 6) pa_nil)) pa_nil))))
       (pss_cons (ps_set (i := 7) sc_law.nd rfl (Or.inl rfl) (pe_make T.mkM gI (hr.mono (by decide)) (by rfl) T.mgM bI .nil pass0 (pa_cons (pe_ix ix_tup (pv 3) pe_int (fun _ _ => rfl)) (pa_cons (pe_ix ix_tup (pv 3) pe_int (fun _ _ => rfl)) pa_nil))))
       (pss_cons (ps_asg (pe_fk g__law_two_boards hr (by rfl) (pa_cons (pv 1) (pa_cons (pv 3) (pa_cons (pe_callB (call_min2 (by rfl)) (by rfl) T.min (by decide +kernel) (pa_cons pe_int (pa_cons (pe_op op_mulW (pv 5) (pv 4)) pa_nil))) pa_nil)))) (pg_tup rfl (pgs_cons (pg_name (i := 8) sc_law.nd rfl (Or.inl rfl)) (pgs_cons (pg_name (i := 9) sc_law.nd rfl (Or.inl rfl)) pgs_nil))))
       (pss_cons (ps_set (i := 10) sc_law.nd rfl (Or.inl rfl) (pe_lst (pa_cons (pe_fk g__law_low hr (by rfl) (pa_cons (pe_ix ix_tup (pv 9) pe_int (fun _ _ => rfl)) (pa_cons (pe_ix ix_tup (pv 9) pe_int (fun _ _ => rfl)) pa_nil))) (pa_cons (pe_fk g__law_share hr (by rfl) (pa_cons (pv 1) (pa_cons pe_int pa_nil))) pa_nil))))
       (pss_cons (ps_if (pt_cmpR op_gt (pe_ix ix_tup (pv 8) pe_int (fun _ _ => rfl)) pe_int (nomark _)) (pss_one (ps_expr (pe_bm PySem.F.plainAttrs_list PySem.F.slot_list_append PySem.F.type_list_append mt_append (pv 10) (pa_cons (pe_fk g__law_low hr (by rfl) (pa_cons (pe_op op_add (pe_ix ix_tup (pv 8) pe_int (fun _ _ => rfl)) (pe_ix ix_tup (pv 9) pe_int (fun _ _ => rfl))) (pa_cons (pe_op op_add (pe_ix ix_tup (pv 8) pe_int (fun _ _ => rfl)) (pe_ix ix_tup (pv 9) pe_int (fun _ _ => rfl))) pa_nil))) pa_nil)))) pss_nil)
       (pss_cons (ps_set (i := 11) sc_law.nd rfl (Or.inl rfl) (pe_fk g__law_any hr (by rfl) (pa_cons (pv 1) (pa_cons (pv 10) pa_nil))))
       (pss_cons (ps_set (i := 12) sc_law.nd rfl (Or.inl rfl) (pe_fk g__law_often hr (by rfl) (pa_cons (pv 3) (pa_cons (pv 8) (pa_cons (pv 9) (pa_cons (pv 11) pa_nil))))))
       (pss_cons (ps_if (pt_cmpR (op_neD hr.units) (pe_fk g_often hr (by rfl) (pa_cons (pv 7) (pa_cons (pv 8) (pa_cons (pv 9) (pa_cons (pv 11) pa_nil))))) (pv 12) (nomark _)) (pss_one (ps_ret pe_bl)) pss_nil)
       (pss_one (ps_for PassesOwn.never (by rfl) (pi_tup (pe_tup (pa_cons pe_bl (pa_cons pe_bl pa_nil)))) (pg_name (i := 4) sc_law.nd rfl (Or.inl rfl))
        (pss_cons (ps_set (i := 13) sc_law.nd rfl (Or.inl rfl) (pe_fk g_often_run hr (by rfl) (pa_cons (pv 7) (pa_cons (pv 8) (pa_cons (pv 9) (pa_cons (pv 11) (pa_cons (pv 4) pa_nil)))))))
        (pss_one (ps_if (pt_cmp (pc_isN (pv 12))) (pss_one (ps_if (pt_cmp (pc_notN (pv 13))) (pss_one (ps_ret pe_bl)) pss_nil)) (pss_cons (ps_if (pt_not (pt_val (pe_fk g__law_is_right hr (by rfl) (pa_cons (pv 3) (pa_cons (pv 13) (pa_cons (pv 8) (pa_cons (pv 9) (pa_cons (pv 11) (pa_cons (pe_ix ix_tup (pv 12) (pe_callTy call_int1 (by rfl) T.int (by decide +kernel) (pa_cons (pv 4) pa_nil)) (fun _ _ => rfl)) pa_nil))))))))) (pss_one (ps_ret pe_bl)) pss_nil)
         (pss_one (ps_if (PW.pt (pw_or (pt_cmpR op_notBl (pe_fk g_is_run hr (by rfl) (pa_cons (pv 7) (pa_cons (pv 13) pa_nil))) pe_bl (nomark _)) (pw_or1 (pt_cmpR (op_neD hr.units) (pe_ix ix_list (pe_fk g_boards hr (by rfl) (pa_cons (pv 7) (pa_cons (pv 13) pa_nil))) (pe_un un_neg pe_int) (fun _ _ => rfl)) (pv 9) (nomark _))))) (pss_one (ps_ret pe_bl)) pss_nil)))))))))))))))))))))
      (pss_one (ps_ret pe_bl)))), ?_⟩
    refine ⟨_, rfl, a, ns, rfl, ha, hn, fun H1 p ga sa s1 P1 => ?_⟩
    refine ⟨2, rfl, by decide, by decide, for_range (lo := 0) (n := (2 : Int).toNat) (fun i σ H' => ∃ v2 v3 v4 v5 v6 v7 v8 v9 v10 v11 v12 v13 v14 v15 v16 v17, σ = [some (.ref a), some (.ref p), v2, v3, v4, v5, v6, v7, v8, v9, v10, v11, v12, v13, v14, v15, v16, v17] ∧ PotAt H' p ga sa (400 * i) ∧ TabsN (Tg Pt) H')
      ⟨_, _, _, _, _, _, _, _, _, _, _, _, _, _, _, _, rfl, P1, hTb.ext s1⟩ ?_ (fun σ H' ⟨_, _, _, _, _, _, _, _, _, _, _, _, _, _, _, _, _, _⟩ => q H')⟩
    rintro i σ H2 hi ⟨v2, v3, v4, v5, v6, v7, v8, v9, v10, v11, v12, v13, v14, v15, v16, v17, rfl, P2, T2⟩
    have hi2 : i < 2 := by omega
    refine ⟨_, rfl, p, ga, sa, 400 * i, rfl, P2, by omega, fun H3 pa n es k3 P3 hpa hO => ?_⟩
    refine ⟨_, rfl, pa, n, es, rfl, hpa, hO, fun H4 r s4 hr5 hr37 => ?_⟩
    have hpa4 := hpa.same s4
    refine ⟨_, rfl, le_line (n := 5) (by decide), fun tp ntp => ?_⟩
    have s5 : Same H4 (upd H4 tp (.tup [.int 1, .int 1, .int 1, .int 7, .int 13])) := same_new ntp
    refine ⟨p, tp, ga, sa, 400 * i + 33, [.int 1, .int 1, .int 1, .int 7, .int 13], rfl, (P3.same s4).same s5, by omega, by simp, by decide, .inl upd_same, fun H6 v k6 P6 hv => ?_⟩
    obtain ⟨lo, rfl, hlo1, hlo13⟩ : ∃ lo : Nat, v = .int (lo : Nat) ∧ 1 ≤ lo ∧ lo ≤ 13 := by
      simp only [List.mem_cons, List.not_mem_nil, or_false] at hv
      rcases hv with h | h | h | h | h
      · exact ⟨1, h, by decide, by decide⟩
      · exact ⟨1, h, by decide, by decide⟩
      · exact ⟨1, h, by decide, by decide⟩
      · exact ⟨7, h, by decide, by decide⟩
      · exact ⟨13, h, by decide, by decide⟩
    have P45 := (P3.same s4).same s5
    have T6 : TabsN (Tg Pt) H6 := tabsN_kp (((tabsN_kp T2 k3 P2).ext s4).ext s5) k6 P45
    have hpa6 := (hpa4.same s5).kp k6 P45
    -- the longer events
    obtain ⟨ea, h1, h2⟩ := hpa6.ex
    obtain ⟨as, a1, a2, a3⟩ := h2.ex
    obtain ⟨es', hes'⟩ : ∃ es' : List Ev, es' = es.map fun e => (⟨e.b, e.a, lo * e.t, e.p⟩ : Ev) := ⟨_, rfl⟩
    have hl' : es'.length = es.length := by rw [hes', List.length_map]
    have hM : MOk n es' := by
      refine ⟨hO.n1, hO.n4, by rw [hl']; exact hO.l6, fun e he => ?_⟩
      rw [hes'] at he
      obtain ⟨e0, he0, rfl⟩ := List.mem_map.mp he
      obtain ⟨q1, q2, q3, q4, q5, q6⟩ := hO.ev e0 he0
      have m1 : 1 * 1 ≤ lo * e0.t := Nat.mul_le_mul hlo1 q3
      have m2 : lo * e0.t ≤ 13 * 3 := Nat.mul_le_mul hlo13 q4
      exact ⟨q1, q2, by show 1 ≤ lo * e0.t; omega, by show lo * e0.t ≤ 39; omega, q5, q6⟩
    refine ⟨_, rfl, pa, _, 1, .ref ea, rfl, rfl, SqT.of h1, atI_nat (j := 1) rfl, ea, rfl, ⟨_, SqT.of a1⟩, fun Dl nD => lc_it walk_tup (fun i H' => Same H6 H' ∧ ∃ cs : List Addr, H' Dl = some (.lst (cs.map V.ref)) ∧ EvL H' cs (es'.take i)) ⟨same_new nD, [], upd_same, rfl, fun j e h => by cases h⟩ (fun i H' _ ⟨z, _⟩ => SqT.of (z _ _ a1)) ?_ ?_⟩
    · rintro j x H'' H' hj ⟨z, cs, hD, hE⟩ ⟨rfl, hx⟩
      obtain ⟨k, hk, rfl⟩ := of_map_get hx
      have hjl := (List.getElem?_eq_some_iff.mp hk).1
      obtain ⟨e, he⟩ : ∃ e, es[j]? = some e := ⟨es[j]'(by omega), List.getElem?_eq_getElem (by omega)⟩
      obtain ⟨k', k1, k2⟩ := a3 j e he
      rw [hk] at k1
      cases k1
      have k2 : H' k = some (.tup [.int (e.b : Nat), .int (e.a : Nat), .int (e.t : Nat), .int e.p]) := z _ _ k2
      have hev := hO.ev e (List.mem_of_getElem? he)
      have he' : es'[j]? = some (⟨e.b, e.a, lo * e.t, e.p⟩ : Ev) := by rw [hes']; exact map_get he
      refine ⟨k, _, rfl, SqT.of k2, rfl, _, _, rfl, _, _, rfl, _, _, rfl, _, _, rfl, rfl, rfl, ?_⟩
      refine ⟨_, rfl, _, rfl, _, rfl, _, rfl, (lo : Int), (e.t : Int), rfl, rfl, cmul_small (by omega) (by have := hev.2.2.2.1; omega), _, rfl, le_line (n := 4) (by decide), fun kn nkn => ?_⟩
      have sk : Same H' (upd H' kn (.tup [.int (e.b : Nat), .int (e.a : Nat), .int ((lo : Int) * (e.t : Int)), .int e.p])) := same_new nkn
      have hkn : EvT (upd H' kn (.tup [.int (e.b : Nat), .int (e.a : Nat), .int ((lo : Int) * (e.t : Int)), .int e.p])) kn ⟨e.b, e.a, lo * e.t, e.p⟩ := by
        show upd _ _ _ kn = _
        rw [upd_same, Int.natCast_mul]
      have hlt : (es'.take j).length ≤ 6 := by
        rw [List.length_take, hl']
        have := hO.l6
        omega
      refine ⟨_, sk _ _ hD, lt_line (by rw [List.length_map, hE.len]; omega), fun o u eb => ?_, cs ++ [kn], by rw [upd_same, List.map_append]; rfl, ?_⟩
      · rw [upd_ne (ne_of_none eb nD)]
        exact sk _ _ (z _ _ eb)
      · rw [take_snoc he']
        exact ((hE.tk (.of sk)).push hkn).tk (TupK.upd (sk _ _ hD) (by intro xs z; cases z))
    rintro H7 ⟨s7, cs, hD7, hE7⟩
    have e7 : es'.take (as.map V.ref).length = es' := by rw [List.length_map, a2, ← hl', List.take_length]
    rw [e7] at hE7
    refine ⟨_, rfl, pa, _, 0, .int (n : Nat), rfl, rfl, SqT.of (s7 _ _ h1), atI_nat (j := 0) rfl, _, rfl, Dl, _, rfl, .inl ⟨SqL.of hD7, fun te nte => ⟨le_line (n := 2) (by decide), fun pb npb => ?_⟩⟩⟩
    have s8 : Same H7 (upd (upd H7 te (.tup (cs.map V.ref))) pb (.tup [.int (n : Nat), .ref te])) := (same_new nte).trans (same_new npb)
    have hte8 : upd (upd H7 te (.tup (cs.map V.ref))) pb (.tup [.int (n : Nat), .ref te]) te = some (.tup (cs.map V.ref)) := same_new npb _ _ upd_same
    have hpb8 : upd (upd H7 te (.tup (cs.map V.ref))) pb (.tup [.int (n : Nat), .ref te]) pb = some (.tup [.int (n : Nat), .ref te]) := upd_same
    generalize upd (upd H7 te (.tup (cs.map V.ref))) pb (.tup [.int (n : Nat), .ref te]) = H8 at s8 hte8 hpb8
    have hev8 : EvsAt H8 te es' := ⟨cs, hte8, hE7.len, fun j e he => by
      obtain ⟨x, x1, x2⟩ := hE7.at_ j e he
      exact ⟨x, x1, s8 _ _ x2⟩⟩
    have hparts8 : PartsAt H8 pb n es' := ⟨te, hpb8, hev8⟩
    have s68 := s7.trans s8
    have P8 := P6.same s68
    have T8 := T6.ext s68
    -- the machine
    refine ⟨_, rfl, pb, _, 0, .int (n : Nat), rfl, rfl, SqT.of hpb8, atI_nat (j := 0) rfl, _, rfl, pb, _, 1, .ref te, rfl, rfl, SqT.of hpb8, atI_nat (j := 1) rfl, fun pm dx npm ndx hne => ?_⟩
    have s9 : Same H8 (upd (upd H8 dx (.own pm)) pm (.ins (He.ga K "Machine") dx [])) := fun o u eb => by
      rw [upd_ne (ne_of_none eb npm), upd_ne (ne_of_none eb ndx)]
      exact eb
    have hpm9 : upd (upd H8 dx (.own pm)) pm (.ins (He.ga K "Machine") dx []) pm = some (.ins (He.ga K "Machine") dx []) := upd_same
    generalize upd (upd H8 dx (.own pm)) pm (.ins (He.ga K "Machine") dx []) = H9 at s9 hpm9
    refine ⟨pm, dx, te, n, es', rfl, hpm9, hev8.same s9, hM.n1, by have := hM.n4; omega, by have := hM.len; omega, fun e he => hM.ev e he, fun HA kA hMX => ⟨rfl, ?_⟩⟩
    have sA : Same H8 HA := fun o u eb => kA o u (s9 o u eb) (ne_of_none eb npm)
    have PA' := P8.same sA
    have TA' := T8.ext sA
    have hpartsA := hparts8.same sA
    have hMX8 := hMX.back s9
    have hp8 : H8 p ≠ none := by
      obtain ⟨⟨xs, e⟩, _⟩ := P8.pp
      rw [e]
      simp
    have hg8 : H8 ga ≠ none := by
      obtain ⟨_, xs, e⟩ := P8.pp
      rw [e]
      simp
    -- the two boards
    have hlr : 0 ≤ (lo : Int) * r := Int.mul_nonneg (by omega) (by omega)
    obtain ⟨m, hmm, hm299⟩ : ∃ m : Nat, (if (lo : Int) * r < 299 then (lo : Int) * r else 299) = (m : Int) ∧ m ≤ 299 := by
      by_cases hlt : (lo : Int) * r < 299
      · exact ⟨((lo : Int) * r).toNat, by rw [if_pos hlt]; omega, by omega⟩
      · exact ⟨299, by rw [if_neg hlt]; rfl, Nat.le_refl _⟩
    refine ⟨_, rfl, _, rfl, _, rfl, _, rfl, (lo : Int), r, rfl, rfl, cmul_small (by omega) (by omega), 299, (lo : Int) * r, rfl, ?_⟩
    refine ⟨p, ga, sa, pb, 400 * i + 34, m, n, es', congrArg (fun z => [V.ref p, V.ref pb, V.int z]) hmm, PA', by omega, hpartsA, hM, hm299, fun HB qb fa la f l kB PB hqb hf hl hfl hl300 hf1 hf2 hl1 hl2 hf0 => ?_⟩
    obtain ⟨ft, fx⟩ := f
    obtain ⟨lt, lx⟩ := l
    dsimp only at hf hl hfl hl300 hf1 hf2 hl1 hl2 hf0
    have hf' : HB fa = some (.tup [.int (ft : Nat), .int fx]) := hf
    have hl' : HB la = some (.tup [.int (lt : Nat), .int lx]) := hl
    refine ⟨qb, _, rfl, SqT.of hqb, rfl, _, _, rfl, _, _, rfl, rfl, ?_⟩
    have TB := tabsN_kp TA' kB PA'
    have hMXB := hMX8.kp kB PA' hp8 hg8
    have hpartsB := hpartsA.kp kB PA'
    -- the shares
    refine ⟨_, rfl, la, _, 1, .int lx, rfl, rfl, SqT.of hl', atI_nat (j := 1) rfl, _, rfl, la, _, 0, .int (lt : Nat), rfl, rfl, SqT.of hl', atI_nat (j := 0) rfl, lx, (lt : Int), rfl, by omega, by omega, fun HC sh1 sC hsh1 => ?_⟩
    have hs1 := low_sh (by omega) (by omega) (by omega) hsh1
    refine ⟨_, rfl, p, ga, sa, 400 * i + 34 + 310, rfl, PB.same sC, by omega, fun HD' sh2 a2' b2' kD PD hsh2 hok2 ha2 hb2 => ?_⟩
    have hs1D : ShP HD' sh1 := hs1.tk (kD.tk (PB.same sC))
    have hs2D : ShP HD' sh2 := ⟨a2', b2', hsh2, hok2, ha2, hb2⟩
    refine ⟨le_line (n := 2) (by decide), fun Ls nLs => ?_⟩
    have sE : Same HD' (upd HD' Ls (.lst [.ref sh1, .ref sh2])) := same_new nLs
    have hLsE : upd HD' Ls (.lst [.ref sh1, .ref sh2]) Ls = some (.lst [.ref sh1, .ref sh2]) := upd_same
    obtain ⟨nLp, nLg⟩ := PD.nn nLs
    have nLss := PD.nns nLs
    generalize upd HD' Ls (.lst [.ref sh1, .ref sh2]) = HE at sE hLsE
    have kBE : KP p ga HB HE := ((KP.of sC).trans kD).trans (.of sE)
    have PE' := PD.same sE
    have TE' := (tabsN_kp (TB.ext sC) kD (PB.same sC)).ext sE
    have hMXE := ((hMXB.kp (.of sC) PB hp8 hg8).kp kD (PB.same sC) hp8 hg8).kp (.of sE) PD hp8 hg8
    have hpartsE := ((hpartsB.same sC).kp kD (PB.same sC)).same sE
    have hfE : HE fa = some (.tup [.int (ft : Nat), .int fx]) := kBE.tup PB hf'
    have hlE : HE la = some (.tup [.int (lt : Nat), .int lx]) := kBE.tup PB hl'
    apply via (fun σ H' => ∃ ss : List Addr, σ = [some (.ref a), some (.ref p), some (.int (0 + (i : Int))), some (.ref pb), some (.int r), some (.int (lo : Nat)), some (.ref Dl), some (.ref pm), some (.ref fa), some (.ref la), some (.ref Ls), v11, v12, v13, v14, v15, v16, v17] ∧
      PotAt H' p ga sa (400 * i + 34 + 310 + 2) ∧ TabsN (Tg Pt) H' ∧ MachX (mC K) H8 H' pm n es' ∧ PartsAt H' pb n es' ∧ Tp2 H' fa (ft : Nat) fx ∧ Tp2 H' la (lt : Nat) lx ∧ H' Ls = some (.lst (ss.map V.ref)) ∧ 1 ≤ ss.length ∧ ss.length ≤ 3 ∧ ∀ k ∈ ss, ShP H' k)
    · intro rest
      refine ⟨_, rfl, fa, _, 0, .int (ft : Nat), rfl, rfl, SqT.of hfE, atI_nat (j := 0) rfl, (ft : Int), 0, rfl, rfl, _, rfl, ifD (fun h0 => ?_) fun h0 => ?_⟩
      rotate_left
      · refine rest _ _ ⟨[sh1, sh2], rfl, PE', TE', hMXE, hpartsE, hfE, hlE, hLsE, (show 1 ≤ 2 by decide), (show 2 ≤ 3 by decide), fun k hk => ?_⟩
        rcases List.mem_cons.mp hk with e | hk
        · rw [e]
          exact hs1D.tk (.of sE)
        · rw [List.mem_singleton.mp hk]
          exact hs2D.tk (.of sE)
      · refine ⟨_, rfl, .inl ⟨rfl, _, SqL.of hLsE⟩, _, rfl, fa, _, 1, .int fx, rfl, rfl, SqT.of hfE, atI_nat (j := 1) rfl, _, rfl, la, _, 1, .int lx, rfl, rfl, SqT.of hlE, atI_nat (j := 1) rfl, fx, lx, rfl, rfl, _, rfl, fa, _, 0, .int (ft : Nat), rfl, rfl, SqT.of hfE, atI_nat (j := 0) rfl, _, rfl, la, _, 0, .int (lt : Nat), rfl, rfl, SqT.of hlE, atI_nat (j := 0) rfl, (ft : Int), (lt : Int), rfl, rfl, fx + lx, (ft : Int) + (lt : Int), rfl, by omega, by omega, fun HF sh3 sF hsh3 => ?_⟩
        have hs3 := low_sh (by omega) (by omega) (by omega) hsh3
        have hLsF := sF _ _ hLsE
        have tkG : TupK HF (upd HF Ls (.lst ([V.ref sh1, V.ref sh2] ++ [V.ref sh3]))) := TupK.upd hLsF (by intro xs z; cases z)
        have kG : KP p ga HE (upd HF Ls (.lst ([V.ref sh1, V.ref sh2] ++ [V.ref sh3]))) ∨ True := .inr trivial
        refine ⟨Ls, [.ref sh1, .ref sh2], _, rfl, rfl, hLsF, by exact lt_line (n := 2) (by decide), ?_⟩
        have nlG : ∀ o u, HF o = some u → o ≠ Ls → upd HF Ls (.lst ([V.ref sh1, V.ref sh2] ++ [V.ref sh3])) o = some u := fun o u eb hne => by
          rw [upd_ne hne]
          exact eb
        refine rest _ _ ⟨[sh1, sh2, sh3], rfl, (PE'.same sF).up nLp nLg nLss, ?_, ?_, ?_, tkG _ _ (sF _ _ hfE), tkG _ _ (sF _ _ hlE), upd_same, (show 1 ≤ 3 by decide), (show 3 ≤ 3 by decide), fun k hk => ?_⟩
        · intro x hx
          obtain ⟨ps, t1, t2, t3⟩ := (TE'.ext sF) x hx
          refine ⟨ps, nlG _ _ t1 (ne_of t1 hLsF (by intro z; cases z)), t2, fun pos cv hc => ?_⟩
          obtain ⟨c, e1, e2⟩ := t3 pos cv hc
          exact ⟨c, e1, nlG _ _ e2 (ne_of e2 hLsF (by intro z; unfold CodeO at z; cases z))⟩
        · have hLs8 : H8 Ls = none := by
            refine sA.free ?_
            cases e : HA Ls with
            | none => rfl
            | some u =>
              have := kD _ _ (sC _ _ (kB _ _ e nLp nLg)) nLp nLg
              rw [nLs] at this
              cases this
          obtain ⟨dx', ea', ko, ks, fs, m1, m2, m3, m4, m5, m6, m7, m8, m9⟩ := (hMXE.kp (.of sF) PE' hp8 hg8).ex
          have hnk : ∀ {o : Addr} {u : HO}, HE o = some u → HF o = some u := fun e => sF _ _ e
          -- the machine's lists are older than this list
          obtain ⟨_, _, koA, ksA, fsA, z1, z2, z3, z4, z5, z6, z7, z8, z9⟩ := hMX8.ex
          have zE1 := kBE.non PB (kB.non PA' z1 (by intro xs z; cases z)) (by intro xs z; cases z)
          have zF1 := sF _ _ zE1
          rw [m1] at zF1
          injection zF1 with zF1
          injection zF1 with _ _ zF1
          subst zF1
          rw [m3] at z3
          injection z3 with z3
          injection z3 with z3
          subst z3
          have hkoA : ko ≠ Ls := fun z => by
            have e := kD _ _ (sC _ _ (kB _ _ z5 (by rw [z]; exact nLp) (by rw [z]; exact nLg))) (by rw [z]; exact nLp) (by rw [z]; exact nLg)
            rw [z, nLs] at e
            cases e
          have z5F : HF ko = some (.lst (ksA.map V.ref)) := sF _ _ (sE _ _ (kD _ _ (sC _ _ (kB _ _ z5 (fun z => hp8 (by rw [← z]; exact z8)) (fun z => hg8 (by rw [← z]; exact z8)))) (fun z => hp8 (by rw [← z]; exact z8)) (fun z => hg8 (by rw [← z]; exact z8))))
          have hko2 : ksA.map V.ref = ks.map V.ref := by
            rw [m5] at z5F
            injection z5F with z5F
            injection z5F with z5F
            exact z5F.symm
          refine ⟨dx', ea', ko, ks, fs, nlG _ _ m1 (ne_of m1 hLsF (by intro z; cases z)), m2, m3, ⟨?_⟩, nlG _ _ m5 hkoA, m6, fun qq hq => ?_, m8, m9⟩
          · obtain ⟨es0, w1, w2, w3⟩ := m4.ex
            exact ⟨es0, tkG _ _ w1, w2, fun j e he => by
              obtain ⟨x, x1, x2⟩ := w3 j e he
              exact ⟨x, x1, tkG _ _ x2⟩⟩
          · obtain ⟨x, x1, x2⟩ := m7 qq hq
            obtain ⟨xA, y1, y2⟩ := z7 qq hq
            have exA : xA = x := by
              have g1 := map_get (f := V.ref) x1
              have g2 := map_get (f := V.ref) y1
              rw [hko2, g1] at g2
              cases g2
              rfl
            subst exA
            refine ⟨xA, x1, nlG _ _ x2 fun z => ?_⟩
            have hx8 := z9 xA (List.mem_of_getElem? y1)
            have e := kD _ _ (sC _ _ (kB _ _ y2 (by rw [z]; exact nLp) (by rw [z]; exact nLg))) (by rw [z]; exact nLp) (by rw [z]; exact nLg)
            rw [z, nLs] at e
            cases e
        · obtain ⟨ea', w1, w2⟩ := (hpartsE.same sF).ex
          obtain ⟨es0, w3, w4, w5⟩ := w2.ex
          exact ⟨ea', tkG _ _ w1, es0, tkG _ _ w3, w4, fun j e he => by
            obtain ⟨x, x1, x2⟩ := w5 j e he
            exact ⟨x, x1, tkG _ _ x2⟩⟩
        · rcases List.mem_cons.mp hk with e | hk
          · rw [e]
            exact ((hs1D.tk (.of sE)).tk (.of sF)).tk tkG
          · rcases List.mem_cons.mp hk with e | hk
            · rw [e]
              exact ((hs2D.tk (.of sE)).tk (.of sF)).tk tkG
            · rw [List.mem_singleton.mp hk]
              exact hs3.tk tkG
    rintro σ HG ⟨ss, rfl, PG', TG', hMXG, hpartsG, hfG, hlG, hLsG, hss1, hss3, hssP⟩
    refine ⟨_, rfl, _, rfl, p, Ls, ga, sa, 400 * i + 34 + 310 + 2, ss.map V.ref, rfl, PG', by omega, ?_, by rw [List.length_map]; omega, .inr ⟨hLsG, nLp, nLg⟩, fun HH v kH PH hv => ?_⟩
    · intro z
      have := congrArg List.length z
      rw [List.length_map, List.length_nil] at this
      omega
    obtain ⟨sh, hshm, rfl⟩ := List.mem_map.mp hv
    obtain ⟨sa', sb', hsh, hsk, hsa', hsb'⟩ := (hssP sh hshm).tk (kH.tk PG')
    have TH' := tabsN_kp TG' kH PG'
    have hMXH := hMXG.kp kH PG' hp8 hg8
    have hpartsH := hpartsG.kp kH PG'
    have hfH := kH.tup PG' hfG
    have hlH := kH.tup PG' hlG
    have hpre : BPre K Pt HH pm fa la sh n es' (ft, fx) (lt, lx) sa' sb' := ⟨TH', hMXH.at, hM, hfH, hlH, hfl, hl300, by show -1500 ≤ fx; omega, by show fx ≤ 1500; omega, hf0, hsh, hsa', hsb', hsk⟩
    -- what is due
    apply via (fun σ H' => ∃ (vd : V) (o : Option (Int × Int)), σ = [some (.ref a), some (.ref p), some (.int (0 + (i : Int))), some (.ref pb), some (.int r), some (.int (lo : Nat)), some (.ref Dl), some (.ref pm), some (.ref fa), some (.ref la), some (.ref Ls), some (.ref sh), some vd, v13, v14, v15, v16, v17] ∧
      LCtx K Pt H' p ga sa pb pm fa la sh (400 * i + 34 + 310 + 2 + 1) n es' (ft, fx) (lt, lx) sa' sb' vd o)
    · intro rest
      refine ⟨_, rfl, _, rfl, _, rfl, _, rfl, pb, fa, la, sh, n, es', (ft, fx), (lt, lx), sa', sb', rfl, hpartsH, hM, hfH, hlH, hfl, hl300, by show -1500 ≤ fx; omega, by show fx ≤ 1500; omega, hsh, hsa', hsb', fun HI sI => ⟨fun ho => ?_, fun pd x y hpd ho => ?_⟩⟩
      · show tSeq _ _ _ _ _
        exact rest _ _ ⟨.non, none, rfl, PH.same sI, hpartsH.same sI, hpre.ext (ext_of sI) (TH'.ext sI), rfl, ho⟩
      · exact rest _ _ ⟨.ref pd, some (x, y), rfl, PH.same sI, hpartsH.same sI, hpre.ext (ext_of sI) (TH'.ext sI), ⟨pd, rfl, hpd⟩, ho⟩
    rintro σ HJ ⟨vd, o, rfl, cJ⟩
    apply via (fun σ H' => σ = [some (.ref a), some (.ref p), some (.int (0 + (i : Int))), some (.ref pb), some (.int r), some (.int (lo : Nat)), some (.ref Dl), some (.ref pm), some (.ref fa), some (.ref la), some (.ref Ls), some (.ref sh), some vd, v13, v14, v15, v16, v17] ∧
      LCtx K Pt H' p ga sa pb pm fa la sh (400 * i + 34 + 310 + 2 + 1) n es' (ft, fx) (lt, lx) sa' sb' vd o)
    · intro rest
      refine ⟨_, rfl, _, rfl, _, rfl, _, rfl, pm, fa, la, sh, n, es', (ft, fx), (lt, lx), sa', sb', rfl, cJ.pre, fun HK e t => ⟨fun ho => ?_, fun pq x y hpq ho => ?_⟩⟩
      · have eo := often_one ho cJ.oft
        have hd := cJ.due
        rw [← eo] at hd
        have hd : vd = .non := hd
        refine ⟨_, rfl, .none, .none, .non, by rw [hd]; exact .non, by decide, by decide, false, rfl, iteF ?_⟩
        exact rest _ _ ⟨rfl, cJ.ext e t⟩
      · have eo := often_one ho cJ.oft
        have hd := (cJ.ext e t).due
        rw [← eo] at hd
        obtain ⟨pd, hvd, hpd⟩ := (show ∃ pd, vd = .ref pd ∧ Tp2 HK pd x y from hd)
        refine ⟨_, rfl, _, _, dp_b hpq, by rw [hvd]; exact dp_b hpd, bD_shaped _ _, bD_shaped _ _, false, ?_, iteF ?_⟩
        · rw [bD_eqv, decide_eq_true rfl, decide_eq_true rfl]
          rfl
        · exact rest _ _ ⟨rfl, cJ.ext e t⟩
    rintro σ HL ⟨rfl, cL⟩
    -- both runs
    refine ⟨le_line (n := 2) (by decide), fun tb ntb => ?_⟩
    have htb : upd HL tb (.tup [.bl false, .bl true]) tb = some (.tup [.bl false, .bl true]) := upd_same
    have cM := cL.same (same_new (o := HO.tup [.bl false, .bl true]) ntb)
    generalize upd HL tb (.tup [.bl false, .bl true]) = HM at htb cM
    refine ⟨tb, rfl, ⟨_, SqT.of htb⟩, for_tup (fun u σ H' => ∃ w4 w13, σ = [some (.ref a), some (.ref p), some (.int (0 + (i : Int))), some (.ref pb), w4, some (.int (lo : Nat)), some (.ref Dl), some (.ref pm), some (.ref fa), some (.ref la), some (.ref Ls), some (.ref sh), some vd, w13, v14, v15, v16, v17] ∧
      LCtx K Pt H' p ga sa pb pm fa la sh (400 * i + 34 + 310 + 2 + 1) n es' (ft, fx) (lt, lx) sa' sb' vd o ∧ H' tb = some (.tup [.bl false, .bl true])) ⟨_, _, rfl, cM, htb⟩ (fun u σ H' _ ⟨_, _, _, _, z⟩ => SqT.of z) ?_ (fun σ H' ⟨_, _, hσ, c, _⟩ => ⟨_, _, _, _, _, _, _, _, _, _, _, _, _, _, _, _, hσ, c.pot.more (by omega), c.pre.t⟩)⟩
    rintro u x σ HN hx ⟨w4, w13, rfl, cN, htbN⟩
    obtain ⟨k, rfl⟩ : ∃ k : Bool, x = .bl k := by
      cases u with
      | zero => cases hx; exact ⟨false, rfl⟩
      | succ u =>
        cases u with
        | zero => cases hx; exact ⟨true, rfl⟩
        | succ u => cases hx
    refine ⟨_, rfl, _, rfl, _, rfl, _, rfl, _, rfl, pm, fa, la, sh, k, n, es', (ft, fx), (lt, lx), sa', sb', rfl, cN.pre, fun HO' e t => ⟨fun hb => ?_, fun ra c rr hra hb => ?_⟩⟩
    · have cO := cN.ext e t
      have eo : OftenIs es' (ft, fx) (lt, lx) sa' sb' none := fun x hx => hb x hx
      have eo := often_one eo cO.oft
      have hd := cO.due
      rw [← eo] at hd
      have hd : vd = .non := hd
      refine ⟨_, rfl, _, rfl, ifT hd ⟨_, rfl, _, rfl, ifNF rfl ⟨_, _, rfl, cO, ext_tup e htbN⟩⟩⟩
    · have cO := cN.ext e t
      obtain ⟨⟨r1, r2, hr12, hR2⟩, hbest⟩ := hb
      obtain ⟨x, y, rfl⟩ : ∃ x y, o = some (x, y) := by
        cases o with
        | none => exact absurd ⟨r1, r2, hR2⟩ (cO.oft c)
        | some q => exact ⟨q.1, q.2, rfl⟩
      obtain ⟨pd, rfl, hpd⟩ := (show ∃ pd, vd = .ref pd ∧ Tp2 HO' pd x y from cO.due)
      have hcxy : c = if k = true then y else x := best_eq (r := rr) cO.oft k ⟨⟨r1, r2, hr12, hR2⟩, hbest⟩
      have hpd' : HO' pd = some (.tup [.int x, .int y]) := hpd
      have hix : atI [V.int x, V.int y] (if k = true then 1 else 0) = some (.int c) := by
        rw [hcxy]
        cases k <;> rfl
      obtain ⟨q2, c2, hway⟩ := hR2.way
      have hlen := hway.len hM
      dsimp only at hlen
      subst hr12
      refine ⟨_, rfl, _, rfl, ifF (by intro z; cases z) ?_⟩
      refine ⟨_, rfl, _, rfl, _, rfl, _, rfl, _, rfl, _, rfl, _, rfl, .inr ⟨k, rfl, pd, _, _, .int c, rfl, rfl, SqT.of hpd', hix, pb, ra, fa, la, sh, n, es', (ft, fx), (lt, lx), sa', sb', c, r1, r2, rfl, cO.parts, hM, hra, hR2, cO.pre.pf, cO.pre.pl, cO.pre.s, cO.pre.sh, hl300, fun HP sP => ⟨true, rfl, iteF ?_⟩⟩⟩
      have cP := cO.same sP
      have hraP : RunT HP ra (r1 ++ r2) := sP _ _ hra
      have hRk : RunOk K pm ra HP es' (r1 ++ r2) := ⟨n, lt, (q2, lx), c2, cP.pre.m, hraP, hway, by omega⟩
      refine ⟨_, rfl, _, rfl, pm, ra, es', r1 ++ r2, rfl, hRk, fun HQ sQ => ⟨true, true, rfl, rfl, _, rfl, ifNF rfl ?_⟩⟩
      refine ⟨_, rfl, _, rfl, pm, ra, es', r1 ++ r2, rfl, hRk.same sQ, fun pz HR sR hbd => ?_⟩
      obtain ⟨L1, L2, hbs, hL1, hlt1, hlast, _⟩ := hR2.shown hM
      obtain ⟨cs', b1, b2, b3⟩ := hbd.ex
      have hbl : (bds es' 0 0 (r1 ++ r2)).length = r1.length + r2.length := by
        have : (bds es' 0 ((0, 0) : Sta).2 (r1 ++ r2)).length = (r1 ++ r2).length := bds_len hway
        rw [List.length_append] at this
        exact this
      have hne : 0 < r1.length + r2.length := by
        rcases Nat.eq_zero_or_pos (r1.length + r2.length) with z | z
        · exfalso
          rw [z] at hlast
          rw [← hbs] at hlast
          cases hlast
          exact absurd hfl (Nat.not_lt_zero _)
        · exact z
      obtain ⟨mz, hmz⟩ : ∃ mz, r1.length + r2.length = mz + 1 := ⟨r1.length + r2.length - 1, by omega⟩
      rw [← hbs, hmz, List.getElem?_cons_succ] at hlast
      obtain ⟨lb, lb1, lb2⟩ := b3 _ _ hlast
      have sPR : Same HO' HR := (sP.trans sQ).trans sR
      refine ⟨1, rfl, pz, _, _, .ref lb, rfl, rfl, SqL.of b1, last_at (by rw [b2, hbl, hmz]) lb1, _, rfl, _, _, dp_b lb2, dp_b (sPR _ _ cO.pre.pl : Tp2 HR la (lt : Nat) lx), bD_shaped _ _, bD_shaped _ _, false, ?_, iteF ⟨_, _, rfl, cO.same sPR, sPR _ _ (ext_tup e htbN)⟩⟩
      rw [bD_eqv, decide_eq_true rfl, decide_eq_true rfl]
      rfl
end
end Nl
namespace Nl
open PySem PySem.Spec PyProof.Rows L2
/-! the head: facts by names, the run -/
def d_is_integer : He.DefD := ⟨("is_integer", none), "is_integer", "is_integer", defArgs s_is_integer, defBody s_is_integer, defScope s_is_integer, [], []⟩
def d_is_within : He.DefD := ⟨("is_within", none), "is_within", "is_within", defArgs s_is_within, defBody s_is_within, defScope s_is_within, [], []⟩
def d_is_from : He.DefD := ⟨("is_from", none), "is_from", "is_from", defArgs s_is_from, defBody s_is_from, defScope s_is_from, [], []⟩
def d_is_pair : He.DefD := ⟨("is_pair", none), "is_pair", "is_pair", defArgs s_is_pair, defBody s_is_pair, defScope s_is_pair, [], []⟩
def d_common_divisor : He.DefD := ⟨("common_divisor", none), "common_divisor", "common_divisor", defArgs s_common_divisor, defBody s_common_divisor, defScope s_common_divisor, [], []⟩
def d_is_share : He.DefD := ⟨("is_share", none), "is_share", "is_share", defArgs s_is_share, defBody s_is_share, defScope s_is_share, [], []⟩
def d_check_share : He.DefD := ⟨("check_share", none), "check_share", "check_share", defArgs s_check_share, defBody s_check_share, defScope s_check_share, [], []⟩
def d_is_event : He.DefD := ⟨("is_event", none), "is_event", "is_event", defArgs s_is_event, defBody s_is_event, defScope s_is_event, [], []⟩
def d_step_at : He.DefD := ⟨("step_at", none), "step_at", "step_at", defArgs s_step_at, defBody s_step_at, defScope s_step_at, [], []⟩
def d_is_event_of : He.DefD := ⟨("is_event_of", none), "is_event_of", "is_event_of", defArgs s_is_event_of, defBody s_is_event_of, defScope s_is_event_of, [], []⟩
def d_is_run_there : He.DefD := ⟨("is_run_there", none), "is_run_there", "is_run_there", defArgs s_is_run_there, defBody s_is_run_there, defScope s_is_run_there, [], []⟩
def d_check_run : He.DefD := ⟨("check_run", none), "check_run", "check_run", defArgs s_check_run, defBody s_check_run, defScope s_check_run, [], []⟩
def d_boards_of : He.DefD := ⟨("boards_of", none), "boards_of", "boards_of", defArgs s_boards_of, defBody s_boards_of, defScope s_boards_of, [], []⟩
def d_is_run : He.DefD := ⟨("is_run", none), "is_run", "is_run", defArgs s_is_run, defBody s_is_run, defScope s_is_run, [], []⟩
def d_boards : He.DefD := ⟨("boards", none), "boards", "boards", defArgs s_boards, defBody s_boards, defScope s_boards, [], []⟩
def d_is_first : He.DefD := ⟨("is_first", none), "is_first", "is_first", defArgs s_is_first, defBody s_is_first, defScope s_is_first, [], []⟩
def d_check_boards : He.DefD := ⟨("check_boards", none), "check_boards", "check_boards", defArgs s_check_boards, defBody s_check_boards, defScope s_check_boards, [], []⟩
def d_check_tries : He.DefD := ⟨("check_tries", none), "check_tries", "check_tries", defArgs s_check_tries, defBody s_check_tries, defScope s_check_tries, [], []⟩
def d_traced : He.DefD := ⟨("traced", none), "traced", "traced", defArgs s_traced, defBody s_traced, defScope s_traced, [], []⟩
def d_keep_better : He.DefD := ⟨("keep_better", none), "keep_better", "keep_better", defArgs s_keep_better, defBody s_keep_better, defScope s_keep_better, [], []⟩
def d_way_back : He.DefD := ⟨("way_back", none), "way_back", "way_back", defArgs s_way_back, defBody s_way_back, defScope s_way_back, [], []⟩
def d_nothing : He.DefD := ⟨("nothing", none), "nothing", "nothing", defArgs s_nothing, defBody s_nothing, defScope s_nothing, [], []⟩
def d_lead_to : He.DefD := ⟨("lead_to", none), "lead_to", "lead_to", defArgs s_lead_to, defBody s_lead_to, defScope s_lead_to, [], []⟩
def d_begins_of : He.DefD := ⟨("begins_of", none), "begins_of", "begins_of", defArgs s_begins_of, defBody s_begins_of, defScope s_begins_of, [], []⟩
def d_best_run : He.DefD := ⟨("best_run", none), "best_run", "best_run", defArgs s_best_run, defBody s_best_run, defScope s_best_run, [], []⟩
def d_often_of : He.DefD := ⟨("often_of", none), "often_of", "often_of", defArgs s_often_of, defBody s_often_of, defScope s_often_of, [], []⟩
def d_often : He.DefD := ⟨("often", none), "often", "often", defArgs s_often, defBody s_often, defScope s_often, [], []⟩
def d_often_run : He.DefD := ⟨("often_run", none), "often_run", "often_run", defArgs s_often_run, defBody s_often_run, defScope s_often_run, [], []⟩
def d__law_pot : He.DefD := ⟨("_law_pot", none), "_law_pot", "_law_pot", defArgs s__law_pot, defBody s__law_pot, defScope s__law_pot, [], []⟩
def d__law_draw : He.DefD := ⟨("_law_draw", none), "_law_draw", "_law_draw", defArgs s__law_draw, defBody s__law_draw, defScope s__law_draw, [], []⟩
def d__law_any : He.DefD := ⟨("_law_any", none), "_law_any", "_law_any", defArgs s__law_any, defBody s__law_any, defScope s__law_any, [], []⟩
def d__law_parts : He.DefD := ⟨("_law_parts", none), "_law_parts", "_law_parts", defArgs s__law_parts, defBody s__law_parts, defScope s__law_parts, [], []⟩
def d__law_gcd : He.DefD := ⟨("_law_gcd", none), "_law_gcd", "_law_gcd", defArgs s__law_gcd, defBody s__law_gcd, defScope s__law_gcd, [], []⟩
def d__law_low : He.DefD := ⟨("_law_low", none), "_law_low", "_law_low", defArgs s__law_low, defBody s__law_low, defScope s__law_low, [], []⟩
def d__law_share : He.DefD := ⟨("_law_share", none), "_law_share", "_law_share", defArgs s__law_share, defBody s__law_share, defScope s__law_share, [], []⟩
def d__law_out : He.DefD := ⟨("_law_out", none), "_law_out", "_law_out", defArgs s__law_out, defBody s__law_out, defScope s__law_out, [], []⟩
def d__law_walk : He.DefD := ⟨("_law_walk", none), "_law_walk", "_law_walk", defArgs s__law_walk, defBody s__law_walk, defScope s__law_walk, [], []⟩
def d__law_two_boards : He.DefD := ⟨("_law_two_boards", none), "_law_two_boards", "_law_two_boards", defArgs s__law_two_boards, defBody s__law_two_boards, defScope s__law_two_boards, [], []⟩
def d__law_boards_with : He.DefD := ⟨("_law_boards_with", none), "_law_boards_with", "_law_boards_with", defArgs s__law_boards_with, defBody s__law_boards_with, defScope s__law_boards_with, [], []⟩
def d__law_flow : He.DefD := ⟨("_law_flow", none), "_law_flow", "_law_flow", defArgs s__law_flow, defBody s__law_flow, defScope s__law_flow, [], []⟩
def d__law_often : He.DefD := ⟨("_law_often", none), "_law_often", "_law_often", defArgs s__law_often, defBody s__law_often, defScope s__law_often, [], []⟩
def d__law_room : He.DefD := ⟨("_law_room", none), "_law_room", "_law_room", defArgs s__law_room, defBody s__law_room, defScope s__law_room, [], []⟩
def d__law_is_right : He.DefD := ⟨("_law_is_right", none), "_law_is_right", "_law_is_right", defArgs s__law_is_right, defBody s__law_is_right, defScope s__law_is_right, [], []⟩
def d_law : He.DefD := ⟨("law", none), "law", "law", defArgs s_law, defBody s_law, defScope s_law, [], []⟩
def d_M_init : He.DefD := ⟨("Machine", some "__init__"), "__init__", "Machine.__init__", defArgs s_M_init, defBody s_M_init, defScope s_M_init, [], []⟩
def d_M_keep : He.DefD := ⟨("Machine", some "keep"), "keep", "Machine.keep", defArgs s_M_keep, defBody s_M_keep, defScope s_M_keep, [], []⟩
def fn0 : List He.DefD := [d_is_integer, d_is_within, d_is_from, d_is_pair, d_common_divisor, d_is_share, d_check_share, d_is_event, d_step_at, d_is_event_of, d_is_run_there, d_check_run, d_boards_of, d_is_run, d_boards, d_is_first, d_check_boards, d_check_tries, d_traced, d_keep_better]
def fn1 : List He.DefD := [d_way_back, d_nothing, d_lead_to, d_begins_of, d_best_run, d_often_of, d_often, d_often_run, d__law_pot, d__law_draw, d__law_any, d__law_parts, d__law_gcd, d__law_low, d__law_share, d__law_out, d__law_walk, d__law_two_boards, d__law_boards_with, d__law_flow]
def fn2 : List He.DefD := [d__law_often, d__law_room, d__law_is_right, d_law, d_M_init, d_M_keep]
def fn : List He.DefD := fn0 ++ (fn1 ++ (fn2))
def fa0 : List He.Fa := [.glo "is_integer", .glo "is_within", .glo "is_from", .glo "is_pair", .glo "common_divisor", .glo "is_share", .glo "check_share", .glo "is_event", .glo "step_at", .glo "is_event_of", .glo "is_run_there", .glo "check_run", .glo "boards_of", .glo "is_run", .glo "boards", .glo "is_first", .glo "check_boards", .glo "check_tries", .glo "traced", .glo "keep_better"]
def fa1 : List He.Fa := [.glo "way_back", .glo "nothing", .glo "lead_to", .glo "begins_of", .glo "best_run", .glo "often_of", .glo "often", .glo "often_run", .glo "_law_pot", .glo "_law_draw", .glo "_law_any", .glo "_law_parts", .glo "_law_gcd", .glo "_law_low", .glo "_law_share", .glo "_law_out", .glo "_law_walk", .glo "_law_two_boards", .glo "_law_boards_with", .glo "_law_flow"]
def fa2 : List He.Fa := [.glo "_law_often", .glo "_law_room", .glo "_law_is_right", .glo "law", .glo "Machine", .free "abs", .free "all", .free "bool", .free "enumerate", .free "int", .free "isinstance", .free "len", .free "list", .free "max", .free "min", .free "range", .free "sorted", .free "sum", .free "tuple", .int "MOST_STANDINGS" 12]
def fa3 : List He.Fa := [.int "MOST_EVENTS" 30, .int "MOST_TRIES_machines" 40, .int "MOST_POINTS" 400, .int "MOST_TRIES_betweens" 300, .cls "Machine", .noat "Machine" "standings", .noat "Machine" "events", .noat "Machine" "kept_out", .meth "Machine" "keep", .mkr "Machine"]
def fa : List He.Fa := fa0 ++ (fa1 ++ (fa2 ++ (fa3)))
def looseN0 : List PySem.Str := ["LeapError", "BadMachine", "TooMany", "NoRun", "NoShare", "NoBoard", "NoFlag", "is_integer", "is_within", "is_from", "is_pair", "common_divisor", "is_share", "check_share", "MOST_STANDINGS", "MOST_EVENTS", "MOST_TRIES_machines", "MOST_POINTS", "is_event", "Machine"]
def looseN1 : List PySem.Str := ["step_at", "is_event_of", "is_run_there", "check_run", "boards_of", "is_run", "boards", "MOST_TRIES_betweens", "is_first", "check_boards", "check_tries", "traced", "keep_better", "way_back", "nothing", "lead_to", "begins_of", "best_run", "often_of", "often"]
def looseN2 : List PySem.Str := ["often_run", "_law_pot", "_law_draw", "_law_any", "_law_parts", "_law_gcd", "_law_low", "_law_share", "_law_out", "_law_walk", "_law_two_boards", "_law_boards_with", "_law_flow", "_law_often", "_law_room", "_law_is_right"]
def looseN : List PySem.Str := looseN0 ++ (looseN1 ++ (looseN2))
def tfN : List He.Defn := [("best_run", none)]
abbrev R : PySem.W.OpenRow := PySem.W.OpenLaw.row PySem.Challenge.rw_neverleapt_k75_whole_runs_that_show_a_sh
abbrev hk : PySem.W.Hook := He.hookX 5 fa fn [] tfN (fun _ => true)
def ob (s : PySem.W.SharedT) : He.AlX := He.obsX 5 fa fn [] tfN (fun _ => true) (HandSHeadRun.getT s)
theorem ob_eq (s : PySem.W.SharedT) : ob s = hk.obs s.abs := He.obsX_eq (HandSHeadRun.getT_eq s)
theorem run (w : World) : HandSHeadRun.RunEq R (PySem.W.view R.prog [61]) hk ob 4000 looseN w := by
  intro os
  kernel_rfl
end Nl
namespace Nl
open PySem PySem.Spec PyProof.Rows L2 LamX NdefX
section
variable {P : Program} {w : World} {K : PySem.W.Frag} {h : Heap} {mg : Str → Option Value}
theorem tx_of (X : K.In h) (G : h.Ns mainGlobals mg) (cd : He.SaysD fa fn K) : TX K mg where
  abs := He.free_ok X G (cd.fact 45 (f := .free "abs") rfl)
  all := He.free_ok X G (cd.fact 46 (f := .free "all") rfl)
  bool := He.free_ok X G (cd.fact 47 (f := .free "bool") rfl)
  enumerate := He.free_ok X G (cd.fact 48 (f := .free "enumerate") rfl)
  int := He.free_ok X G (cd.fact 49 (f := .free "int") rfl)
  isinstance := He.free_ok X G (cd.fact 50 (f := .free "isinstance") rfl)
  len := He.free_ok X G (cd.fact 51 (f := .free "len") rfl)
  list := He.free_ok X G (cd.fact 52 (f := .free "list") rfl)
  max := He.free_ok X G (cd.fact 53 (f := .free "max") rfl)
  min := He.free_ok X G (cd.fact 54 (f := .free "min") rfl)
  range := He.free_ok X G (cd.fact 55 (f := .free "range") rfl)
  sorted := He.free_ok X G (cd.fact 56 (f := .free "sorted") rfl)
  sum := He.free_ok X G (cd.fact 57 (f := .free "sum") rfl)
  tuple := He.free_ok X G (cd.fact 58 (f := .free "tuple") rfl)
  MOST_STANDINGS := He.int_ok X G (cd.fact 59 (f := .int "MOST_STANDINGS" 12) rfl)
  MOST_EVENTS := He.int_ok X G (cd.fact 60 (f := .int "MOST_EVENTS" 30) rfl)
  MOST_TRIES_machines := He.int_ok X G (cd.fact 61 (f := .int "MOST_TRIES_machines" 40) rfl)
  MOST_POINTS := He.int_ok X G (cd.fact 62 (f := .int "MOST_POINTS" 400) rfl)
  MOST_TRIES_betweens := He.int_ok X G (cd.fact 63 (f := .int "MOST_TRIES_betweens" 300) rfl)
  cl := He.cls_ok (cd.fact 64 (f := .cls "Machine") rfl)
  nSt := He.noat_ok (cd.fact 65 (f := .noat "Machine" "standings") rfl)
  nEv := He.noat_ok (cd.fact 66 (f := .noat "Machine" "events") rfl)
  nKo := He.noat_ok (cd.fact 67 (f := .noat "Machine" "kept_out") rfl)
  mK := He.meth_ok (cd.fact 68 (f := .meth "Machine" "keep") rfl)
  mkM := He.mkr_ok (cd.fact 69 (f := .mkr "Machine") rfl)
  mgM := He.glo_ok X G (cd.fact 44 (f := .glo "Machine") rfl)
theorem df_is_integer (X : K.In h) (G : h.Ns mainGlobals mg) (cd : He.SaysD fa fn K) : Df K mg "is_integer" s_is_integer := ⟨⟨_, _, (cd.def_ 0 (d := d_is_integer) rfl).choose_spec, He.glo_ok X G (cd.fact 0 (f := .glo "is_integer") rfl)⟩⟩
theorem df_is_within (X : K.In h) (G : h.Ns mainGlobals mg) (cd : He.SaysD fa fn K) : Df K mg "is_within" s_is_within := ⟨⟨_, _, (cd.def_ 1 (d := d_is_within) rfl).choose_spec, He.glo_ok X G (cd.fact 1 (f := .glo "is_within") rfl)⟩⟩
theorem df_is_from (X : K.In h) (G : h.Ns mainGlobals mg) (cd : He.SaysD fa fn K) : Df K mg "is_from" s_is_from := ⟨⟨_, _, (cd.def_ 2 (d := d_is_from) rfl).choose_spec, He.glo_ok X G (cd.fact 2 (f := .glo "is_from") rfl)⟩⟩
theorem df_is_pair (X : K.In h) (G : h.Ns mainGlobals mg) (cd : He.SaysD fa fn K) : Df K mg "is_pair" s_is_pair := ⟨⟨_, _, (cd.def_ 3 (d := d_is_pair) rfl).choose_spec, He.glo_ok X G (cd.fact 3 (f := .glo "is_pair") rfl)⟩⟩
theorem df_common_divisor (X : K.In h) (G : h.Ns mainGlobals mg) (cd : He.SaysD fa fn K) : Df K mg "common_divisor" s_common_divisor := ⟨⟨_, _, (cd.def_ 4 (d := d_common_divisor) rfl).choose_spec, He.glo_ok X G (cd.fact 4 (f := .glo "common_divisor") rfl)⟩⟩
theorem df_is_share (X : K.In h) (G : h.Ns mainGlobals mg) (cd : He.SaysD fa fn K) : Df K mg "is_share" s_is_share := ⟨⟨_, _, (cd.def_ 5 (d := d_is_share) rfl).choose_spec, He.glo_ok X G (cd.fact 5 (f := .glo "is_share") rfl)⟩⟩
theorem df_check_share (X : K.In h) (G : h.Ns mainGlobals mg) (cd : He.SaysD fa fn K) : Df K mg "check_share" s_check_share := ⟨⟨_, _, (cd.def_ 6 (d := d_check_share) rfl).choose_spec, He.glo_ok X G (cd.fact 6 (f := .glo "check_share") rfl)⟩⟩
theorem df_is_event (X : K.In h) (G : h.Ns mainGlobals mg) (cd : He.SaysD fa fn K) : Df K mg "is_event" s_is_event := ⟨⟨_, _, (cd.def_ 7 (d := d_is_event) rfl).choose_spec, He.glo_ok X G (cd.fact 7 (f := .glo "is_event") rfl)⟩⟩
theorem df_step_at (X : K.In h) (G : h.Ns mainGlobals mg) (cd : He.SaysD fa fn K) : Df K mg "step_at" s_step_at := ⟨⟨_, _, (cd.def_ 8 (d := d_step_at) rfl).choose_spec, He.glo_ok X G (cd.fact 8 (f := .glo "step_at") rfl)⟩⟩
theorem df_is_event_of (X : K.In h) (G : h.Ns mainGlobals mg) (cd : He.SaysD fa fn K) : Df K mg "is_event_of" s_is_event_of := ⟨⟨_, _, (cd.def_ 9 (d := d_is_event_of) rfl).choose_spec, He.glo_ok X G (cd.fact 9 (f := .glo "is_event_of") rfl)⟩⟩
theorem df_is_run_there (X : K.In h) (G : h.Ns mainGlobals mg) (cd : He.SaysD fa fn K) : Df K mg "is_run_there" s_is_run_there := ⟨⟨_, _, (cd.def_ 10 (d := d_is_run_there) rfl).choose_spec, He.glo_ok X G (cd.fact 10 (f := .glo "is_run_there") rfl)⟩⟩
theorem df_check_run (X : K.In h) (G : h.Ns mainGlobals mg) (cd : He.SaysD fa fn K) : Df K mg "check_run" s_check_run := ⟨⟨_, _, (cd.def_ 11 (d := d_check_run) rfl).choose_spec, He.glo_ok X G (cd.fact 11 (f := .glo "check_run") rfl)⟩⟩
theorem df_boards_of (X : K.In h) (G : h.Ns mainGlobals mg) (cd : He.SaysD fa fn K) : Df K mg "boards_of" s_boards_of := ⟨⟨_, _, (cd.def_ 12 (d := d_boards_of) rfl).choose_spec, He.glo_ok X G (cd.fact 12 (f := .glo "boards_of") rfl)⟩⟩
theorem df_is_run (X : K.In h) (G : h.Ns mainGlobals mg) (cd : He.SaysD fa fn K) : Df K mg "is_run" s_is_run := ⟨⟨_, _, (cd.def_ 13 (d := d_is_run) rfl).choose_spec, He.glo_ok X G (cd.fact 13 (f := .glo "is_run") rfl)⟩⟩
theorem df_boards (X : K.In h) (G : h.Ns mainGlobals mg) (cd : He.SaysD fa fn K) : Df K mg "boards" s_boards := ⟨⟨_, _, (cd.def_ 14 (d := d_boards) rfl).choose_spec, He.glo_ok X G (cd.fact 14 (f := .glo "boards") rfl)⟩⟩
theorem df_is_first (X : K.In h) (G : h.Ns mainGlobals mg) (cd : He.SaysD fa fn K) : Df K mg "is_first" s_is_first := ⟨⟨_, _, (cd.def_ 15 (d := d_is_first) rfl).choose_spec, He.glo_ok X G (cd.fact 15 (f := .glo "is_first") rfl)⟩⟩
theorem df_check_boards (X : K.In h) (G : h.Ns mainGlobals mg) (cd : He.SaysD fa fn K) : Df K mg "check_boards" s_check_boards := ⟨⟨_, _, (cd.def_ 16 (d := d_check_boards) rfl).choose_spec, He.glo_ok X G (cd.fact 16 (f := .glo "check_boards") rfl)⟩⟩
theorem df_check_tries (X : K.In h) (G : h.Ns mainGlobals mg) (cd : He.SaysD fa fn K) : Df K mg "check_tries" s_check_tries := ⟨⟨_, _, (cd.def_ 17 (d := d_check_tries) rfl).choose_spec, He.glo_ok X G (cd.fact 17 (f := .glo "check_tries") rfl)⟩⟩
theorem df_traced (X : K.In h) (G : h.Ns mainGlobals mg) (cd : He.SaysD fa fn K) : Df K mg "traced" s_traced := ⟨⟨_, _, (cd.def_ 18 (d := d_traced) rfl).choose_spec, He.glo_ok X G (cd.fact 18 (f := .glo "traced") rfl)⟩⟩
theorem df_keep_better (X : K.In h) (G : h.Ns mainGlobals mg) (cd : He.SaysD fa fn K) : Df K mg "keep_better" s_keep_better := ⟨⟨_, _, (cd.def_ 19 (d := d_keep_better) rfl).choose_spec, He.glo_ok X G (cd.fact 19 (f := .glo "keep_better") rfl)⟩⟩
theorem df_way_back (X : K.In h) (G : h.Ns mainGlobals mg) (cd : He.SaysD fa fn K) : Df K mg "way_back" s_way_back := ⟨⟨_, _, (cd.def_ 20 (d := d_way_back) rfl).choose_spec, He.glo_ok X G (cd.fact 20 (f := .glo "way_back") rfl)⟩⟩
theorem df_nothing (X : K.In h) (G : h.Ns mainGlobals mg) (cd : He.SaysD fa fn K) : Df K mg "nothing" s_nothing := ⟨⟨_, _, (cd.def_ 21 (d := d_nothing) rfl).choose_spec, He.glo_ok X G (cd.fact 21 (f := .glo "nothing") rfl)⟩⟩
theorem df_lead_to (X : K.In h) (G : h.Ns mainGlobals mg) (cd : He.SaysD fa fn K) : Df K mg "lead_to" s_lead_to := ⟨⟨_, _, (cd.def_ 22 (d := d_lead_to) rfl).choose_spec, He.glo_ok X G (cd.fact 22 (f := .glo "lead_to") rfl)⟩⟩
theorem df_begins_of (X : K.In h) (G : h.Ns mainGlobals mg) (cd : He.SaysD fa fn K) : Df K mg "begins_of" s_begins_of := ⟨⟨_, _, (cd.def_ 23 (d := d_begins_of) rfl).choose_spec, He.glo_ok X G (cd.fact 23 (f := .glo "begins_of") rfl)⟩⟩
theorem df_often_of (X : K.In h) (G : h.Ns mainGlobals mg) (cd : He.SaysD fa fn K) : Df K mg "often_of" s_often_of := ⟨⟨_, _, (cd.def_ 25 (d := d_often_of) rfl).choose_spec, He.glo_ok X G (cd.fact 25 (f := .glo "often_of") rfl)⟩⟩
theorem df_often (X : K.In h) (G : h.Ns mainGlobals mg) (cd : He.SaysD fa fn K) : Df K mg "often" s_often := ⟨⟨_, _, (cd.def_ 26 (d := d_often) rfl).choose_spec, He.glo_ok X G (cd.fact 26 (f := .glo "often") rfl)⟩⟩
theorem df_often_run (X : K.In h) (G : h.Ns mainGlobals mg) (cd : He.SaysD fa fn K) : Df K mg "often_run" s_often_run := ⟨⟨_, _, (cd.def_ 27 (d := d_often_run) rfl).choose_spec, He.glo_ok X G (cd.fact 27 (f := .glo "often_run") rfl)⟩⟩
theorem df__law_pot (X : K.In h) (G : h.Ns mainGlobals mg) (cd : He.SaysD fa fn K) : Df K mg "_law_pot" s__law_pot := ⟨⟨_, _, (cd.def_ 28 (d := d__law_pot) rfl).choose_spec, He.glo_ok X G (cd.fact 28 (f := .glo "_law_pot") rfl)⟩⟩
theorem df__law_draw (X : K.In h) (G : h.Ns mainGlobals mg) (cd : He.SaysD fa fn K) : Df K mg "_law_draw" s__law_draw := ⟨⟨_, _, (cd.def_ 29 (d := d__law_draw) rfl).choose_spec, He.glo_ok X G (cd.fact 29 (f := .glo "_law_draw") rfl)⟩⟩
theorem df__law_any (X : K.In h) (G : h.Ns mainGlobals mg) (cd : He.SaysD fa fn K) : Df K mg "_law_any" s__law_any := ⟨⟨_, _, (cd.def_ 30 (d := d__law_any) rfl).choose_spec, He.glo_ok X G (cd.fact 30 (f := .glo "_law_any") rfl)⟩⟩
theorem df__law_parts (X : K.In h) (G : h.Ns mainGlobals mg) (cd : He.SaysD fa fn K) : Df K mg "_law_parts" s__law_parts := ⟨⟨_, _, (cd.def_ 31 (d := d__law_parts) rfl).choose_spec, He.glo_ok X G (cd.fact 31 (f := .glo "_law_parts") rfl)⟩⟩
theorem df__law_gcd (X : K.In h) (G : h.Ns mainGlobals mg) (cd : He.SaysD fa fn K) : Df K mg "_law_gcd" s__law_gcd := ⟨⟨_, _, (cd.def_ 32 (d := d__law_gcd) rfl).choose_spec, He.glo_ok X G (cd.fact 32 (f := .glo "_law_gcd") rfl)⟩⟩
theorem df__law_low (X : K.In h) (G : h.Ns mainGlobals mg) (cd : He.SaysD fa fn K) : Df K mg "_law_low" s__law_low := ⟨⟨_, _, (cd.def_ 33 (d := d__law_low) rfl).choose_spec, He.glo_ok X G (cd.fact 33 (f := .glo "_law_low") rfl)⟩⟩
theorem df__law_share (X : K.In h) (G : h.Ns mainGlobals mg) (cd : He.SaysD fa fn K) : Df K mg "_law_share" s__law_share := ⟨⟨_, _, (cd.def_ 34 (d := d__law_share) rfl).choose_spec, He.glo_ok X G (cd.fact 34 (f := .glo "_law_share") rfl)⟩⟩
theorem df__law_out (X : K.In h) (G : h.Ns mainGlobals mg) (cd : He.SaysD fa fn K) : Df K mg "_law_out" s__law_out := ⟨⟨_, _, (cd.def_ 35 (d := d__law_out) rfl).choose_spec, He.glo_ok X G (cd.fact 35 (f := .glo "_law_out") rfl)⟩⟩
theorem df__law_walk (X : K.In h) (G : h.Ns mainGlobals mg) (cd : He.SaysD fa fn K) : Df K mg "_law_walk" s__law_walk := ⟨⟨_, _, (cd.def_ 36 (d := d__law_walk) rfl).choose_spec, He.glo_ok X G (cd.fact 36 (f := .glo "_law_walk") rfl)⟩⟩
theorem df__law_two_boards (X : K.In h) (G : h.Ns mainGlobals mg) (cd : He.SaysD fa fn K) : Df K mg "_law_two_boards" s__law_two_boards := ⟨⟨_, _, (cd.def_ 37 (d := d__law_two_boards) rfl).choose_spec, He.glo_ok X G (cd.fact 37 (f := .glo "_law_two_boards") rfl)⟩⟩
theorem df__law_boards_with (X : K.In h) (G : h.Ns mainGlobals mg) (cd : He.SaysD fa fn K) : Df K mg "_law_boards_with" s__law_boards_with := ⟨⟨_, _, (cd.def_ 38 (d := d__law_boards_with) rfl).choose_spec, He.glo_ok X G (cd.fact 38 (f := .glo "_law_boards_with") rfl)⟩⟩
theorem df__law_flow (X : K.In h) (G : h.Ns mainGlobals mg) (cd : He.SaysD fa fn K) : Df K mg "_law_flow" s__law_flow := ⟨⟨_, _, (cd.def_ 39 (d := d__law_flow) rfl).choose_spec, He.glo_ok X G (cd.fact 39 (f := .glo "_law_flow") rfl)⟩⟩
theorem df__law_often (X : K.In h) (G : h.Ns mainGlobals mg) (cd : He.SaysD fa fn K) : Df K mg "_law_often" s__law_often := ⟨⟨_, _, (cd.def_ 40 (d := d__law_often) rfl).choose_spec, He.glo_ok X G (cd.fact 40 (f := .glo "_law_often") rfl)⟩⟩
theorem df__law_room (X : K.In h) (G : h.Ns mainGlobals mg) (cd : He.SaysD fa fn K) : Df K mg "_law_room" s__law_room := ⟨⟨_, _, (cd.def_ 41 (d := d__law_room) rfl).choose_spec, He.glo_ok X G (cd.fact 41 (f := .glo "_law_room") rfl)⟩⟩
theorem df__law_is_right (X : K.In h) (G : h.Ns mainGlobals mg) (cd : He.SaysD fa fn K) : Df K mg "_law_is_right" s__law_is_right := ⟨⟨_, _, (cd.def_ 42 (d := d__law_is_right) rfl).choose_spec, He.glo_ok X G (cd.fact 42 (f := .glo "_law_is_right") rfl)⟩⟩
end

section
variable {P : Program} {w : World} {K : PySem.W.Frag} {h : Heap} {mg : Str → Option Value}
abbrev cBest (K : PySem.W.Frag) : Addr := He.codeOf K ("best_run", none)
abbrev tBest (K : PySem.W.Frag) : Addr := He.tabOf K (cBest K)
theorem df_best (X : K.In h) (G : h.Ns mainGlobals mg) (cd : He.SaysD fa fn K) : DfC K mg "best_run" s_best_run (cBest K) := by
  obtain ⟨fd, F⟩ := cd.def_ 24 (d := d_best_run) rfl
  refine ⟨_, fd, F, He.glo_ok X G (cd.fact 24 (f := .glo "best_run") rfl), ?_⟩
  obtain ⟨oc, od, dV, kV, doc, pm, an, cdv, ct, osl, rfl, lk, hcd, _, _⟩ := F.ex
  obtain ⟨c, rfl⟩ := He.codeIn_ref hcd
  exact congrArg Value.ref (He.codeOf_eq (p := ("best_run", none)) lk rfl).symm
theorem facts {f : Addr} (X : K.In h) (G : h.Ns mainGlobals mg) (hfa : mg ("law" : Str) = some (.ref f)) (cd : He.SaysD fa fn K) :
    ∃ fd : FuncData, (∀ (s : Shared) (v : Value), BindsTo s fd ⟨[v], []⟩ [("_law_script", v)]) ∧ ∀ base : Heap, K.In base → base.Ns mainGlobals mg → TabB base mg (cBest K) (tBest K) → FnOk P w K mg base CX0 7 f fd ["_law_script"] (spLaw K (tBest K)) := by
  obtain ⟨fdL, FL⟩ := cd.def_ 43 (d := d_law) rfl
  have e := hfa.symm.trans (He.glo_ok X G (cd.fact 43 (f := .glo "law") rfl))
  injection e with e
  injection e with e
  subst e
  have b := FunD.bindsA (ps := ["_law_script"]) FL fun _ _ _ _ _ _ us hl => match us, hl with | [_], _ => rfl
  refine ⟨fdL, fun s v => b s [v] rfl, fun base _ _ TB => ?_⟩
  have T := tx_of X G cd
  have hD := df_best X G cd
  have g_is_integer := ok_is_integer (P := P) (w := w) (base := base) (df_is_integer X G cd) T
  have g_is_within := ok_is_within (P := P) (w := w) (base := base) (df_is_within X G cd) T g_is_integer
  have g_is_from := ok_is_from (P := P) (w := w) (base := base) (df_is_from X G cd) T g_is_integer
  have g_is_pair := ok_is_pair (P := P) (w := w) (base := base) (df_is_pair X G cd) T
  have g_common_divisor := ok_common_divisor (P := P) (w := w) (base := base) (df_common_divisor X G cd) T
  have g_is_share := ok_is_share (P := P) (w := w) (base := base) (df_is_share X G cd) T g_is_integer g_is_pair g_is_from g_common_divisor
  have g_check_share := ok_check_share (P := P) (w := w) (base := base) (df_check_share X G cd) T g_is_share
  have g_is_event := ok_is_event (P := P) (w := w) (base := base) (df_is_event X G cd) T g_is_within
  have g_step_at := ok_step_at (P := P) (w := w) (base := base) (df_step_at X G cd) T
  have g_is_event_of := ok_is_event_of (P := P) (w := w) (base := base) (df_is_event_of X G cd) T g_is_within
  have g_is_run_there := ok_is_run_there (P := P) (w := w) (base := base) (df_is_run_there X G cd) T g_is_event_of g_step_at
  have g_check_run := ok_check_run (P := P) (w := w) (base := base) (df_check_run X G cd) T g_is_run_there
  have g_boards_of := ok_boards_of (P := P) (w := w) (base := base) (df_boards_of X G cd) T g_step_at
  have g_is_run := ok_is_run (P := P) (w := w) (base := base) (df_is_run X G cd) T g_is_run_there
  have g_boards := ok_boards (P := P) (w := w) (base := base) (df_boards X G cd) T g_check_run g_boards_of
  have g_is_first := ok_is_first (P := P) (w := w) (base := base) (df_is_first X G cd) T g_is_integer g_is_pair g_is_from
  have g_check_boards := ok_check_boards (P := P) (w := w) (base := base) (df_check_boards X G cd) T g_is_integer g_is_pair g_is_from g_is_first
  have g_check_tries := ok_check_tries (P := P) (w := w) (base := base) (df_check_tries X G cd) T
  have g_nothing := ok_nothing0 (P := P) (w := w) (base := base) (df_nothing X G cd) T
  have g_keep_better := ok_keep_better (P := P) (w := w) (base := base) (df_keep_better X G cd) T
  have g_begins_of := ok_begins_of (P := P) (w := w) (base := base) (df_begins_of X G cd) T
  have g_way_back := ok_way_back (P := P) (w := w) (base := base) (df_way_back X G cd) T g_step_at
  have g_lead_to := ok_lead_to (P := P) (w := w) (base := base) (df_lead_to X G cd) (df_traced X G cd) T g_nothing g_step_at g_keep_better
  have g_best_run := ok_best_run (P := P) (w := w) (base := base) hD (df_traced X G cd) T TB g_step_at g_keep_better g_lead_to g_begins_of g_way_back
  have g_often_of := ok_often_of (P := P) (w := w) (base := base) (df_often_of X G cd) T g_best_run
  have g_often := ok_often (P := P) (w := w) (base := base) (df_often X G cd) T g_check_boards g_check_share g_check_tries g_often_of
  have g_often_run := ok_often_run (P := P) (w := w) (base := base) (df_often_run X G cd) T g_check_boards g_check_share g_check_tries g_best_run
  have g__law_pot := ok__law_pot (P := P) (w := w) (base := base) (df__law_pot X G cd) T
  have g__law_draw := ok__law_draw (P := P) (w := w) (base := base) (df__law_draw X G cd) T
  have g__law_any := ok__law_any (P := P) (w := w) (base := base) (df__law_any X G cd) T g__law_draw
  have g__law_parts := ok__law_parts (P := P) (w := w) (base := base) (df__law_parts X G cd) T g__law_draw
  have g__law_gcd := ok__law_gcd (P := P) (w := w) (base := base) (df__law_gcd X G cd) T
  have g__law_low := ok__law_low (P := P) (w := w) (base := base) (df__law_low X G cd) T g__law_gcd
  have g__law_share := ok__law_share (P := P) (w := w) (base := base) (df__law_share X G cd) T g__law_draw g__law_low
  have g__law_out := ok__law_out (P := P) (w := w) (base := base) (df__law_out X G cd) T
  have g__law_walk := ok__law_walk (P := P) (w := w) (base := base) (df__law_walk X G cd) T g__law_draw g__law_out
  have g__law_two_boards := ok__law_two_boards (P := P) (w := w) (base := base) (df__law_two_boards X G cd) T g__law_draw g__law_walk
  have g__law_boards_with := ok__law_boards_with (P := P) (w := w) (base := base) (df__law_boards_with X G cd) T
  have g__law_flow := ok__law_flow (P := P) (w := w) (base := base) (df__law_flow X G cd) T g__law_out
  have g__law_often := ok__law_often (P := P) (w := w) (base := base) (df__law_often X G cd) T g__law_flow
  have g__law_room := ok__law_room (P := P) (w := w) (base := base) (df__law_room X G cd) T
  have g__law_is_right := ok__law_is_right (P := P) (w := w) (base := base) (df__law_is_right X G cd) T g__law_out g__law_boards_with g__law_low
  obtain ⟨fdI, FI⟩ := cd.def_ 44 (d := d_M_init) rfl
  obtain ⟨fdK, FK⟩ := cd.def_ 45 (d := d_M_keep) rfl
  have gK := ok_keep (P := P) (w := w) (base := base) FK T
  have bK : Binds K fdK ["self", "standings", "events"] [] := FK.bindsN fun _ _ _ _ _ _ us hl => match us, hl with | [_, _, _], _ => rfl
  have gI := ok_init (P := P) (w := w) (base := base) (fK := (0 : Nat)) FI T gK bK g_is_within g_is_event
  have bI : Binds K fdI ["self", "standings", "events"] [] := FI.bindsN fun _ _ _ _ _ _ us hl => match us, hl with | [_, _, _], _ => rfl
  exact ok_law FL T gI bI g__law_pot g__law_parts g__law_room g__law_any g__law_two_boards g__law_low g__law_share g__law_often g_often g_often_run g__law_is_right g_is_run g_boards
end
end Nl
open PySem PySem.W PySem.Calls PyProof.Rows
theorem PySem.Challenge.cw_neverleapt_k75_whole_runs_that_show_a_sh_holds : PySem.Challenge.rw_neverleapt_k75_whole_runs_that_show_a_sh.Holds := by
  w_on; o_law
  refine HandSHeadRun.head_any (r := OpenLaw.row PySem.Challenge.rw_neverleapt_k75_whole_runs_that_show_a_sh) (q := view (OpenLaw.row PySem.Challenge.rw_neverleapt_k75_whole_runs_that_show_a_sh).prog [61]) (H := Nl.hk) (ob := Nl.ob) (M := 4000) (loose := Nl.looseN) (d := HandSHeadRun.topDef (OpenLaw.row PySem.Challenge.rw_neverleapt_k75_whole_runs_that_show_a_sh).prog 61) (kwd := []) Nl.ob_eq
    (by kernel_rfl) (fun s => by kernel_rfl) Nl.run (by kernel_rfl) (by kernel_rfl) (by kernel_rfl) (by rfl) (by first | assumption | decide +kernel) (by decide +kernel) ⟨rfl, rfl, rfl, rfl, rfl, by decide +kernel⟩ ?hw ?hc
  case hw => w_witness2
  case hc =>
    refine LamX.walk_ofTsE (l := PySem.Challenge.rw_neverleapt_k75_whole_runs_that_show_a_sh) (n := 63) (k := 7) (x := "_law_script") (CX := fun _ => L2.CX0) rfl (by decide) (by kernel_rfl) ⟨rfl, by decide, by decide⟩ ?F (fun _ _ _ _ _ z => z)
    intro w mg fa h Y G hmg0
    obtain ⟨K, KX, c⟩ := Y
    have hmg : mg ("law" : PySem.Str) = some (.ref fa) := by
      have e : (HandSHeadRun.topDef (OpenLaw.row PySem.Challenge.rw_neverleapt_k75_whole_runs_that_show_a_sh).prog 61).name = ("law" : PySem.Str) := by kernel_rfl
      rw [← e]
      exact hmg0
    obtain ⟨fd, hb, hF⟩ := Nl.facts (P := (PySem.Challenge.rw_neverleapt_k75_whole_runs_that_show_a_sh).prog) (w := w) KX G hmg c.t.d
    refine ⟨K, KX, fd, [He.cT K ("best_run", none)], Nl.spLaw K (Nl.tBest K), fun p hp => ?_, fun p hp => ?_, fun p hp => ?_, hb, fun H a ns hl _ hT hS => ⟨a, ns, rfl, hS, hl, fun p hp => ?_, fun _ => rfl⟩, fun base hK hG hTB => hF base hK hG (hTB _ (List.mem_singleton.mpr rfl))⟩
    · rw [List.mem_singleton.mp hp]
      exact c.empty _ (List.mem_singleton.mpr rfl)
    · rw [List.mem_singleton.mp hp]
      exact c.out _ (List.mem_singleton.mpr rfl)
    · rw [List.mem_singleton.mp hp]
      exact PySem.W.codeHd_of_K KX (c.hd _ (List.mem_singleton.mpr rfl))
    · rw [List.mem_singleton.mp hp]
      exact NdefX.TabN.nil (hT _ (List.mem_singleton.mpr rfl))
