import PyProof.Rows.All
import Wide.All
import OpenK.AllK
import Wide.FinOn
import PyProof.NeKinds
import PyProof.EqKinds
import KE.DataFind
import Open.SpecLaws
import KE.OsGo
import HandS.ForSpec
import HandS.Comp
import HandS.Iter
import HandS.Walk
import HandS.Conv
import HandS.Deep
import HandS.Codes
import HandS.Evl
import HandS.TryMany
import HandS.ExcInit
import HandS.ExcInitHot
import HandS.ExcField
import HandS.SuiteRaise
import HandS.RaiseMore
import HandS.Small
import HandS.CallLocal
import HandS.CallRecv
import KE.GoesRaise
import PySem.Challenge.RW_unitplans_s01_answers
set_option Elab.async false
set_option linter.all false
set_option maxRecDepth 100000
set_option maxHeartbeats 4000000
/-! UpA: walks of weighted arrows, the greatest sums, rings (plain Lean). -/
namespace Up
open Vbwbai (more plus)

abbrev Wt := Nat → Nat → Option Int

/-- a walk of k arrows from a to b with a sum, its nodes below N -/
def Wk (m : Wt) (N : Nat) : Nat → Nat → Nat → Int → Prop
  | 0, a, b, x => a = b ∧ a < N ∧ x = 0
  | k + 1, a, b, x => a < N ∧ ∃ c u y, m a c = some u ∧ Wk m N k c b y ∧ x = u + y

section
variable {m : Wt} {N : Nat}
theorem Wk.lt1 : ∀ {k a b x}, Wk m N k a b x → a < N
  | 0, _, _, _, h => h.2.1
  | _ + 1, _, _, _, h => h.1
theorem Wk.lt2 : ∀ {k a b x}, Wk m N k a b x → b < N
  | 0, _, _, _, h => h.1 ▸ h.2.1
  | _ + 1, _, _, _, h => by
    obtain ⟨_, c, u, y, _, w, _⟩ := h
    exact w.lt2
theorem Wk.app : ∀ {j k a c b x y}, Wk m N j a c x → Wk m N k c b y → Wk m N (j + k) a b (x + y)
  | 0, k, a, c, b, x, y, h, h' => by
    obtain ⟨e, _, ex⟩ := h
    subst e ex
    rw [Nat.zero_add, Int.zero_add]
    exact h'
  | j + 1, k, a, c, b, x, y, h, h' => by
    obtain ⟨la, d, u, z, e, w, ex⟩ := h
    rw [show j + 1 + k = (j + k) + 1 by omega]
    exact ⟨la, d, u, z + y, e, w.app h', by omega⟩
theorem Wk.one {a b : Nat} {u : Int} (ha : a < N) (hb : b < N) (e : m a b = some u) : Wk m N 1 a b u :=
  ⟨ha, b, u, 0, e, ⟨rfl, hb, rfl⟩, by omega⟩
theorem Wk.snoc {k a b c : Nat} {x u : Int} (h : Wk m N k a c x) (e : m c b = some u) (hb : b < N) : Wk m N (k + 1) a b (x + u) :=
  h.app (Wk.one h.lt2 hb e)
theorem Wk.unsnoc : ∀ {k a b x}, Wk m N (k + 1) a b x → ∃ c y u, Wk m N k a c y ∧ m c b = some u ∧ x = y + u
  | 0, a, b, x, h => by
    obtain ⟨la, c, u, y, e, ⟨e1, l1, e2⟩, ex⟩ := h
    subst e1 e2
    exact ⟨a, 0, u, ⟨rfl, la, rfl⟩, e, by omega⟩
  | k + 1, a, b, x, h => by
    obtain ⟨la, c, u, y, e, w, ex⟩ := h
    obtain ⟨d, z, v, w', e', ez⟩ := w.unsnoc
    exact ⟨d, u + z, v, ⟨la, c, u, z, e, w', rfl⟩, e', by omega⟩

/-! ### pigeons -/
theorem nodup_le : ∀ (N : Nat) (l : List Nat), l.Nodup → (∀ v ∈ l, v < N) → l.length ≤ N
  | 0, l, _, h => by
    cases l with
    | nil => exact Nat.le_refl _
    | cons a r => exact absurd (h a (List.mem_cons_self ..)) (by omega)
  | N + 1, l, nd, h => by
    by_cases hm : N ∈ l
    · have h1 := nodup_le N (l.erase N) (nd.erase N) (fun v hv => by
        have h2 := h v (List.mem_of_mem_erase hv)
        have h3 : v ≠ N := fun e => by
          subst e
          exact (List.Nodup.mem_erase_iff nd).mp hv |>.1 rfl
        omega)
      rw [List.length_erase_of_mem hm] at h1
      omega
    · have := nodup_le N l nd (fun v hv => by
        have h2 := h v hv
        have h3 : v ≠ N := fun e => hm (e ▸ hv)
        omega)
      omega

/-- a long walk comes back somewhere -/
theorem Wk.rep : ∀ (k : Nat) (vis : List Nat) (a b : Nat) (x : Int), vis.Nodup → (∀ v ∈ vis, v < N) → N ≤ vis.length + k → Wk m N k a b x →
    (∃ i c y z, i ≤ k ∧ c ∈ vis ∧ i + vis.length ≤ N ∧ Wk m N i a c y ∧ Wk m N (k - i) c b z ∧ x = y + z) ∨
    (∃ i j c y u z, 0 < j ∧ j + vis.length ≤ N ∧ i + j ≤ k ∧ Wk m N i a c y ∧ Wk m N j c c u ∧ Wk m N (k - i - j) c b z ∧ x = y + u + z) := by
  intro k
  induction k with
  | zero =>
    intro vis a b x nd lt hN h
    by_cases ha : a ∈ vis
    · have hv := nodup_le N vis nd lt
      exact .inl ⟨0, a, 0, x, Nat.le_refl _, ha, by omega, ⟨rfl, h.lt1, rfl⟩, h, by omega⟩
    · have := nodup_le N (a :: vis) (List.nodup_cons.mpr ⟨ha, nd⟩) (fun v hv => by
        rcases List.mem_cons.mp hv with e | e
        · exact e ▸ h.lt1
        · exact lt v e)
      simp at this
      omega
  | succ k ih =>
    intro vis a b x nd lt hN h
    by_cases ha : a ∈ vis
    · have hv := nodup_le N vis nd lt
      exact .inl ⟨0, a, 0, x, Nat.zero_le _, ha, by omega, ⟨rfl, h.lt1, rfl⟩, h, by omega⟩
    · have nd' : (a :: vis).Nodup := List.nodup_cons.mpr ⟨ha, nd⟩
      have lt' : ∀ v ∈ a :: vis, v < N := fun v hv => by
        rcases List.mem_cons.mp hv with e | e
        · exact e ▸ h.lt1
        · exact lt v e
      have hl := nodup_le N _ nd' lt'
      have hlen : (a :: vis).length = vis.length + 1 := rfl
      have la := h.lt1
      obtain ⟨_, c, u, y, e, w, ex⟩ := h
      rcases ih (a :: vis) c b y nd' lt' (by omega) w with ⟨i, d, y1, z1, hi, hd, hiN, w1, w2, e1⟩ | ⟨i, j, d, y1, u1, z1, hj, hjN, hij, w1, w2, w3, e1⟩
      · rcases List.mem_cons.mp hd with ed | ed
        · subst ed
          refine .inr ⟨0, i + 1, d, 0, u + y1, z1, by omega, by omega, by omega, ⟨rfl, la, rfl⟩, ⟨la, c, u, y1, e, w1, rfl⟩, ?_, by omega⟩
          rw [show k + 1 - 0 - (i + 1) = k - i by omega]
          exact w2
        · refine .inl ⟨i + 1, d, u + y1, z1, by omega, ed, by omega, ⟨la, c, u, y1, e, w1, rfl⟩, ?_, by omega⟩
          rw [show k + 1 - (i + 1) = k - i by omega]
          exact w2
      · refine .inr ⟨i + 1, j, d, u + y1, u1, z1, hj, by omega, by omega, ⟨la, c, u, y1, e, w1, rfl⟩, w2, ?_, by omega⟩
        rw [show k + 1 - (i + 1) - j = k - i - j by omega]
        exact w3

/-- no ring of N arrows or fewer -/
def RingFree (m : Wt) (N : Nat) : Prop := ∀ j c u, 0 < j → j ≤ N → Wk m N j c c u → u ≤ 0

theorem Wk.short (rf : RingFree m N) : ∀ (k : Nat) {a b : Nat} {x : Int}, Wk m N k a b x → ∃ j y, j < N ∧ j ≤ k ∧ Wk m N j a b y ∧ x ≤ y := by
  intro k
  induction k using Nat.strongRecOn with
  | ind k ih =>
    intro a b x h
    by_cases hk : k < N
    · exact ⟨k, x, hk, Nat.le_refl _, h, Int.le_refl _⟩
    · rcases Wk.rep k [] a b x List.nodup_nil (fun v hv => by cases hv) (by simp; omega) h with ⟨_, c, _, _, _, hc, _⟩ | ⟨i, j, c, y, u, z, hj, hjN, hij, w1, w2, w3, e⟩
      · cases hc
      · have hu := rf j c u hj (by simpa using hjN) w2
        obtain ⟨j', y', h1, h2, h3, h4⟩ := ih (i + (k - i - j)) (by omega) (w1.app w3)
        exact ⟨j', y', h1, by omega, h3, by omega⟩
theorem RingFree.all (rf : RingFree m N) {k c : Nat} {u : Int} (h : Wk m N k c c u) : u ≤ 0 := by
  obtain ⟨j, y, h1, _, h3, h4⟩ := Wk.short rf k h
  cases j with
  | zero =>
    have := h3.2.2
    omega
  | succ j =>
    have := rf (j + 1) c y (by omega) (by omega) h3
    omega

/-- a potential -/
def Pot (m : Wt) (N : Nat) (p : Nat → Int) : Prop := ∀ a b u, a < N → b < N → m a b = some u → p a + u ≤ p b
theorem Pot.walk {p : Nat → Int} (hp : Pot m N p) : ∀ {k a b x}, Wk m N k a b x → p a + x ≤ p b
  | 0, a, b, x, h => by
    obtain ⟨e, _, ex⟩ := h
    subst e ex
    omega
  | k + 1, a, b, x, h => by
    obtain ⟨la, c, u, y, e, w, ex⟩ := h
    have h1 := hp.walk w
    have h2 := hp a c u la w.lt1 e
    omega
theorem Pot.free {p : Nat → Int} (hp : Pot m N p) : RingFree m N := fun j c u _ _ h => by
  have := hp.walk h
  omega

/-! ### the greatest -/
/-- o is the greatest of P, or there is none -/
def IsMax (P : Int → Prop) (o : Option Int) : Prop := match o with
  | some x => P x ∧ ∀ y, P y → y ≤ x
  | none => ∀ y, ¬ P y
theorem IsMax.congr {P P' : Int → Prop} {o : Option Int} (h : IsMax P o) (e : ∀ x, P x ↔ P' x) : IsMax P' o := by
  have : P = P' := funext fun x => propext (e x)
  exact this ▸ h
/-- two readings of one greatest: each is outdone by the other -/
theorem IsMax.same {P Q : Int → Prop} {o o' : Option Int} (h : IsMax P o) (h' : IsMax Q o') (d1 : ∀ x, P x → ∃ y, Q y ∧ x ≤ y) (d2 : ∀ x, Q x → ∃ y, P y ∧ x ≤ y) : o = o' := by
  cases o with
  | none =>
    cases o' with
    | none => rfl
    | some y =>
      obtain ⟨z, hz, _⟩ := d2 y h'.1
      exact absurd hz (h z)
  | some x =>
    cases o' with
    | none =>
      obtain ⟨z, hz, _⟩ := d1 x h.1
      exact absurd hz (h' z)
    | some y =>
      obtain ⟨z, hz, l1⟩ := d1 x h.1
      obtain ⟨z', hz', l2⟩ := d2 y h'.1
      have h1 := h'.2 z hz
      have h2 := h.2 z' hz'
      have : x = y := by omega
      rw [this]
theorem IsMax.dom {P Q : Int → Prop} {o : Option Int} (h : IsMax P o) (d1 : ∀ x, P x → Q x) (d2 : ∀ x, Q x → ∃ y, P y ∧ x ≤ y) : IsMax Q o := by
  cases o with
  | none => exact fun y q => let ⟨z, hz, _⟩ := d2 y q; h z hz
  | some x => exact ⟨d1 x h.1, fun y q => by
      obtain ⟨z, hz, l⟩ := d2 y q
      have := h.2 z hz
      omega⟩
theorem IsMax.uniq {P : Int → Prop} {o o' : Option Int} (h : IsMax P o) (h' : IsMax P o') : o = o' :=
  h.same h' (fun x q => ⟨x, q, Int.le_refl _⟩) (fun x q => ⟨x, q, Int.le_refl _⟩)
theorem IsMax.ge {P : Int → Prop} {o : Option Int} (h : IsMax P o) {x : Int} (p : P x) : ∃ y, o = some y ∧ P y ∧ x ≤ y := by
  cases o with
  | none => exact absurd p (h x)
  | some y => exact ⟨y, rfl, h.1, h.2 x p⟩
theorem IsMax.of_some {P : Int → Prop} {x : Int} (h : IsMax P (some x)) : P x ∧ ∀ y, P y → y ≤ x := h

theorem more_isMax {P Q : Int → Prop} {o o' : Option Int} (h : IsMax P o) (h' : IsMax Q o') : IsMax (fun x => P x ∨ Q x) (more o o') := by
  cases o with
  | none =>
    have e : more none o' = o' := by cases o' <;> rfl
    rw [e]
    exact h'.congr fun x => ⟨.inr, fun q => q.elim (fun p => absurd p (h x)) id⟩
  | some x =>
    cases o' with
    | none => exact IsMax.congr (o := some x) h fun y => ⟨.inl, fun q => q.elim id fun p => absurd p (h' y)⟩
    | some y =>
      show IsMax _ (some (max x y))
      refine ⟨?_, fun z q => ?_⟩
      · by_cases c : x ≤ y
        · rw [Int.max_eq_right c]
          exact .inr h'.1
        · rw [Int.max_eq_left (by omega)]
          exact .inl h.1
      · rcases q with q | q
        · have := h.2 z q
          omega
        · have := h'.2 z q
          omega
theorem foldMore {α : Type} {f : α → Option Int} : ∀ (l : List α) (z : Option Int) {P : Int → Prop}, IsMax P z →
    IsMax (fun x => P x ∨ ∃ c ∈ l, f c = some x) (l.foldl (fun z c => more z (f c)) z)
  | [], z, P, h => h.congr fun x => ⟨.inl, fun q => q.elim id fun ⟨_, hc, _⟩ => by cases hc⟩
  | c :: l, z, P, h => by
    have h1 : IsMax (fun x => f c = some x) (f c) := by
      cases e : f c with
      | none => exact fun y q => by cases q
      | some u => exact ⟨rfl, fun y q => by cases q; exact Int.le_refl _⟩
    refine (foldMore l (more z (f c)) (more_isMax h h1)).congr fun x => ?_
    constructor
    · rintro ((q | q) | ⟨d, hd, q⟩)
      · exact .inl q
      · exact .inr ⟨c, List.mem_cons_self .., q⟩
      · exact .inr ⟨d, List.mem_cons_of_mem _ hd, q⟩
    · rintro (q | ⟨d, hd, q⟩)
      · exact .inl (.inl q)
      · rcases List.mem_cons.mp hd with e | e
        · subst e
          exact .inl (.inr q)
        · exact .inr ⟨d, e, q⟩
theorem isMax_none : IsMax (fun _ => False) none := fun _ h => h
theorem plus_some {o o' : Option Int} {x : Int} : plus o o' = some x ↔ ∃ u v, o = some u ∧ o' = some v ∧ x = u + v := by
  cases o with
  | none => simp [plus]
  | some u =>
    cases o' with
    | none => simp [plus]
    | some v => simp [plus]; exact eq_comm

/-! ### the tables of sums of walks to a goal -/
def colF (m : Wt) (N g : Nat) : Nat → Nat → Option Int
  | 0, a => if a = g then some 0 else none
  | k + 1, a => (List.range N).foldl (fun z c => more z (plus (m a c) (colF m N g k c))) none
theorem colF_max {g : Nat} (hg : g < N) : ∀ (k : Nat) {a : Nat}, a < N → IsMax (fun x => Wk m N k a g x) (colF m N g k a)
  | 0, a, ha => by
    by_cases e : a = g
    · simp only [colF, if_pos e]
      exact ⟨⟨e, ha, rfl⟩, fun y h => by have := h.2.2; omega⟩
    · simp only [colF, if_neg e]
      exact fun y h => e h.1
  | k + 1, a, ha => by
    refine (foldMore (f := fun c => plus (m a c) (colF m N g k c)) (List.range N) none isMax_none).dom ?_ ?_
    · rintro x (q | ⟨c, hc, q⟩)
      · exact q.elim
      · have hcN := List.mem_range.mp hc
        obtain ⟨u, v, e1, e2, e3⟩ := plus_some.mp q
        have h1 := colF_max hg k hcN
        rw [e2] at h1
        exact ⟨ha, c, u, v, e1, h1.1, e3⟩
    · rintro x ⟨_, c, u, y, e, w, ex⟩
      obtain ⟨z, ez, _, hz⟩ := (colF_max hg k w.lt1).ge w
      exact ⟨u + z, .inr ⟨c, List.mem_range.mpr w.lt1, plus_some.mpr ⟨u, z, e, ez, rfl⟩⟩, by omega⟩

/-! ### the sums from a start, forward -/
def growF (m : Wt) (N : Nat) (v : Nat → Option Int) (b : Nat) : Option Int := (List.range N).foldl (fun z a => more z (plus (v a) (m a b))) (v b)
def iterF (m : Wt) (N : Nat) (v : Nat → Option Int) : Nat → Nat → Option Int
  | 0 => v
  | k + 1 => growF m N (iterF m N v k)
/-- what is reached from the start v by k arrows or fewer -/
def From (m : Wt) (N : Nat) (v : Nat → Option Int) (k b : Nat) (x : Int) : Prop := ∃ j u x0 y, j ≤ k ∧ v u = some x0 ∧ Wk m N j u b y ∧ x = x0 + y
theorem isMax_self (o : Option Int) : IsMax (fun x => o = some x) o := by
  cases o with
  | none => exact fun y q => by cases q
  | some u => exact ⟨rfl, fun y q => by cases q; exact Int.le_refl _⟩
theorem iterF_max {v : Nat → Option Int} : ∀ (k : Nat) {b : Nat}, b < N → IsMax (From m N v k b) (iterF m N v k b)
  | 0, b, hb => (isMax_self (v b)).congr fun x => by
    constructor
    · exact fun e => ⟨0, b, x, 0, Nat.le_refl _, e, ⟨rfl, hb, rfl⟩, by omega⟩
    · rintro ⟨j, u, x0, y, hj, e, w, ex⟩
      obtain rfl : j = 0 := by omega
      obtain ⟨e1, _, e2⟩ := w
      subst e1 e2
      rw [e, ex, Int.add_zero]
  | k + 1, b, hb => by
    refine (foldMore (f := fun a => plus (iterF m N v k a) (m a b)) (List.range N) _ (iterF_max k hb)).dom ?_ ?_
    · rintro x (⟨j, u, x0, y, hj, e, w, ex⟩ | ⟨c, hc, q⟩)
      · exact ⟨j, u, x0, y, by omega, e, w, ex⟩
      · have hcN := List.mem_range.mp hc
        obtain ⟨s, t, e1, e2, e3⟩ := plus_some.mp q
        have h1 := iterF_max (v := v) k hcN
        rw [e1] at h1
        obtain ⟨j, u, x0, y, hj, e, w, ex⟩ := h1.1
        exact ⟨j + 1, u, x0, y + t, by omega, e, w.snoc e2 hb, by omega⟩
    · rintro x ⟨j, u, x0, y, hj, e, w, ex⟩
      by_cases hjk : j ≤ k
      · exact ⟨x, .inl ⟨j, u, x0, y, hjk, e, w, ex⟩, Int.le_refl _⟩
      · obtain rfl : j = k + 1 := by omega
        obtain ⟨c, z, t, w', e', ez⟩ := w.unsnoc
        obtain ⟨q, eq, _, hq⟩ := (iterF_max (v := v) k w'.lt2).ge (show From m N v k c (x0 + z) from ⟨k, u, x0, z, Nat.le_refl _, e, w', rfl⟩)
        exact ⟨q + t, .inr ⟨c, List.mem_range.mpr w'.lt2, plus_some.mpr ⟨q, t, eq, e', rfl⟩⟩, by omega⟩
end
end Up
/-! UpB: the specification's arrows, earliest times (plain Lean). -/
namespace Up
open Vbwbai

/-! ### arrows -/
def InR (es : List Arrow) (N : Nat) : Prop := ∀ e ∈ es, e.a < N ∧ e.b < N
theorem best_fold (es : List Arrow) (a b : Nat) : best es a b = es.foldl (fun m e => more m (if e.a = a ∧ e.b = b then some e.w else none)) none := by
  unfold best
  refine congrArg (fun f => List.foldl f none es) (funext fun m => funext fun e => ?_)
  by_cases c : e.a = a ∧ e.b = b
  · rw [if_pos c, if_pos c]
    cases m <;> rfl
  · rw [if_neg c, if_neg c]
    cases m <;> rfl
theorem best_max (es : List Arrow) (a b : Nat) : IsMax (fun x => ∃ e ∈ es, e.a = a ∧ e.b = b ∧ e.w = x) (best es a b) := by
  rw [best_fold]
  refine (foldMore es none isMax_none).congr fun x => ?_
  constructor
  · rintro (q | ⟨e, he, q⟩)
    · exact q.elim
    · by_cases c : e.a = a ∧ e.b = b
      · rw [if_pos c] at q
        exact ⟨e, he, c.1, c.2, Option.some.inj q⟩
      · rw [if_neg c] at q
        cases q
  · rintro ⟨e, he, h1, h2, h3⟩
    exact .inr ⟨e, he, by rw [if_pos ⟨h1, h2⟩, h3]⟩
theorem best_of {es : List Arrow} {e : Arrow} (he : e ∈ es) : ∃ u, best es e.a e.b = some u ∧ e.w ≤ u := by
  obtain ⟨y, h1, _, h3⟩ := (best_max es e.a e.b).ge ⟨e, he, rfl, rfl, rfl⟩
  exact ⟨y, h1, h3⟩
theorem best_some {es : List Arrow} {a b : Nat} {u : Int} (h : best es a b = some u) : ∃ e ∈ es, e.a = a ∧ e.b = b ∧ e.w = u := by
  have := best_max es a b
  rw [h] at this
  exact this.1

theorem holds_iff {es : List Arrow} {t : Times} : holds es t = true ↔ ∀ e ∈ es, at_ t e.a + e.w ≤ at_ t e.b := by
  unfold holds
  rw [List.all_eq_true]
  simp
theorem holds_pot {es : List Arrow} {t : Times} {N : Nat} (r : InR es N) : holds es t = true ↔ Pot (best es) N (at_ t) := by
  rw [holds_iff]
  constructor
  · intro h a b u _ _ e
    obtain ⟨x, hx, h1, h2, h3⟩ := best_some e
    have := h x hx
    rw [h1, h2, h3] at this
    exact this
  · intro h e he
    obtain ⟨u, h1, h2⟩ := best_of he
    have := h e.a e.b u (r e he).1 (r e he).2 h1
    omega

/-! ### one round of later is one round of growing -/
theorem at_map {N : Nat} (f : Nat → Int) {v : Nat} (h : v < N) : at_ ((List.range N).map f) v = f v := by
  unfold at_
  rw [List.getD_eq_getElem?_getD, List.getElem?_map, List.getElem?_range h]
  rfl
theorem later_len (es : List Arrow) (t : Times) : (later es t).length = t.length := by
  unfold later
  rw [List.length_map, List.length_range]
theorem max_fold (f : Arrow → Option Int) : ∀ (es : List Arrow) (x : Int), (some (es.foldl (fun m e => match f e with | some y => max m y | none => m) x) : Option Int) = es.foldl (fun z e => more z (f e)) (some x)
  | [], _ => rfl
  | e :: es, x => by
    rw [List.foldl_cons, List.foldl_cons]
    cases h : f e with
    | none => exact max_fold f es x
    | some y => exact max_fold f es (max x y)
theorem later_max {es : List Arrow} {t : Times} {v : Nat} (h : v < t.length) : IsMax (fun x => x = at_ t v ∨ ∃ e ∈ es, e.b = v ∧ x = at_ t e.a + e.w) (some (at_ (later es t) v)) := by
  unfold later
  rw [at_map _ h]
  have e1 : (fun (m : Int) (e : Arrow) => if e.b = v then max m (at_ t e.a + e.w) else m) = fun m e => match (if e.b = v then some (at_ t e.a + e.w) else none) with | some y => max m y | none => m := by
    funext m e
    by_cases c : e.b = v
    · rw [if_pos c, if_pos c]
    · rw [if_neg c, if_neg c]
  rw [e1, max_fold]
  refine (foldMore es (some (at_ t v)) (P := fun x => x = at_ t v) ⟨rfl, fun y q => by omega⟩).congr fun x => ?_
  constructor
  · rintro (q | ⟨e, he, q⟩)
    · exact .inl q
    · by_cases c : e.b = v
      · rw [if_pos c] at q
        exact .inr ⟨e, he, c, (Option.some.inj q).symm⟩
      · rw [if_neg c] at q
        cases q
  · rintro (q | ⟨e, he, h1, h2⟩)
    · exact .inl q
    · exact .inr ⟨e, he, by rw [if_pos h1, h2]⟩
theorem growF_congr {m : Wt} {N : Nat} {v w : Nat → Option Int} (h : ∀ a, a < N → v a = w a) {b : Nat} (hb : b < N) : growF m N v b = growF m N w b := by
  unfold growF
  rw [h b hb]
  have : ∀ (l : List Nat) (z : Option Int), (∀ a ∈ l, a < N) → l.foldl (fun z a => more z (plus (v a) (m a b))) z = l.foldl (fun z a => more z (plus (w a) (m a b))) z := by
    intro l
    induction l with
    | nil => intros; rfl
    | cons a l ih =>
      intro z hl
      rw [List.foldl_cons, List.foldl_cons, h a (hl a (List.mem_cons_self ..))]
      exact ih _ fun c hc => hl c (List.mem_cons_of_mem _ hc)
  exact this _ _ fun a ha => List.mem_range.mp ha
theorem later_grow {es : List Arrow} {t : Times} {N v : Nat} (r : InR es N) (hl : t.length = N) (hv : v < N) : (some (at_ (later es t) v) : Option Int) = growF (best es) N (fun a => some (at_ t a)) v := by
  have h1 := later_max (es := es) (t := t) (v := v) (by omega)
  have h2 := foldMore (f := fun a => plus (some (at_ t a)) (best es a v)) (List.range N) (some (at_ t v)) (isMax_self _)
  refine h1.same h2 ?_ ?_
  · rintro x (q | ⟨e, he, q1, q2⟩)
    · exact ⟨x, .inl (by rw [q]), Int.le_refl _⟩
    · obtain ⟨u, e1, e2⟩ := best_of he
      rw [q1] at e1
      exact ⟨at_ t e.a + u, .inr ⟨e.a, List.mem_range.mpr (r e he).1, plus_some.mpr ⟨_, u, rfl, e1, rfl⟩⟩, by omega⟩
  · rintro x (q | ⟨a, ha, q⟩)
    · exact ⟨x, .inl (Option.some.inj q).symm, Int.le_refl _⟩
    · obtain ⟨y, u, e1, e2, e3⟩ := plus_some.mp q
      obtain ⟨e, he, f1, f2, f3⟩ := best_some e2
      refine ⟨x, .inr ⟨e, he, f2, ?_⟩, Int.le_refl _⟩
      have := Option.some.inj e1
      rw [f1, f3]
      omega
theorem rounds_succ (f : Times → Times) : ∀ (k : Nat) (t : Times), rounds f (k + 1) t = f (rounds f k t)
  | 0, _ => rfl
  | k + 1, t => rounds_succ f k (f t)
theorem rounds_len (es : List Arrow) (t : Times) : ∀ k, (rounds (later es) k t).length = t.length
  | 0 => rfl
  | k + 1 => by rw [rounds_succ, later_len, rounds_len es t k]
theorem rounds_iter {es : List Arrow} {t : Times} {N : Nat} (r : InR es N) (hl : t.length = N) : ∀ (k : Nat) {v : Nat}, v < N → (some (at_ (rounds (later es) k t) v) : Option Int) = iterF (best es) N (fun a => some (at_ t a)) k v
  | 0, v, hv => rfl
  | k + 1, v, hv => by
    rw [rounds_succ, later_grow r ((rounds_len es t k).trans hl) hv]
    exact growF_congr (fun a ha => rounds_iter r hl k ha) hv

/-! ### rings and fixed points -/
section
variable {m : Wt} {N : Nat}
abbrev zeros : Nat → Option Int := fun _ => some 0
theorem zeros_some {k v : Nat} (hv : v < N) : ∃ x, iterF m N zeros k v = some x ∧ 0 ≤ x := by
  obtain ⟨y, h1, _, h3⟩ := (iterF_max (m := m) (v := zeros) k hv).ge ⟨0, v, 0, 0, Nat.zero_le _, rfl, ⟨rfl, hv, rfl⟩, rfl⟩
  exact ⟨y, h1, h3⟩
/-- the program's test -/
theorem fix_free : (∀ v, v < N → iterF m N zeros (N + 1) v = iterF m N zeros N v) ↔ RingFree m N := by
  constructor
  · intro h
    refine Pot.free (p := fun v => (iterF m N zeros N v).getD 0) fun a b u ha hb e => ?_
    obtain ⟨x, hx, _⟩ := zeros_some (m := m) (k := N) ha
    obtain ⟨y, hy, _⟩ := zeros_some (m := m) (k := N) hb
    have h1 := foldMore (f := fun c => plus (iterF m N zeros N c) (m c b)) (List.range N) _ (isMax_self (iterF m N zeros N b))
    have h2 : (List.range N).foldl (fun z c => more z (plus (iterF m N zeros N c) (m c b))) (iterF m N zeros N b) = some y := (h b hb).trans hy
    rw [h2] at h1
    have := h1.2 (x + u) (.inr ⟨a, List.mem_range.mpr ha, plus_some.mpr ⟨x, u, hx, e, rfl⟩⟩)
    simp only [hx, hy, Option.getD_some]
    exact this
  · intro rf v hv
    refine (iterF_max (N + 1) hv).same (iterF_max N hv) ?_ ?_
    · rintro x ⟨j, u, x0, y, _, e, w, ex⟩
      obtain ⟨j', y', h1, _, h3, h4⟩ := Wk.short rf j w
      exact ⟨x0 + y', ⟨j', u, x0, y', by omega, e, h3, rfl⟩, by omega⟩
    · rintro x ⟨j, u, x0, y, hj, e, w, ex⟩
      exact ⟨x, ⟨j, u, x0, y, by omega, e, w, ex⟩, Int.le_refl _⟩
theorem not_free (h : ¬ RingFree m N) : ∃ k c u, 0 < k ∧ k ≤ N ∧ 0 < u ∧ Wk m N k c c u := by
  apply Classical.byContradiction
  intro hn
  refine h fun j c u h1 h2 h3 => ?_
  apply Classical.byContradiction
  intro h4
  exact hn ⟨j, c, u, h1, h2, by omega, h3⟩
/-- minute 0 reaches each -/
def Rel0 (m : Wt) (N : Nat) : Prop := ∀ v, 0 < v → v < N → ∃ r, 0 ≤ r ∧ m 0 v = some r
abbrev first0 : Nat → Option Int := fun u => if u = 0 then some 0 else none
/-- from minute 0 alone it is the same -/
theorem first_zeros (rf : RingFree m N) (r0 : Rel0 m N) {v : Nat} (hv : v < N) : iterF m N first0 N v = iterF m N zeros N v := by
  refine (iterF_max N hv).same (iterF_max N hv) ?_ ?_
  · rintro x ⟨j, u, x0, y, hj, e, w, ex⟩
    by_cases c : u = 0
    · rw [show (first0 u) = some 0 from if_pos c] at e
      have := Option.some.inj e
      exact ⟨x, ⟨j, u, 0, y, hj, rfl, w, by omega⟩, Int.le_refl _⟩
    · rw [show (first0 u) = none from if_neg c] at e
      cases e
  · rintro x ⟨j, u, x0, y, _, e, w, ex⟩
    have ex0 := Option.some.inj e
    obtain ⟨j', y', h1, _, h3, h4⟩ := Wk.short rf j w
    by_cases c : u = 0
    · subst c
      exact ⟨y', ⟨j', 0, 0, y', by omega, rfl, h3, by omega⟩, by omega⟩
    · obtain ⟨r, hr, er⟩ := r0 u (by omega) w.lt1
      have hN : 0 < N := by omega
      exact ⟨r + y', ⟨j' + 1, 0, 0, r + y', by omega, rfl, ⟨hN, u, r, y', er, h3, rfl⟩, by omega⟩, by omega⟩
theorem zero_zero (rf : RingFree m N) (r0 : Rel0 m N) (hN : 0 < N) : iterF m N zeros N 0 = some 0 := by
  obtain ⟨x, hx, h0⟩ := zeros_some (m := m) (k := N) hN
  have h1 := iterF_max (m := m) (v := zeros) N hN
  rw [hx] at h1 ⊢
  obtain ⟨j, u, x0, y, _, e, w, ex⟩ := h1.1
  have ex0 := Option.some.inj e
  have : y ≤ 0 := by
    by_cases c : u = 0
    · subst c
      exact rf.all w
    · obtain ⟨r, hr, er⟩ := r0 u (by omega) w.lt1
      have := rf.all (k := j + 1) (c := 0) (u := r + y) ⟨hN, u, r, y, er, w, rfl⟩
      omega
  have : x = 0 := by omega
  rw [this]
end

/-! ### the specification's earliest times -/
def Tm (es : List Arrow) (N : Nat) : Times := rounds (later es) N (List.replicate N 0)
theorem Tm_len (es : List Arrow) (N : Nat) : (Tm es N).length = N := by
  unfold Tm
  rw [rounds_len, List.length_replicate]
theorem at_repl {N : Nat} (a : Nat) : at_ (List.replicate N 0) a = 0 := by
  unfold at_
  rw [List.getD_eq_getElem?_getD, List.getElem?_replicate]
  by_cases c : a < N
  · rw [if_pos c]; rfl
  · rw [if_neg c]; rfl
theorem Tm_iter {es : List Arrow} {N : Nat} (r : InR es N) {v : Nat} (hv : v < N) : (some (at_ (Tm es N) v) : Option Int) = iterF (best es) N zeros N v := by
  have := rounds_iter (t := List.replicate N 0) r List.length_replicate N hv
  rw [show (fun a => some (at_ (List.replicate N 0) a)) = zeros from funext fun a => by rw [at_repl]] at this
  exact this
theorem Tm_holds {es : List Arrow} {N : Nat} (r : InR es N) : holds es (Tm es N) = true ↔ RingFree (best es) N := by
  constructor
  · exact fun h => ((holds_pot r).mp h).free
  · intro rf
    refine (holds_pot r).mpr fun a b u ha hb e => ?_
    have h1 := Tm_iter r ha
    have h2 := Tm_iter r hb
    have m1 := iterF_max (m := best es) (v := zeros) N ha
    have m2 := iterF_max (m := best es) (v := zeros) N hb
    rw [← h1] at m1
    rw [← h2] at m2
    obtain ⟨j, c, x0, y, _, e0, w, ex⟩ := m1.1
    obtain ⟨j', y', g1, _, g3, g4⟩ := Wk.short rf j w
    have := m2.2 (x0 + (y' + u)) ⟨j' + 1, c, x0, y' + u, by omega, e0, g3.snoc e hb, rfl⟩
    omega
theorem earliest_eq {s : State} {ds : List (Nat × Nat)} (r : InR (arrows s ds) (size s + 1)) (r0 : Rel0 (best (arrows s ds)) (size s + 1)) :
    earliest s ds = if holds (arrows s ds) (Tm (arrows s ds) (size s + 1)) = true then some (Tm (arrows s ds) (size s + 1)) else none := by
  show (if holds (arrows s ds) (Tm (arrows s ds) (size s + 1)) = true ∧ at_ (Tm (arrows s ds) (size s + 1)) 0 = 0 then some (Tm (arrows s ds) (size s + 1)) else none) = _
  by_cases c : holds (arrows s ds) (Tm (arrows s ds) (size s + 1)) = true
  · have rf := (Tm_holds r).mp c
    have h0 := Tm_iter r (Nat.succ_pos (size s))
    rw [zero_zero rf r0 (Nat.succ_pos _)] at h0
    rw [if_pos ⟨c, Option.some.inj h0⟩, if_pos c]
  · rw [if_neg (fun h => c h.1), if_neg c]
theorem earliest_some {s : State} {ds : List (Nat × Nat)} (r : InR (arrows s ds) (size s + 1)) (r0 : Rel0 (best (arrows s ds)) (size s + 1)) (rf : RingFree (best (arrows s ds)) (size s + 1)) :
    earliest s ds = some (Tm (arrows s ds) (size s + 1)) := by
  rw [earliest_eq r r0, if_pos ((Tm_holds r).mpr rf)]
theorem earliest_none {s : State} {ds : List (Nat × Nat)} (r : InR (arrows s ds) (size s + 1)) (r0 : Rel0 (best (arrows s ds)) (size s + 1)) (rf : ¬ RingFree (best (arrows s ds)) (size s + 1)) :
    earliest s ds = none := by
  rw [earliest_eq r r0, if_neg (fun h => rf ((Tm_holds r).mp h))]
end Up
/-! UpC: the specification's tables of walks, rings, chains, latest times (plain Lean). -/
namespace Up
open Vbwbai

theorem find_congr {α : Type} {p q : α → Bool} : ∀ {l : List α}, (∀ a ∈ l, p a = q a) → l.find? p = l.find? q
  | [], _ => rfl
  | a :: l, h => by
    rw [List.find?_cons, List.find?_cons, h a (List.mem_cons_self ..), find_congr fun b hb => h b (List.mem_cons_of_mem _ hb)]
theorem foldl_congr {α β : Type} {f g : β → α → β} : ∀ {l : List α} {z : β}, (∀ a ∈ l, ∀ z, f z a = g z a) → l.foldl f z = l.foldl g z
  | [], _, _ => rfl
  | a :: l, z, h => by
    rw [List.foldl_cons, List.foldl_cons, h a (List.mem_cons_self ..)]
    exact foldl_congr fun b hb => h b (List.mem_cons_of_mem _ hb)

/-! ### tables -/
theorem cell_map {N : Nat} (f : Nat → Nat → Option Int) {a b : Nat} (ha : a < N) (hb : b < N) : cell ((List.range N).map fun a => (List.range N).map fun b => f a b) a b = f a b := by
  unfold cell
  rw [List.getD_eq_getElem?_getD, List.getD_eq_getElem?_getD, List.getElem?_map, List.getElem?_range ha]
  show Option.getD (((List.range N).map fun b => f a b)[b]?) none = _
  rw [List.getElem?_map, List.getElem?_range hb]
  rfl
theorem cell_one {s : State} {es : List Arrow} {a b : Nat} (ha : a < size s + 1) (hb : b < size s + 1) : cell (one s es) a b = best es a b := cell_map (fun a b => best es a b) ha hb
/-- the table of k + 1 arrows -/
def pw (s : State) (m : Matrix) : Nat → Matrix
  | 0 => m
  | k + 1 => step1 s m (pw s m k)
theorem walks_pw (s : State) (m : Matrix) : ∀ k, walks s m (k + 1) = (List.range (k + 1)).map (pw s m)
  | 0 => rfl
  | k + 1 => by
    show (walks s m (k + 1)) ++ [step1 s m ((walks s m (k + 1)).getLastD [])] = _
    rw [walks_pw s m k, List.range_succ (n := k + 1), List.map_append]
    congr 2
    show step1 s m _ = step1 s m (pw s m k)
    rw [List.range_succ, List.map_append]
    simp
theorem walks_get (s : State) (m : Matrix) {k n : Nat} (h : k < n) : (walks s m n).getD k [] = pw s m k := by
  obtain ⟨n, rfl⟩ : ∃ n', n = n' + 1 := ⟨n - 1, by omega⟩
  rw [walks_pw, List.getD_eq_getElem?_getD, List.getElem?_map, List.getElem?_range h]
  rfl
theorem colF_one {m : Wt} {N g a : Nat} (hg : g < N) (ha : a < N) : colF m N g 1 a = m a g := by
  refine (colF_max hg 1 ha).uniq ((isMax_self (m a g)).congr fun x => ?_)
  constructor
  · exact fun e => Wk.one ha hg e
  · rintro ⟨_, c, u, y, e, ⟨e1, _, e2⟩, ex⟩
    subst e1 e2
    rw [e, ex, Int.add_zero]
theorem cell_pw {s : State} {es : List Arrow} : ∀ (k : Nat) {a b : Nat}, a < size s + 1 → b < size s + 1 → cell (pw s (one s es) k) a b = colF (best es) (size s + 1) b (k + 1) a
  | 0, a, b, ha, hb => by rw [colF_one hb ha]; exact cell_one ha hb
  | k + 1, a, b, ha, hb => by
    refine (cell_map (fun a b => (List.range (size s + 1)).foldl (fun z c => more z (plus (cell (one s es) a c) (cell (pw s (one s es) k) c b))) none) ha hb).trans ?_
    refine foldl_congr fun c hc z => ?_
    have hc' := List.mem_range.mp hc
    rw [cell_one ha hc', cell_pw k hc' hb]

/-! ### node by node -/
def stepOk (m : Wt) (N g k a c : Nat) : Bool := match m a c, colF m N g k c with
  | some u, some v => some (u + v) == colF m N g (k + 1) a
  | _, _ => false
/-- the nodes behind a of the first walk of k arrows to g with the greatest sum -/
def fwF (m : Wt) (N g : Nat) : Nat → Nat → List Nat
  | 0, _ => []
  | k + 1, a => match (List.range N).find? (stepOk m N g k a) with
    | none => []
    | some c => c :: fwF m N g k c
theorem stepOk_iff {m : Wt} {N g k a c : Nat} : stepOk m N g k a c = true ↔ ∃ u v, m a c = some u ∧ colF m N g k c = some v ∧ colF m N g (k + 1) a = some (u + v) := by
  unfold stepOk
  cases h1 : m a c with
  | none => simp
  | some u =>
    cases h2 : colF m N g k c with
    | none => simp
    | some v => simp; exact eq_comm
theorem step_some {m : Wt} {N g k a : Nat} {x : Int} (hg : g < N) (ha : a < N) (h : colF m N g (k + 1) a = some x) : ∃ c, c < N ∧ stepOk m N g k a c = true := by
  have h1 := colF_max (m := m) hg (k + 1) ha
  rw [h] at h1
  obtain ⟨_, c, u, y, e, w, ex⟩ := h1.1
  have hc := w.lt1
  obtain ⟨v, ev, hv, hv2⟩ := (colF_max hg k hc).ge w
  have := h1.2 (u + v) ⟨ha, c, u, v, e, hv, rfl⟩
  exact ⟨c, hc, stepOk_iff.mpr ⟨u, v, e, ev, by rw [h]; congr 1; omega⟩⟩
theorem find_some' {m : Wt} {N g k a : Nat} {x : Int} (hg : g < N) (ha : a < N) (h : colF m N g (k + 1) a = some x) : ∃ c, (List.range N).find? (stepOk m N g k a) = some c ∧ c < N ∧ stepOk m N g k a c = true := by
  obtain ⟨c, hc, hs⟩ := step_some hg ha h
  cases e : (List.range N).find? (stepOk m N g k a) with
  | none => exact absurd hs (by simpa using List.find?_eq_none.mp e c (List.mem_range.mpr hc))
  | some d => exact ⟨d, rfl, List.mem_range.mp (List.mem_of_find?_eq_some e), List.find?_some e⟩
theorem fwF_len {m : Wt} {N g : Nat} (hg : g < N) : ∀ (k : Nat) {a : Nat} {x : Int}, a < N → colF m N g k a = some x → (fwF m N g k a).length = k ∧ ∀ v ∈ fwF m N g k a, v < N
  | 0, _, _, _, _ => ⟨rfl, fun _ h => by cases h⟩
  | k + 1, a, x, ha, h => by
    obtain ⟨c, e, hc, hs⟩ := find_some' hg ha h
    obtain ⟨u, v, _, e2, _⟩ := stepOk_iff.mp hs
    have ih := fwF_len hg k hc e2
    have e3 : fwF m N g (k + 1) a = c :: fwF m N g k c := by
      show (match (List.range N).find? (stepOk m N g k a) with | none => [] | some c => c :: fwF m N g k c) = _
      rw [e]
    rw [e3]
    exact ⟨by rw [List.length_cons, ih.1], fun w hw => by
      rcases List.mem_cons.mp hw with q | q
      · exact q ▸ hc
      · exact ih.2 w q⟩
theorem walkOf_fw {s : State} {es : List Arrow} {n g : Nat} (hg : g < size s + 1) : ∀ (k : Nat) {a : Nat} {x : Int}, k ≤ n → a < size s + 1 → colF (best es) (size s + 1) g k a = some x →
    walkOf s (one s es) (walks s (one s es) n) k a g x = fwF (best es) (size s + 1) g k a
  | 0, _, _, _, _, _ => rfl
  | k + 1, a, x, hk, ha, h => by
    obtain ⟨c, e, hc, hs⟩ := find_some' hg ha h
    have hp : (List.range (size s + 1)).find? (fun c => match cell (one s es) a c with
      | none => false
      | some u => if k = 0 then c == g && u == x else cell ((walks s (one s es) n).getD (k - 1) []) c g == some (x - u)) = (List.range (size s + 1)).find? (stepOk (best es) (size s + 1) g k a) := by
      refine find_congr fun d hd => ?_
      have hd' := List.mem_range.mp hd
      rw [cell_one ha hd']
      unfold stepOk
      rw [h]
      cases e1 : best es a d with
      | none => rfl
      | some u =>
        show (if k = 0 then d == g && u == x else cell ((walks s (one s es) n).getD (k - 1) []) d g == some (x - u)) = _
        cases k with
        | zero =>
          rw [if_pos rfl]
          by_cases c : d = g
          · rw [show colF (best es) (size s + 1) g 0 d = some 0 from if_pos c]
            simp [c]
          · rw [show colF (best es) (size s + 1) g 0 d = none from if_neg c]
            simp [c]
        | succ k =>
          rw [if_neg (by omega), walks_get s _ (by omega), Nat.add_sub_cancel, cell_pw k hd' hg]
          cases colF (best es) (size s + 1) g (k + 1) d with
          | none => rfl
          | some v =>
            show (some v == some (x - u)) = (some (u + v) == some x)
            rw [Bool.eq_iff_iff]
            simp
            omega
    show (match (List.range (size s + 1)).find? (fun c => match cell (one s es) a c with
      | none => false
      | some u => if k = 0 then c == g && u == x else cell ((walks s (one s es) n).getD (k - 1) []) c g == some (x - u)) with
      | none => []
      | some c => c :: walkOf s (one s es) (walks s (one s es) n) k c g (x - (cell (one s es) a c).getD 0)) = (match (List.range (size s + 1)).find? (stepOk (best es) (size s + 1) g k a) with | none => [] | some c => c :: fwF (best es) (size s + 1) g k c)
    rw [hp, e]
    obtain ⟨u, v, e1, e2, e3⟩ := stepOk_iff.mp hs
    show c :: walkOf s (one s es) (walks s (one s es) n) k c g (x - (cell (one s es) a c).getD 0) = c :: fwF (best es) (size s + 1) g k c
    rw [cell_one ha hc, e1]
    rw [h] at e3
    have hx := Option.some.inj e3
    show c :: walkOf s (one s es) (walks s (one s es) n) k c g (x - u) = _
    rw [walkOf_fw hg k (by omega) hc (x := x - u) (by rw [e2]; congr 1; omega)]

/-! ### the ring told -/
/-- the greatest number above 0, the first one's place -/
def pstep (f : Nat → Option Int) (z : Option (Nat × Int)) (a : Nat) : Option (Nat × Int) := match f a, z with
  | some u, none => if 0 < u then some (a, u) else none
  | some u, some y => if y.2 < u then some (a, u) else z
  | none, _ => z
def pick (f : Nat → Option Int) (l : List Nat) : Option (Nat × Int) := l.foldl (pstep f) none
theorem pstep_N {f : Nat → Option Int} {a : Nat} {z : Option (Nat × Int)} (h : f a = none) : pstep f z a = z := by
  unfold pstep
  rw [h]
theorem pstep_n {f : Nat → Option Int} {a : Nat} {u : Int} (h : f a = some u) : pstep f none a = if 0 < u then some (a, u) else none := by
  unfold pstep
  rw [h]
theorem pstep_s {f : Nat → Option Int} {a : Nat} {u : Int} {y : Nat × Int} (h : f a = some u) : pstep f (some y) a = if y.2 < u then some (a, u) else some y := by
  unfold pstep
  rw [h]
theorem pick_congr {f g : Nat → Option Int} {l : List Nat} (h : ∀ a ∈ l, f a = g a) : pick f l = pick g l := foldl_congr fun a ha z => by
  unfold pstep
  rw [h a ha]
theorem pick_low (f : Nat → Option Int) : ∀ (l : List Nat) (x : Int), 0 < x → (∀ a ∈ l, ∀ u, f a = some u → u < x) → ∀ z : Option (Nat × Int), (∀ y, z = some y → y.2 < x) → ∀ y, l.foldl (pstep f) z = some y → y.2 < x
  | [], _, _, _, _, hz, y, e => hz y e
  | a :: l, x, hx, h, z, hz, y, e => by
    refine pick_low f l x hx (fun b hb => h b (List.mem_cons_of_mem _ hb)) _ ?_ y e
    intro w hw
    cases h1 : f a with
    | none =>
      rw [pstep_N h1] at hw
      exact hz w hw
    | some u =>
      have hu := h a (List.mem_cons_self ..) u h1
      cases z with
      | none =>
        rw [pstep_n h1] at hw
        by_cases c : 0 < u
        · rw [if_pos c] at hw
          cases hw
          exact hu
        · rw [if_neg c] at hw
          cases hw
      | some v =>
        rw [pstep_s h1] at hw
        by_cases c : v.2 < u
        · rw [if_pos c] at hw
          cases hw
          exact hu
        · rw [if_neg c] at hw
          exact hz w hw
theorem pick_stay (f : Nat → Option Int) : ∀ (l : List Nat) (w : Nat × Int), (∀ a ∈ l, ∀ u, f a = some u → u ≤ w.2) → l.foldl (pstep f) (some w) = some w
  | [], _, _ => rfl
  | a :: l, w, h => by
    rw [List.foldl_cons]
    have e : pstep f (some w) a = some w := by
      cases h1 : f a with
      | none => exact pstep_N h1
      | some u =>
        have hu := h a (List.mem_cons_self ..) u h1
        rw [pstep_s h1]
        exact if_neg (by omega)
    rw [e]
    exact pick_stay f l w fun b hb => h b (List.mem_cons_of_mem _ hb)
theorem pick_none {f : Nat → Option Int} : ∀ {l : List Nat}, (∀ a ∈ l, ∀ u, f a = some u → u ≤ 0) → pick f l = none
  | [], _ => rfl
  | a :: l, h => by
    unfold pick
    rw [List.foldl_cons]
    have e : pstep f none a = none := by
      cases h1 : f a with
      | none => exact pstep_N h1
      | some u =>
        have hu := h a (List.mem_cons_self ..) u h1
        rw [pstep_n h1]
        exact if_neg (by omega)
    rw [e]
    exact pick_none fun b hb => h b (List.mem_cons_of_mem _ hb)
theorem range_split {N j : Nat} (h : j < N) : List.range N = List.range j ++ j :: (List.range' (j + 1) (N - j - 1)) := by
  obtain ⟨k, rfl⟩ : ∃ k, N = j + (1 + k) := ⟨N - j - 1, by omega⟩
  rw [show j + (1 + k) - j - 1 = k by omega, List.range_eq_range', List.range_eq_range', ← List.range'_append_1, ← List.range'_append_1 (m := 1), Nat.zero_add]
  rfl
theorem pick_first {f : Nat → Option Int} {N j : Nat} {x : Int} (hj : j < N) (hx : 0 < x) (e : f j = some x) (hle : ∀ a, a < N → ∀ u, f a = some u → u ≤ x) (hf : ∀ a, a < j → f a ≠ some x) : pick f (List.range N) = some (j, x) := by
  unfold pick
  rw [range_split hj, List.foldl_append, List.foldl_cons]
  have low := pick_low f (List.range j) x hx (fun a ha u q => by
    have h1 := List.mem_range.mp ha
    have h2 := hle a (by omega) u q
    have h3 : u ≠ x := fun z => hf a h1 (z ▸ q)
    omega) none (fun _ q => by cases q)
  generalize List.foldl _ none (List.range j) = z at low
  have e1 : pstep f z j = some (j, x) := by
    cases z with
    | none =>
      rw [pstep_n e]
      exact if_pos hx
    | some w =>
      rw [pstep_s e]
      exact if_pos (low w rfl)
  rw [e1]
  refine pick_stay f _ (j, x) fun a ha u q => hle a ?_ u q
  have := List.mem_range'.mp ha
  obtain ⟨i, hi, rfl⟩ := this
  omega
theorem pick_cases (f : Nat → Option Int) (N : Nat) : (∀ a, a < N → ∀ u, f a = some u → u ≤ 0) ∨ ∃ j x, j < N ∧ 0 < x ∧ f j = some x ∧ (∀ a, a < N → ∀ u, f a = some u → u ≤ x) ∧ ∀ a, a < j → f a ≠ some x := by
  induction N with
  | zero => exact .inl fun a h => by omega
  | succ N ih =>
    rcases ih with h | ⟨j, x, hj, hx, e, hle, hf⟩
    · cases e : f N with
      | none =>
        refine .inl fun a ha u q => ?_
        by_cases c : a = N
        · subst c; rw [e] at q; cases q
        · exact h a (by omega) u q
      | some y =>
        by_cases c : 0 < y
        · refine .inr ⟨N, y, by omega, c, e, fun a ha u q => ?_, fun a ha q => ?_⟩
          · by_cases d : a = N
            · subst d; rw [e] at q; cases q; exact Int.le_refl _
            · have := h a (by omega) u q; omega
          · have := h a ha y q; omega
        · refine .inl fun a ha u q => ?_
          by_cases d : a = N
          · subst d; rw [e] at q; cases q; omega
          · exact h a (by omega) u q
    · cases eN : f N with
      | none =>
        refine .inr ⟨j, x, by omega, hx, e, fun a ha u q => ?_, hf⟩
        by_cases d : a = N
        · subst d; rw [eN] at q; cases q
        · exact hle a (by omega) u q
      | some y =>
        by_cases c : x < y
        · refine .inr ⟨N, y, by omega, by omega, eN, fun a ha u q => ?_, fun a ha q => ?_⟩
          · by_cases d : a = N
            · subst d; rw [eN] at q; cases q; exact Int.le_refl _
            · have := hle a (by omega) u q; omega
          · have := hle a ha y q; omega
        · refine .inr ⟨j, x, by omega, hx, e, fun a ha u q => ?_, hf⟩
          by_cases d : a = N
          · subst d; rw [eN] at q; cases q; omega
          · exact hle a (by omega) u q
/-- the diagonal of the walks of k arrows -/
abbrev diag (m : Wt) (N k : Nat) : Nat → Option Int := fun a => colF m N a k a
def ringP (m : Wt) (N : Nat) : Nat → Option (List Nat)
  | 0 => none
  | k + 1 => match ringP m N k with
    | some r => some r
    | none => (pick (diag m N (k + 1)) (List.range N)).map fun y => y.1 :: fwF m N y.1 (k + 1) y.1
theorem ringP_succ (m : Wt) (N k : Nat) : ringP m N (k + 1) = match ringP m N k with
  | some r => some r
  | none => (pick (diag m N (k + 1)) (List.range N)).map fun y => y.1 :: fwF m N y.1 (k + 1) y.1 := rfl
theorem ringP_ring {s : State} {es : List Arrow} {n : Nat} : ∀ k, k ≤ n → ringIn s (one s es) (walks s (one s es) n) k = ringP (best es) (size s + 1) k
  | 0, _ => rfl
  | k + 1, hk => by
    have ih := ringP_ring (s := s) (es := es) (n := n) k (by omega)
    show (match ringIn s (one s es) (walks s (one s es) n) k with
      | some r => some r
      | none => (pick (fun a => cell ((walks s (one s es) n).getD k []) a a) (List.range (size s + 1))).map fun (y : Nat × Int) => y.1 :: walkOf s (one s es) (walks s (one s es) n) (k + 1) y.1 y.1 y.2) = _
    rw [ih, ringP_succ]
    cases ringP (best es) (size s + 1) k with
    | some r => rfl
    | none =>
      show Option.map _ _ = Option.map _ _
      have e : pick (fun a => cell ((walks s (one s es) n).getD k []) a a) (List.range (size s + 1)) = pick (diag (best es) (size s + 1) (k + 1)) (List.range (size s + 1)) := pick_congr fun a ha => by
        have := List.mem_range.mp ha
        rw [walks_get s _ (by omega), cell_pw k this this]
      rw [e]
      rcases pick_cases (diag (best es) (size s + 1) (k + 1)) (size s + 1) with h | ⟨j, x, hj, hx, e1, hle, hf⟩
      · rw [pick_none fun a ha => h a (List.mem_range.mp ha)]
        rfl
      · rw [pick_first hj hx e1 hle hf]
        show some (j :: _) = some (j :: _)
        rw [walkOf_fw hj (k + 1) hk hj e1]
theorem ring_eq (s : State) (ds : List (Nat × Nat)) : ring s ds = ringP (best (arrows s ds)) (size s + 1) (size s + 1) := ringP_ring (size s + 1) (Nat.le_refl _)
theorem ringP_none {m : Wt} {N : Nat} : ∀ k, ringP m N k = none ↔ ∀ j, 0 < j → j ≤ k → ∀ a, a < N → ∀ u, colF m N a j a = some u → u ≤ 0
  | 0 => ⟨fun _ j h1 h2 => by omega, fun _ => rfl⟩
  | k + 1 => by
    have ih := ringP_none (m := m) (N := N) k
    have e : ringP m N (k + 1) = match ringP m N k with
      | some r => some r
      | none => (pick (diag m N (k + 1)) (List.range N)).map fun y => y.1 :: fwF m N y.1 (k + 1) y.1 := rfl
    cases h : ringP m N k with
    | some r =>
      rw [e, h]
      refine ⟨fun q => (by cases q), fun q => ?_⟩
      have := ih.mpr fun j h1 h2 => q j h1 (by omega)
      rw [h] at this
      cases this
    | none =>
      rw [e, h]
      have h1 := ih.mp h
      show Option.map _ _ = none ↔ _
      rcases pick_cases (diag m N (k + 1)) N with q | ⟨j, x, hj, hx, e1, hle, hf⟩
      · rw [pick_none fun a ha => q a (List.mem_range.mp ha)]
        refine ⟨fun _ j z1 z2 a ha u eu => ?_, fun _ => rfl⟩
        by_cases c : j = k + 1
        · subst c
          exact q a ha u eu
        · exact h1 j z1 (by omega) a ha u eu
      · rw [pick_first hj hx e1 hle hf]
        refine ⟨fun q => (by cases q), fun q => ?_⟩
        have := q (k + 1) (by omega) (Nat.le_refl _) j hj x e1
        omega
theorem ringP_free {m : Wt} {N : Nat} : ringP m N N = none ↔ RingFree m N := by
  rw [ringP_none]
  constructor
  · intro h j c u h1 h2 w
    obtain ⟨v, e, _, hv⟩ := (colF_max w.lt1 j w.lt1).ge w
    have := h j h1 h2 c w.lt1 v e
    omega
  · intro rf j h1 h2 a ha u e
    have := colF_max (m := m) ha j ha
    rw [e] at this
    exact rf j a u h1 h2 this.1

/-! ### the chain told -/
theorem chainIn_stay {s : State} {m : Matrix} {ws : List Matrix} {v : Nat} {x : Int} : ∀ k, (∀ i, i < k → cell (ws.getD i []) 0 v ≠ some x) → chainIn s m ws v x k = none
  | 0, _ => rfl
  | k + 1, h => by
    show (match chainIn s m ws v x k with | some r => some r | none => if cell (ws.getD k []) 0 v = some x then some (0 :: walkOf s m ws (k + 1) 0 v x) else none) = none
    rw [chainIn_stay k fun i hi => h i (by omega)]
    exact if_neg (h k (by omega))
theorem chainIn_first {s : State} {m : Matrix} {ws : List Matrix} {v : Nat} {x : Int} {j : Nat} (h1 : cell (ws.getD j []) 0 v = some x) (h2 : ∀ i, i < j → cell (ws.getD i []) 0 v ≠ some x) : ∀ k, j < k → chainIn s m ws v x k = some (0 :: walkOf s m ws (j + 1) 0 v x)
  | 0, h => by omega
  | k + 1, h => by
    show (match chainIn s m ws v x k with | some r => some r | none => if cell (ws.getD k []) 0 v = some x then some (0 :: walkOf s m ws (k + 1) 0 v x) else none) = _
    by_cases c : j = k
    · subst c
      rw [chainIn_stay j h2]
      exact if_pos h1
    · rw [chainIn_first h1 h2 k (by omega)]
theorem chain_fw {s : State} {es : List Arrow} {v j : Nat} {x : Int} (hv : v < size s + 1) (h0 : v ≠ 0) (hj : j ≤ size s + 1) (h1 : colF (best es) (size s + 1) v j 0 = some x) (h2 : ∀ i, i < j → colF (best es) (size s + 1) v i 0 ≠ some x) :
    chainIn s (one s es) (walks s (one s es) (size s + 1)) v x (size s + 1) = some (0 :: fwF (best es) (size s + 1) v j 0) := by
  have hj0 : j ≠ 0 := by
    rintro rfl
    rw [show colF (best es) (size s + 1) v 0 0 = none from if_neg (Ne.symm h0)] at h1
    cases h1
  obtain ⟨k, rfl⟩ : ∃ k, j = k + 1 := ⟨j - 1, by omega⟩
  have c : ∀ i, i < size s + 1 → cell ((walks s (one s es) (size s + 1)).getD i []) 0 v = colF (best es) (size s + 1) v (i + 1) 0 := fun i hi => by
    rw [walks_get s _ hi, cell_pw i (Nat.succ_pos _) hv]
  rw [chainIn_first (j := k) ((c k (by omega)).trans h1) (fun i hi => by rw [c i (by omega)]; exact h2 (i + 1) (by omega)) _ (by omega)]
  rw [walkOf_fw hv (k + 1) hj (Nat.succ_pos _) h1]
theorem chain_there {m : Wt} {N v : Nat} {x : Int} (rf : RingFree m N) (r0 : Rel0 m N) (hv : v < N) (h : iterF m N zeros N v = some x) : ∃ j, j ≤ N ∧ colF m N v j 0 = some x := by
  rw [← first_zeros rf r0 hv] at h
  have h1 := iterF_max (m := m) (v := first0) N hv
  rw [h] at h1
  obtain ⟨j, u, x0, y, hj, e, w, ex⟩ := h1.1
  by_cases c : u = 0
  · subst c
    have e0 := Option.some.inj e
    obtain ⟨z, ez, hz, hz2⟩ := (colF_max hv j w.lt1).ge w
    have := h1.2 z ⟨j, 0, 0, z, hj, rfl, hz, by omega⟩
    exact ⟨j, hj, by rw [ez]; congr 1; omega⟩
  · rw [show first0 u = none from if_neg c] at e
    cases e
end Up
/-! UpD: the specification's latest times (plain Lean). -/
namespace Up
open Vbwbai

/-- all have ended by e -/
def endAr (s : State) (e : Int) : List Arrow := (numbers s).map fun i => ⟨i, 0, int (opAt s i).long - e⟩
theorem mem_numbers {s : State} {i : Nat} : i ∈ numbers s ↔ 0 < i ∧ i < size s + 1 := by
  unfold numbers
  rw [List.mem_map]
  constructor
  · rintro ⟨j, hj, rfl⟩
    have := List.mem_range.mp hj
    omega
  · rintro ⟨h1, h2⟩
    exact ⟨i - 1, List.mem_range.mpr (by omega), by omega⟩
theorem endAr_inR (s : State) (e : Int) : InR (endAr s e) (size s + 1) := fun x hx => by
  obtain ⟨i, hi, rfl⟩ := List.mem_map.mp hx
  exact ⟨(mem_numbers.mp hi).2, Nat.succ_pos _⟩
theorem InR.app {es fs : List Arrow} {N : Nat} (h : InR es N) (h' : InR fs N) : InR (es ++ fs) N := fun e he => (List.mem_append.mp he).elim (h e) (h' e)
/-- the first guess -/
def lt0 (s : State) (e : Int) : Times := 0 :: (numbers s).map fun i => e - int (opAt s i).long
theorem lt0_len (s : State) (e : Int) : (lt0 s e).length = size s + 1 := by simp [lt0, numbers]
theorem lt0_zero (s : State) (e : Int) : at_ (lt0 s e) 0 = 0 := rfl
theorem numbers_get {s : State} {v : Nat} (h0 : v ≠ 0) (h : v < size s + 1) : (numbers s)[v - 1]? = some v := by
  unfold numbers
  rw [List.getElem?_map, List.getElem?_range (show v - 1 < size s by omega)]
  show some (v - 1 + 1) = some v
  congr 1
  omega
theorem lt0_at {s : State} {e : Int} {v : Nat} (h0 : v ≠ 0) (h : v < size s + 1) : at_ (lt0 s e) v = e - int (opAt s v).long := by
  unfold at_ lt0
  obtain ⟨u, rfl⟩ : ∃ u, v = u + 1 := ⟨v - 1, by omega⟩
  rw [List.getD_eq_getElem?_getD, List.getElem?_cons_succ, List.getElem?_map, show u = u + 1 - 1 by omega, numbers_get h0 h]
  rfl
theorem sooner_len (es : List Arrow) (t : Times) : (sooner es t).length = t.length := by
  unfold sooner
  rw [List.length_map, List.length_range]
theorem sooner_zero {es : List Arrow} {t : Times} (h : 0 < t.length) : at_ (sooner es t) 0 = 0 := by
  unfold sooner
  rw [at_map _ h, if_pos rfl]
theorem min_fold (f : Arrow → Option Int) : ∀ (es : List Arrow) (x : Int), (some (-(es.foldl (fun m e => match f e with | some y => min m (-y) | none => m) x)) : Option Int) = es.foldl (fun z e => more z (f e)) (some (-x))
  | [], _ => rfl
  | e :: es, x => by
    rw [List.foldl_cons, List.foldl_cons]
    cases h : f e with
    | none => exact min_fold f es x
    | some y =>
      refine (min_fold f es (min x (-y))).trans ?_
      show _ = List.foldl _ (some (max (-x) y)) es
      rw [show -(min x (-y)) = max (-x) y by omega]
theorem sooner_max {es : List Arrow} {t : Times} {v : Nat} (h0 : v ≠ 0) (h : v < t.length) : IsMax (fun x => x = - at_ t v ∨ ∃ e ∈ es, e.a = v ∧ x = e.w - at_ t e.b) (some (- at_ (sooner es t) v)) := by
  unfold sooner
  rw [at_map _ h, if_neg h0]
  have e1 : (fun (m : Int) (e : Arrow) => if e.a = v then min m (at_ t e.b - e.w) else m) = fun m e => match (if e.a = v then some (e.w - at_ t e.b) else none) with | some y => min m (-y) | none => m := by
    funext m e
    by_cases c : e.a = v
    · rw [if_pos c, if_pos c]
      show min m (at_ t e.b - e.w) = min m (-(e.w - at_ t e.b))
      rw [show at_ t e.b - e.w = -(e.w - at_ t e.b) by omega]
    · rw [if_neg c, if_neg c]
  rw [e1, min_fold]
  refine (foldMore es (some (- at_ t v)) (P := fun x => x = - at_ t v) ⟨rfl, fun y q => by omega⟩).congr fun x => ?_
  constructor
  · rintro (q | ⟨e, he, q⟩)
    · exact .inl q
    · by_cases c : e.a = v
      · rw [if_pos c] at q
        exact .inr ⟨e, he, c, (Option.some.inj q).symm⟩
      · rw [if_neg c] at q
        cases q
  · rintro (q | ⟨e, he, h1, h2⟩)
    · exact .inl q
    · exact .inr ⟨e, he, by rw [if_pos h1, h2]⟩

section
variable {s : State} {es : List Arrow} {e : Int}
abbrev Lt (s : State) (es : List Arrow) (e : Int) (k : Nat) : Times := rounds (sooner es) k (lt0 s e)
theorem roundsS_len (es : List Arrow) (t : Times) : ∀ k, (rounds (sooner es) k t).length = t.length
  | 0 => rfl
  | k + 1 => by rw [rounds_succ, sooner_len, roundsS_len es t k]
theorem Lt_len (k : Nat) : (Lt s es e k).length = size s + 1 := (roundsS_len es _ k).trans (lt0_len s e)
theorem Lt_zero : ∀ k, at_ (Lt s es e k) 0 = 0
  | 0 => rfl
  | k + 1 => by
    show at_ (rounds (sooner es) (k + 1) (lt0 s e)) 0 = 0
    rw [rounds_succ]
    exact sooner_zero (by rw [Lt_len]; omega)
theorem Lt_succ (k : Nat) {v : Nat} (h0 : v ≠ 0) (h : v < size s + 1) : IsMax (fun x => x = - at_ (Lt s es e k) v ∨ ∃ f ∈ es, f.a = v ∧ x = f.w - at_ (Lt s es e k) f.b) (some (- at_ (Lt s es e (k + 1)) v)) := by
  have := sooner_max (es := es) (t := Lt s es e k) h0 (by rw [Lt_len]; exact h)
  show IsMax _ (some (- at_ (rounds (sooner es) (k + 1) (lt0 s e)) v))
  rw [rounds_succ]
  exact this
theorem Lt_mono (k : Nat) {v : Nat} (h0 : v ≠ 0) (h : v < size s + 1) : at_ (Lt s es e (k + 1)) v ≤ at_ (Lt s es e k) v := by
  have := (Lt_succ (s := s) (es := es) (e := e) k h0 h).2 _ (.inl rfl)
  omega
theorem Lt_le0 {v : Nat} (h0 : v ≠ 0) (h : v < size s + 1) : ∀ k, at_ (Lt s es e k) v ≤ e - int (opAt s v).long
  | 0 => by rw [show Lt s es e 0 = lt0 s e from rfl, lt0_at h0 h]; exact Int.le_refl _
  | k + 1 => by
    have h1 := Lt_mono (s := s) (es := es) (e := e) k h0 h
    have h2 := Lt_le0 h0 h k
    omega
abbrev mX (s : State) (es : List Arrow) (e : Int) : Wt := best (es ++ endAr s e)
theorem mX_arrow {f : Arrow} (hf : f ∈ es) : ∃ u, mX s es e f.a f.b = some u ∧ f.w ≤ u := best_of (List.mem_append_left _ hf)
theorem mX_end {v : Nat} (h0 : v ≠ 0) (h : v < size s + 1) : ∃ u, mX s es e v 0 = some u ∧ int (opAt s v).long - e ≤ u :=
  best_of (e := ⟨v, 0, int (opAt s v).long - e⟩) (List.mem_append_right _ (List.mem_map.mpr ⟨v, mem_numbers.mpr ⟨by omega, h⟩, rfl⟩))
/-- each guess comes of a walk -/
theorem Lt_walk (r : InR es (size s + 1)) : ∀ (k : Nat) {v : Nat}, v ≠ 0 → v < size s + 1 → ∃ x j, - at_ (Lt s es e k) v ≤ x ∧ j ≤ k + 1 ∧ Wk (mX s es e) (size s + 1) j v 0 x
  | 0, v, h0, h => by
    obtain ⟨u, e1, e2⟩ := mX_end (s := s) (es := es) (e := e) h0 h
    refine ⟨u, 1, ?_, Nat.le_refl _, Wk.one h (Nat.succ_pos _) e1⟩
    rw [show Lt s es e 0 = lt0 s e from rfl, lt0_at h0 h]
    omega
  | k + 1, v, h0, h => by
    rcases (Lt_succ (s := s) (es := es) (e := e) k h0 h).1 with q | ⟨f, hf, q1, q2⟩
    · obtain ⟨x, j, h1, h2, h3⟩ := Lt_walk r k h0 h
      exact ⟨x, j, by omega, by omega, h3⟩
    · obtain ⟨u, e1, e2⟩ := mX_arrow (s := s) (e := e) hf
      rw [q1] at e1
      by_cases c : f.b = 0
      · rw [c] at e1 q2
        rw [Lt_zero] at q2
        exact ⟨u, 1, by omega, by omega, Wk.one h (Nat.succ_pos _) e1⟩
      · obtain ⟨x, j, h1, h2, h3⟩ := Lt_walk r k c (r f hf).2
        exact ⟨u + x, j + 1, by omega, by omega, ⟨h, f.b, u, x, e1, h3, rfl⟩⟩
/-- each walk is kept -/
theorem Lt_kept (rf : RingFree (mX s es e) (size s + 1)) : ∀ (j k : Nat) {v : Nat} {x : Int}, v ≠ 0 → v < size s + 1 → j ≤ k → Wk (mX s es e) (size s + 1) j v 0 x → x ≤ - at_ (Lt s es e k) v
  | 0, k, v, x, h0, h, hj, w => absurd w.1 h0
  | j + 1, k, v, x, h0, h, hj, w => by
    obtain ⟨_, c, u, y, e1, w', ex⟩ := w
    obtain ⟨k, rfl⟩ : ∃ k', k = k' + 1 := ⟨k - 1, by omega⟩
    obtain ⟨f, hf, f1, f2, f3⟩ := best_some e1
    have hm := Lt_succ (s := s) (es := es) (e := e) k h0 h
    rcases List.mem_append.mp hf with hf | hf
    · have := hm.2 (f.w - at_ (Lt s es e k) f.b) (.inr ⟨f, hf, f1, rfl⟩)
      rw [f2] at this
      by_cases c0 : c = 0
      · subst c0
        have hy := rf.all w'
        rw [Lt_zero] at this
        omega
      · have := Lt_kept rf j k c0 w'.lt1 (by omega) w'
        omega
    · obtain ⟨i, hi, rfl⟩ := List.mem_map.mp hf
      simp only at f1 f2 f3
      subst f1 f2
      have hy := rf.all w'
      have := Lt_le0 (s := s) (es := es) (e := e) h0 h (k + 1)
      omega
theorem Lt_free (r : InR es (size s + 1)) : holds es (Lt s es e (size s + 1)) = true ↔ RingFree (mX s es e) (size s + 1) := by
  constructor
  · intro h
    refine ((holds_pot (es := es ++ endAr s e) (r.app (endAr_inR s e))).mp (holds_iff.mpr fun f hf => ?_)).free (p := at_ (Lt s es e (size s + 1)))
    rcases List.mem_append.mp hf with hf | hf
    · exact holds_iff.mp h f hf
    · obtain ⟨i, hi, rfl⟩ := List.mem_map.mp hf
      obtain ⟨h1, h2⟩ := mem_numbers.mp hi
      have := Lt_le0 (s := s) (es := es) (e := e) (show i ≠ 0 by omega) h2 (size s + 1)
      show at_ (Lt s es e (size s + 1)) i + (int (opAt s i).long - e) ≤ at_ (Lt s es e (size s + 1)) 0
      rw [Lt_zero]
      omega
  · intro rf
    refine holds_iff.mpr fun f hf => ?_
    obtain ⟨u, e1, e2⟩ := mX_arrow (s := s) (e := e) hf
    obtain ⟨ha, hb⟩ := r f hf
    by_cases a0 : f.a = 0
    · rw [a0] at e1 ⊢
      rw [Lt_zero]
      by_cases b0 : f.b = 0
      · rw [b0] at e1 ⊢
        rw [Lt_zero]
        have := rf.all (Wk.one (Nat.succ_pos _) (Nat.succ_pos _) e1)
        omega
      · obtain ⟨x, j, h1, h2, h3⟩ := Lt_walk (e := e) r (size s + 1) b0 hb
        have := rf.all (k := j + 1) (c := 0) (u := u + x) ⟨Nat.succ_pos _, f.b, u, x, e1, h3, rfl⟩
        omega
    · by_cases b0 : f.b = 0
      · rw [b0] at e1 ⊢
        rw [Lt_zero]
        have := Lt_kept rf 1 (size s + 1) a0 ha (by omega) (Wk.one ha (Nat.succ_pos _) e1)
        omega
      · obtain ⟨x, j, h1, h2, h3⟩ := Lt_walk (e := e) r (size s + 1) b0 hb
        obtain ⟨j', y, g1, _, g3, g4⟩ := Wk.short rf j h3
        have := Lt_kept rf (j' + 1) (size s + 1) a0 ha (by omega) ⟨ha, f.b, u, y, e1, g3, rfl⟩
        omega
theorem Lt_max (r : InR es (size s + 1)) (rf : RingFree (mX s es e) (size s + 1)) {v : Nat} (h0 : v ≠ 0) (h : v < size s + 1) : IsMax (fun x => ∃ j, j ≤ size s + 1 ∧ Wk (mX s es e) (size s + 1) j v 0 x) (some (- at_ (Lt s es e (size s + 1)) v)) := by
  obtain ⟨x, j, h1, _, h3⟩ := Lt_walk (e := e) r (size s + 1) h0 h
  obtain ⟨j', y, g1, _, g3, g4⟩ := Wk.short rf j h3
  have := Lt_kept rf j' (size s + 1) h0 h (by omega) g3
  refine ⟨⟨j', by omega, ?_⟩, fun z ⟨i, hi, w⟩ => Lt_kept rf i (size s + 1) h0 h hi w⟩
  rw [show - at_ (Lt s es e (size s + 1)) v = y by omega]
  exact g3
end
/-- what the program finds: for each node the greatest sum of any walk to a goal -/
def greatF (m : Wt) (N g : Nat) (a : Nat) : Option Int := (List.range (N + 1)).foldl (fun z k => more z (colF m N g k a)) none
theorem greatF_max {m : Wt} {N g a : Nat} (hg : g < N) (ha : a < N) : IsMax (fun x => ∃ j, j ≤ N ∧ Wk m N j a g x) (greatF m N g a) := by
  refine (foldMore (f := fun k => colF m N g k a) (List.range (N + 1)) none isMax_none).dom ?_ ?_
  · rintro x (q | ⟨k, hk, q⟩)
    · exact q.elim
    · have h1 := colF_max (m := m) hg k ha
      rw [q] at h1
      exact ⟨k, by have := List.mem_range.mp hk; omega, h1.1⟩
  · rintro x ⟨j, hj, w⟩
    obtain ⟨y, e, _, hy⟩ := (colF_max (m := m) hg j ha).ge w
    exact ⟨y, .inr ⟨j, List.mem_range.mpr (by omega), e⟩, hy⟩
theorem latest_eq (s : State) (ds : List (Nat × Nat)) (e : Int) : latest s ds e = if holds (arrows s ds) (Lt s (arrows s ds) e (size s + 1)) = true then some (Lt s (arrows s ds) e (size s + 1)) else none := rfl
theorem latest_great {s : State} {ds : List (Nat × Nat)} {e : Int} (r : InR (arrows s ds) (size s + 1)) (rf : RingFree (mX s (arrows s ds) e) (size s + 1)) {v : Nat} (h0 : v ≠ 0) (h : v < size s + 1) :
    greatF (mX s (arrows s ds) e) (size s + 1) 0 v = some (- at_ (Lt s (arrows s ds) e (size s + 1)) v) := (greatF_max (Nat.succ_pos _) h).uniq (Lt_max r rf h0 h)
/-- the earliest times keep any end that they keep -/
theorem late_free {s : State} {ds : List (Nat × Nat)} {e : Int} {t : Times} (r : InR (arrows s ds) (size s + 1)) (ht : holds (arrows s ds) t = true) (h0 : at_ t 0 = 0) (he : ∀ i, i ∈ numbers s → ended s t i ≤ e) : RingFree (mX s (arrows s ds) e) (size s + 1) := by
  refine ((holds_pot (es := arrows s ds ++ endAr s e) (r.app (endAr_inR s e))).mp (holds_iff.mpr fun f hf => ?_)).free (p := at_ t)
  rcases List.mem_append.mp hf with hf | hf
  · exact holds_iff.mp ht f hf
  · obtain ⟨i, hi, rfl⟩ := List.mem_map.mp hf
    have := he i hi
    unfold ended at this
    show at_ t i + (int (opAt s i).long - e) ≤ at_ t 0
    omega
end Up
/-! UpE: works that are kept well, their arrows, plans, trees (plain Lean). -/
namespace Up
open Vbwbai

theorem best_nil (a b : Nat) : best [] a b = none := rfl
theorem best_snoc (es : List Arrow) (e : Arrow) (a b : Nat) : best (es ++ [e]) a b = more (best es a b) (if e.a = a ∧ e.b = b then some e.w else none) := by
  rw [best_fold, best_fold, List.foldl_append]
  rfl
theorem more_none (o : Option Int) : more o none = o := by cases o <;> rfl

/-- what holds of the works kept -/
structure Good (s : State) : Prop where
  gaps : s.gaps.length ≤ 6
  ops : s.ops.length ≤ 8
  unit : ∀ o ∈ s.ops, o.unit < s.gaps.length
  lnk : s.links.length ≤ 16
  links : ∀ l ∈ s.links, (0 < l.i ∧ l.i < size s + 1) ∧ (0 < l.j ∧ l.j < size s + 1)
  fixed : ∀ p ∈ s.fixed, (0 < p.1 ∧ p.1 < size s + 1) ∧ (0 < p.2 ∧ p.2 < size s + 1)
  nd : s.fixed.Nodup
/-- pairs of operations -/
def OkDs (s : State) (ds : List (Nat × Nat)) : Prop := ∀ p ∈ ds, (0 < p.1 ∧ p.1 < size s + 1) ∧ (0 < p.2 ∧ p.2 < size s + 1)
theorem OkDs.app {s : State} {ds es : List (Nat × Nat)} (h : OkDs s ds) (h' : OkDs s es) : OkDs s (ds ++ es) := fun p hp => (List.mem_append.mp hp).elim (h p) (h' p)
theorem OkDs.nil {s : State} : OkDs s [] := fun _ h => by cases h
theorem OkDs.one {s : State} {i j : Nat} (h1 : 0 < i ∧ i < size s + 1) (h2 : 0 < j ∧ j < size s + 1) : OkDs s [(i, j)] := fun p hp => by
  rw [List.mem_singleton.mp hp]
  exact ⟨h1, h2⟩
theorem fixed_few {s : State} (g : Good s) : s.fixed.length ≤ 81 := by
  have h := nodup_le 81 (s.fixed.map fun p => p.1 * 9 + p.2) (by
    refine List.Pairwise.map _ (fun a b hab => ?_) (List.Pairwise.and_mem.mp g.nd)
    · obtain ⟨ha, hb, hne⟩ := hab
      have h1 := g.fixed a ha
      have h2 := g.fixed b hb
      have h3 := g.ops
      unfold size at h1 h2
      intro e
      apply hne
      have e2 : a.2 = b.2 := by omega
      have e1 : a.1 = b.1 := by omega
      exact Prod.ext e1 e2) (fun v hv => by
    obtain ⟨p, hp, rfl⟩ := List.mem_map.mp hv
    have h1 := g.fixed p hp
    have h3 := g.ops
    unfold size at h1
    omega)
  rwa [List.length_map] at h
theorem inR_arrows {s : State} (g : Good s) {ds : List (Nat × Nat)} (hd : OkDs s ds) : InR (arrows s ds) (size s + 1) := by
  intro e he
  unfold arrows at he
  rcases List.mem_append.mp he with he | he
  · unfold opArrows at he
    obtain ⟨i, hi, he⟩ := List.mem_flatMap.mp he
    obtain ⟨h1, h2⟩ := mem_numbers.mp hi
    rcases List.mem_cons.mp he with rfl | he
    · exact ⟨Nat.succ_pos _, h2⟩
    · cases hdue : (opAt s i).due with
      | none => rw [hdue] at he; cases he
      | some d =>
        rw [hdue] at he
        rw [List.mem_singleton.mp he]
        exact ⟨h2, Nat.succ_pos _⟩
  · rcases List.mem_append.mp he with he | he
    · unfold linkArrows at he
      obtain ⟨l, hl, he⟩ := List.mem_flatMap.mp he
      have h := g.links l hl
      rcases List.mem_cons.mp he with rfl | he
      · exact ⟨h.1.2, h.2.2⟩
      · cases hm : l.most with
        | none => rw [hm] at he; cases he
        | some d =>
          rw [hm] at he
          rw [List.mem_singleton.mp he]
          exact ⟨h.2.2, h.1.2⟩
    · obtain ⟨p, hp, rfl⟩ := List.mem_map.mp he
      exact ⟨(hd p hp).1.2, (hd p hp).2.2⟩
theorem rel0_arrows (s : State) (ds : List (Nat × Nat)) : Rel0 (best (arrows s ds)) (size s + 1) := by
  intro v h0 h1
  have hm : (⟨0, v, int (opAt s v).release⟩ : Arrow) ∈ arrows s ds := by
    unfold arrows opArrows
    exact List.mem_append_left _ (List.mem_flatMap.mpr ⟨v, mem_numbers.mpr ⟨h0, h1⟩, List.mem_cons_self ..⟩)
  obtain ⟨u, e1, e2⟩ := best_of hm
  exact ⟨u, Int.le_trans (Int.natCast_nonneg _) e2, e1⟩
section
variable {s : State} {ds : List (Nat × Nat)}
abbrev mA (s : State) (ds : List (Nat × Nat)) : Wt := best (arrows s ds)
abbrev TmA (s : State) (ds : List (Nat × Nat)) : Times := Tm (arrows s ds) (size s + 1)
theorem earl_some (g : Good s) (hd : OkDs s ds) (rf : RingFree (mA s ds) (size s + 1)) : earliest s ds = some (TmA s ds) := earliest_some (inR_arrows g hd) (rel0_arrows s ds) rf
theorem earl_none (g : Good s) (hd : OkDs s ds) (rf : ¬ RingFree (mA s ds) (size s + 1)) : earliest s ds = none := earliest_none (inR_arrows g hd) (rel0_arrows s ds) rf
theorem free_of_earl (g : Good s) (hd : OkDs s ds) {t : Times} (h : earliest s ds = some t) : RingFree (mA s ds) (size s + 1) ∧ t = TmA s ds := by
  by_cases rf : RingFree (mA s ds) (size s + 1)
  · rw [earl_some g hd rf] at h
    exact ⟨rf, (Option.some.inj h).symm⟩
  · rw [earl_none g hd rf] at h
    cases h
/-- the program's earliest times, node by node -/
theorem earl_at (g : Good s) (hd : OkDs s ds) (rf : RingFree (mA s ds) (size s + 1)) {v : Nat} (hv : v < size s + 1) : iterF (mA s ds) (size s + 1) first0 (size s + 1) v = some (at_ (TmA s ds) v) := by
  rw [first_zeros rf (rel0_arrows s ds) hv, ← Tm_iter (inR_arrows g hd) hv]
theorem TmA_len : (TmA s ds).length = size s + 1 := Tm_len _ _
theorem TmA_zero (g : Good s) (hd : OkDs s ds) (rf : RingFree (mA s ds) (size s + 1)) : at_ (TmA s ds) 0 = 0 := by
  have h0 := Tm_iter (inR_arrows g hd) (Nat.succ_pos (size s))
  rw [zero_zero rf (rel0_arrows s ds) (Nat.succ_pos _)] at h0
  exact Option.some.inj h0
theorem TmA_holds (g : Good s) (hd : OkDs s ds) (rf : RingFree (mA s ds) (size s + 1)) : holds (arrows s ds) (TmA s ds) = true := (Tm_holds (inR_arrows g hd)).mpr rf
theorem list_at {t : Times} {N : Nat} (h : t.length = N) : t = (List.range N).map (at_ t) := by
  apply List.ext_getElem
  · rw [List.length_map, List.length_range, h]
  · intro i h1 h2
    rw [List.getElem_map, List.getElem_range]
    unfold at_
    rw [List.getD_eq_getElem?_getD, List.getElem?_eq_getElem h1]
    rfl
theorem drop_range {α : Type} (f : Nat → α) (n : Nat) : ((List.range (n + 1)).map f).drop 1 = (List.range n).map fun i => f (i + 1) := by
  rw [List.range_succ_eq_map, List.map_cons, List.map_map]
  rfl
/-- .. as the list that it hands back -/
theorem earl_list (g : Good s) (hd : OkDs s ds) (rf : RingFree (mA s ds) (size s + 1)) : ((List.range (size s + 1)).map (iterF (mA s ds) (size s + 1) first0 (size s + 1))).drop 1 = ((TmA s ds).drop 1).map some := by
  have e : (List.range (size s + 1)).map (iterF (mA s ds) (size s + 1) first0 (size s + 1)) = (TmA s ds).map some := by
    rw [list_at (TmA_len (s := s) (ds := ds)), List.map_map]
    exact List.map_congr_left fun v hv => by
      exact earl_at g hd rf (List.mem_range.mp hv)
  rw [e, List.map_drop]
theorem more_arrows (s : State) (ds ws : List (Nat × Nat)) : ∀ e ∈ arrows s ds, e ∈ arrows s (ds ++ ws) := by
  intro e he
  unfold arrows at he ⊢
  rw [List.map_append]
  simp only [List.mem_append] at he ⊢
  rcases he with h | h | h
  · exact .inl h
  · exact .inr (.inl h)
  · exact .inr (.inr (.inl h))
/-- orders more make no ring less -/
theorem free_less (g : Good s) {ws : List (Nat × Nat)} (hd : OkDs s ds) (hw : OkDs s ws) (rf : RingFree (mA s (ds ++ ws)) (size s + 1)) : RingFree (mA s ds) (size s + 1) := by
  have h := TmA_holds g (hd.app hw) rf
  have h' : holds (arrows s ds) (TmA s (ds ++ ws)) = true := holds_iff.mpr fun e he => holds_iff.mp h e (more_arrows s ds ws e he)
  exact ((holds_pot (inR_arrows g hd)).mp h').free
theorem none_less (g : Good s) {ws : List (Nat × Nat)} (hd : OkDs s ds) (hw : OkDs s ws) (h : earliest s ds = none) : earliest s (ds ++ ws) = none := by
  refine earl_none g (hd.app hw) fun rf => ?_
  rw [earl_some g hd (free_less g hd hw rf)] at h
  cases h
theorem ring_some (rf : ¬ RingFree (mA s ds) (size s + 1)) : ∃ r, ring s ds = some r := by
  cases h : ring s ds with
  | some r => exact ⟨r, rfl⟩
  | none =>
    rw [ring_eq] at h
    exact absurd (ringP_free.mp h) rf
theorem ring_none (rf : RingFree (mA s ds) (size s + 1)) : ring s ds = none := by
  rw [ring_eq]
  exact ringP_free.mpr rf

/-! ### the end, the operation that ends last -/
theorem foldl_max : ∀ (l : List Int) (z : Int), (l.foldl max z = z ∨ l.foldl max z ∈ l) ∧ z ≤ l.foldl max z ∧ ∀ y ∈ l, y ≤ l.foldl max z
  | [], z => ⟨.inl rfl, Int.le_refl _, fun _ h => by cases h⟩
  | a :: l, z => by
    obtain ⟨h1, h2, h3⟩ := foldl_max l (max z a)
    refine ⟨?_, by simp only [List.foldl_cons]; omega, fun y hy => ?_⟩
    · simp only [List.foldl_cons]
      rcases h1 with h | h
      · rw [h]
        by_cases c : z ≤ a
        · right; rw [Int.max_eq_right c]; exact List.mem_cons_self ..
        · left; exact Int.max_eq_left (by omega)
      · exact .inr (List.mem_cons_of_mem _ h)
    · simp only [List.foldl_cons]
      rcases List.mem_cons.mp hy with rfl | hy
      · omega
      · exact h3 y hy
theorem max_uniq {l : List Int} {a b : Int} (h1 : a ∈ l) (h2 : ∀ y ∈ l, y ≤ a) (h3 : b ∈ l) (h4 : ∀ y ∈ l, y ≤ b) : a = b := by
  have := h2 b h3
  have := h4 a h1
  omega
/-- the ends, in order -/
def ends (s : State) (t : Times) : List Int := (numbers s).map (ended s t)
theorem endOf_eq (s : State) (t : Times) : endOf s t = (ends s t).foldl max 0 := by
  unfold endOf ends
  rw [List.foldl_map]
theorem endOf_of {s : State} {t : Times} {m : Int} (h1 : m ∈ 0 :: ends s t) (h2 : ∀ y ∈ 0 :: ends s t, y ≤ m) : m = endOf s t := by
  rw [endOf_eq]
  obtain ⟨f1, f2, f3⟩ := foldl_max (ends s t) 0
  refine max_uniq h1 h2 ?_ fun y hy => ?_
  · rcases f1 with f | f
    · rw [f]; exact List.mem_cons_self ..
    · exact List.mem_cons_of_mem _ f
  · rcases List.mem_cons.mp hy with rfl | hy
    · exact f2
    · exact f3 y hy
theorem ended_le (s : State) (t : Times) : ∀ i ∈ numbers s, ended s t i ≤ endOf s t := fun i hi => by
  rw [endOf_eq]
  exact (foldl_max (ends s t) 0).2.2 _ (List.mem_map.mpr ⟨i, hi, rfl⟩)
theorem find_first {α : Type} {p : α → Bool} : ∀ {l : List α} {j : Nat} {x : α}, l[j]? = some x → p x = true → (∀ i, i < j → ∀ y, l[i]? = some y → p y = false) → l.find? p = some x
  | [], j, x, h, _, _ => by simp at h
  | a :: l, 0, x, h, hp, _ => by
    simp at h
    subst h
    rw [List.find?_cons_of_pos hp]
  | a :: l, j + 1, x, h, hp, hf => by
    have ha := hf 0 (by omega) a rfl
    rw [List.find?_cons_of_neg (by simp [ha])]
    exact find_first (l := l) (j := j) (by simpa using h) hp fun i hi y hy => hf (i + 1) (by omega) y (by simpa using hy)
/-- the program's choice: the first place of the greatest end -/
theorem lastOp_of {s : State} {t : Times} {m : Int} {j : Nat} (h1 : m ∈ ends s t) (h2 : ∀ y ∈ ends s t, y ≤ m) (h0 : ∀ y ∈ ends s t, 0 ≤ y) (e : (ends s t)[j]? = some m) (hf : ∀ i, i < j → (ends s t)[i]? ≠ some m) : lastOp s t = j + 1 ∧ j < size s := by
  have hm : m = endOf s t := endOf_of (List.mem_cons_of_mem _ h1) fun y hy => by
    rcases List.mem_cons.mp hy with rfl | hy
    · exact h0 m h1
    · exact h2 y hy
  have hj : j < size s := by
    have := (List.getElem?_eq_some_iff.mp e).1
    simpa [ends, numbers] using this
  have hn : (numbers s)[j]? = some (j + 1) := numbers_get (v := j + 1) (by omega) (by omega)
  have get : ∀ i k, (numbers s)[i]? = some k → (ends s t)[i]? = some (ended s t k) := fun i k q => by
    unfold ends
    rw [List.getElem?_map, q]
    rfl
  refine ⟨?_, hj⟩
  unfold lastOp
  rw [find_first hn ?_ ?_]
  · rfl
  · have := get j _ hn
    rw [e] at this
    rw [← hm]
    simpa using (Option.some.inj this).symm
  · intro i hi y hy
    have := get i y hy
    have h3 := hf i hi
    rw [this, hm] at h3
    simpa using fun q => h3 (congrArg some q)
theorem lastOp_some {s : State} {t : Times} (hn : 0 < size s) (h0 : ∀ y ∈ ends s t, 0 ≤ y) : lastOp s t ≠ 0 ∧ lastOp s t < size s + 1 := by
  have h1 : ∃ i ∈ numbers s, ended s t i = endOf s t := by
    obtain ⟨f1, f2, f3⟩ := foldl_max (ends s t) 0
    rw [endOf_eq]
    rcases f1 with f | f
    · have hm : 1 ∈ numbers s := mem_numbers.mpr ⟨by omega, by omega⟩
      have hx : ended s t 1 ∈ ends s t := List.mem_map.mpr ⟨1, hm, rfl⟩
      have := f3 _ hx
      have := h0 _ hx
      exact ⟨1, hm, by omega⟩
    · obtain ⟨i, hi, e⟩ := List.mem_map.mp f
      exact ⟨i, hi, e⟩
  obtain ⟨i, hi, e⟩ := h1
  unfold lastOp
  cases hf : (numbers s).find? fun i => ended s t i == endOf s t with
  | none =>
    have := List.find?_eq_none.mp hf i hi
    simp [e] at this
  | some k =>
    have := mem_numbers.mp (List.mem_of_find?_eq_some hf)
    exact ⟨by show k ≠ 0; omega, this.2⟩
/-- the chain told, from what the program finds -/
theorem chain_of (g : Good s) (hd : OkDs s ds) {j : Nat} (hl0 : lastOp s (TmA s ds) ≠ 0) (hl : lastOp s (TmA s ds) < size s + 1) (hj : j ≤ size s + 1)
    (h1 : colF (mA s ds) (size s + 1) (lastOp s (TmA s ds)) j 0 = some (at_ (TmA s ds) (lastOp s (TmA s ds)))) (h2 : ∀ i, i < j → colF (mA s ds) (size s + 1) (lastOp s (TmA s ds)) i 0 ≠ some (at_ (TmA s ds) (lastOp s (TmA s ds)))) :
    chain s ds (TmA s ds) = 0 :: fwF (mA s ds) (size s + 1) (lastOp s (TmA s ds)) j 0 := by
  unfold chain
  show (chainIn s (one s (arrows s ds)) (walks s (one s (arrows s ds)) (size s + 1)) (lastOp s (TmA s ds)) (at_ (TmA s ds) (lastOp s (TmA s ds))) (size s + 1)).getD [] = _
  rw [chain_fw hl hl0 hj h1 h2]
  rfl
theorem chain_is (g : Good s) (hd : OkDs s ds) (rf : RingFree (mA s ds) (size s + 1)) {v : Nat} (hv : v < size s + 1) : ∃ j, j ≤ size s + 1 ∧ colF (mA s ds) (size s + 1) v j 0 = some (at_ (TmA s ds) v) :=
  chain_there rf (rel0_arrows s ds) hv (Tm_iter (inR_arrows g hd) hv).symm
theorem at_nonneg (g : Good s) (hd : OkDs s ds) {v : Nat} (hv : v < size s + 1) : 0 ≤ at_ (TmA s ds) v := by
  have h := Tm_iter (inR_arrows g hd) hv
  obtain ⟨x, hx, h0⟩ := zeros_some (m := mA s ds) (k := size s + 1) hv
  rw [hx] at h
  have := Option.some.inj h
  show 0 ≤ at_ (Tm _ _) v
  omega
theorem ends_nonneg (g : Good s) (hd : OkDs s ds) : ∀ y ∈ ends s (TmA s ds), 0 ≤ y := by
  intro y hy
  obtain ⟨i, hi, rfl⟩ := List.mem_map.mp hy
  have := at_nonneg g hd (mem_numbers.mp hi).2
  unfold ended
  have h2 : (0 : Int) ≤ int (opAt s i).long := Int.natCast_nonneg _
  omega
end

/-! ### the best of all orders -/
abbrev PlanR := Int × Times × List (Nat × Nat)
def better (x y : Option PlanR) : Option PlanR := match x, y with
  | none, y => y
  | x, none => x
  | some x, some y => if y.1 < x.1 then some y else some x
theorem better_none (x : Option PlanR) : better x none = x := by cases x <;> rfl
theorem better_assoc (x y z : Option PlanR) : better (better x y) z = better x (better y z) := by
  cases x with
  | none => rfl
  | some x =>
    cases y with
    | none => rfl
    | some y =>
      cases z with
      | none => rw [better_none, better_none]
      | some z =>
        show better (if y.1 < x.1 then some y else some x) (some z) = better (some x) (if z.1 < y.1 then some z else some y)
        by_cases c1 : y.1 < x.1
        · rw [if_pos c1]
          by_cases c2 : z.1 < y.1
          · rw [if_pos c2]
            show (if z.1 < y.1 then some z else some y) = if z.1 < x.1 then some z else some x
            rw [if_pos c2, if_pos (by omega)]
          · rw [if_neg c2]
            show (if z.1 < y.1 then some z else some y) = if y.1 < x.1 then some y else some x
            rw [if_neg c2, if_pos c1]
        · rw [if_neg c1]
          by_cases c2 : z.1 < y.1
          · rw [if_pos c2]
          · rw [if_neg c2]
            show (if z.1 < x.1 then some z else some x) = if y.1 < x.1 then some y else some x
            rw [if_neg (by omega), if_neg c1]
def both (p : Nat × Nat) (w : List (Nat × Nat)) : List (List (Nat × Nat)) := [w ++ [p], w ++ [(p.2, p.1)]]
/-- all ways, as the program lays them -/
def waysP (ps : List (Nat × Nat)) : List (List (Nat × Nat)) := ps.foldl (fun F p => F.flatMap (both p)) [[]]
def lexW : List (Nat × Nat) → List (List (Nat × Nat))
  | [] => [[]]
  | p :: r => (lexW r).map (fun w => p :: w) ++ (lexW r).map (fun w => (p.2, p.1) :: w)
theorem ways_from : ∀ (ps : List (Nat × Nat)) (F : List (List (Nat × Nat))), ps.foldl (fun F p => F.flatMap (both p)) F = F.flatMap fun w => (lexW ps).map fun v => w ++ v
  | [], F => by simp [lexW]
  | p :: r, F => by
    rw [List.foldl_cons, ways_from r, List.flatMap_assoc]
    congr 1
    funext w
    simp [both, lexW, Function.comp_def]
theorem ways_lex (ps : List (Nat × Nat)) : waysP ps = lexW ps := by
  unfold waysP
  rw [ways_from]
  simp
theorem lexW_ok {s : State} : ∀ {ps : List (Nat × Nat)}, OkDs s ps → ∀ w ∈ lexW ps, OkDs s w ∧ w.length = ps.length
  | [], _, w, hw => by
    rw [List.mem_singleton.mp hw]
    exact ⟨OkDs.nil, rfl⟩
  | p :: r, h, w, hw => by
    have hr : OkDs s r := fun q hq => h q (List.mem_cons_of_mem _ hq)
    have hp := h p (List.mem_cons_self ..)
    rcases List.mem_append.mp hw with hw | hw
    · obtain ⟨v, hv, rfl⟩ := List.mem_map.mp hw
      obtain ⟨h1, h2⟩ := lexW_ok hr v hv
      exact ⟨fun q hq => (List.mem_cons.mp hq).elim (fun e => e ▸ hp) (h1 q), by rw [List.length_cons, h2, List.length_cons]⟩
    · obtain ⟨v, hv, rfl⟩ := List.mem_map.mp hw
      obtain ⟨h1, h2⟩ := lexW_ok hr v hv
      exact ⟨fun q hq => (List.mem_cons.mp hq).elim (fun e => e ▸ ⟨hp.2, hp.1⟩) (h1 q), by rw [List.length_cons, h2, List.length_cons]⟩
theorem lexW_len : ∀ ps : List (Nat × Nat), (lexW ps).length = 2 ^ ps.length
  | [] => rfl
  | p :: r => by
    show ((lexW r).map _ ++ (lexW r).map _).length = _
    rw [List.length_append, List.length_map, List.length_map, lexW_len r, List.length_cons, Nat.pow_succ]
    omega
def planOf (s : State) (ds w : List (Nat × Nat)) : Option PlanR := (earliest s (ds ++ w)).map fun t => (endOf s t, t, ds ++ w)
def planFold (s : State) (ds : List (Nat × Nat)) (F : List (List (Nat × Nat))) (z : Option PlanR) : Option PlanR := F.foldl (fun z w => better z (planOf s ds w)) z
theorem planFold_z (s : State) (ds : List (Nat × Nat)) : ∀ (F : List (List (Nat × Nat))) (z : Option PlanR), planFold s ds F z = better z (planFold s ds F none)
  | [], z => (better_none z).symm
  | w :: F, z => by
    show planFold s ds F (better z (planOf s ds w)) = better z (planFold s ds F (planOf s ds w))
    rw [planFold_z s ds F (better z _), planFold_z s ds F (planOf s ds w), better_assoc]
theorem planFold_app (s : State) (ds : List (Nat × Nat)) (F G : List (List (Nat × Nat))) : planFold s ds (F ++ G) none = better (planFold s ds F none) (planFold s ds G none) := by
  unfold planFold
  rw [List.foldl_append]
  exact planFold_z s ds G _
theorem planFold_map (s : State) (ds : List (Nat × Nat)) (p : Nat × Nat) (F : List (List (Nat × Nat))) : planFold s ds (F.map fun w => p :: w) none = planFold s (ds ++ [p]) F none := by
  unfold planFold
  rw [List.foldl_map]
  refine foldl_congr fun w _ z => ?_
  unfold planOf
  rw [List.append_assoc]
  rfl
theorem planFold_none {s : State} {ds : List (Nat × Nat)} : ∀ {F : List (List (Nat × Nat))}, (∀ w ∈ F, planOf s ds w = none) → planFold s ds F none = none
  | [], _ => rfl
  | w :: F, h => by
    show planFold s ds F (better none (planOf s ds w)) = none
    rw [h w (List.mem_cons_self ..)]
    exact planFold_none fun v hv => h v (List.mem_cons_of_mem _ hv)
theorem search_plan {s : State} (g : Good s) : ∀ (ps ds : List (Nat × Nat)), OkDs s ps → OkDs s ds → search s ps ds = planFold s ds (lexW ps) none
  | [], ds, _, _ => by
    show (earliest s ds).map _ = planFold s ds [[]] none
    show _ = better none (planOf s ds [])
    unfold planOf
    rw [List.append_nil]
    rfl
  | p :: r, ds, hp, hd => by
    have hr : OkDs s r := fun q hq => hp q (List.mem_cons_of_mem _ hq)
    have h1 := hp p (List.mem_cons_self ..)
    have i1 := search_plan g r (ds ++ [p]) hr (hd.app (OkDs.one h1.1 h1.2))
    have i2 := search_plan g r (ds ++ [(p.2, p.1)]) hr (hd.app (OkDs.one h1.2 h1.1))
    show (if (earliest s ds).isNone = true then none else match search s r (ds ++ [p]), search s r (ds ++ [(p.2, p.1)]) with
      | none, y => y
      | x, none => x
      | some x, some y => if y.1 < x.1 then some y else some x) = planFold s ds ((lexW r).map (fun w => p :: w) ++ (lexW r).map (fun w => (p.2, p.1) :: w)) none
    rw [planFold_app, planFold_map, planFold_map, ← i1, ← i2]
    cases h : earliest s ds with
    | none =>
      rw [if_pos (show (none : Option Times).isNone = true from rfl), i1, i2]
      rw [planFold_none, planFold_none]
      · rfl
      · intro w hw
        unfold planOf
        rw [List.append_assoc, none_less g hd ((OkDs.one h1.2 h1.1).app (lexW_ok hr w hw).1) h]
        rfl
      · intro w hw
        unfold planOf
        rw [List.append_assoc, none_less g hd ((OkDs.one h1.1 h1.2).app (lexW_ok hr w hw).1) h]
        rfl
    | some t =>
      rw [if_neg (by simp)]
      rfl
theorem mem_open {s : State} {i j : Nat} (h : (i, j) ∈ open_ s) : i ∈ numbers s ∧ j ∈ numbers s ∧ i < j := by
  unfold open_ at h
  obtain ⟨a, ha, h⟩ := List.mem_flatMap.mp h
  obtain ⟨b, hb, e⟩ := List.mem_map.mp h
  obtain ⟨h1, h2⟩ := List.mem_filter.mp hb
  cases e
  rw [Bool.and_eq_true] at h2
  exact ⟨ha, h1, by simpa using h2.1⟩
theorem open_ok (s : State) : OkDs s (open_ s) := fun p hp => by
  obtain ⟨h1, h2, _⟩ := mem_open (i := p.1) (j := p.2) hp
  have a := mem_numbers.mp h1
  have b := mem_numbers.mp h2
  exact ⟨a, b⟩
theorem bestPlan_eq {s : State} (g : Good s) : bestPlan s = planFold s s.fixed (waysP (open_ s)) none := by
  rw [ways_lex]
  exact search_plan g _ _ (open_ok s) g.fixed
end Up
/-! UpF: how calls are read. -/
namespace Up
open PyVbwbai (shape bound)
theorem whole_id (c : List (List Int)) : PyVbwbai.whole c = c := by
  unfold PyVbwbai.whole
  split <;> rfl
theorem map_whole (cs : List (List (List Int))) : cs.map PyVbwbai.whole = cs := by
  rw [show PyVbwbai.whole = id from funext whole_id, List.map_id]
theorem answers_eq {l : List Int} {cs : List (List (List Int))} (h : PyFlat.calls shape l.length l = some cs) : PyVbwbai.answers l = PyFlat.told (PyFlat.played Vbwbai.step Vbwbai.start cs) := by
  unfold PyVbwbai.answers PyVbwbai.calls
  rw [h]
  show PyFlat.told (PyFlat.played VbwbaiNeutral.step VbwbaiNeutral.start (cs.map PyVbwbai.whole)) = _
  rw [map_whole]
  rfl
theorem asked_of {l : List Int} (h : PyVbwbai.answers_asked l = true) : ∃ cs, PyFlat.calls shape l.length l = some cs ∧ PyInside.calls bound cs = true ∧ (PyVbwbai.answers l).length ≤ 10000000 := by
  unfold PyVbwbai.answers_asked at h
  cases e : PyFlat.calls shape l.length l with
  | none => rw [e] at h; cases h
  | some cs =>
    rw [e] at h
    simp only [Bool.and_eq_true] at h
    exact ⟨cs, rfl, h.1.1.2, of_decide_eq_true h.2⟩
theorem shape_in {p : Int} {n k : Nat} (h : shape p = some (n, k)) : p = 0 ∨ p = 1 ∨ p = 2 ∨ p = 3 ∨ p = 4 ∨ p = 5 ∨ p = 6 ∨ p = 7 ∨ p = 8 ∨ p = 9 ∨ p = 10 ∨ p = 11 ∨ p = 12 ∨ p = 13 ∨ p = 14 ∨ p = 15 := by
  by_cases c : 0 ≤ p ∧ p ≤ 15
  · omega
  · unfold shape at h
    rw [if_neg (by omega), if_neg (by omega), if_neg (by omega), if_neg (by omega), if_neg (by omega), if_neg (by omega), if_neg (by omega), if_neg (by omega), if_neg (by omega), if_neg (by omega), if_neg (by omega), if_neg (by omega), if_neg (by omega), if_neg (by omega), if_neg (by omega), if_neg (by omega)] at h
    cases h
theorem shape_bound {p : Int} {n k : Nat} (h : shape p = some (n, k)) : k ≤ (bound p).2.length ∧ ∀ q ∈ (bound p).2, q.2.2.2 ≤ 5000 := by
  rcases shape_in h with e | e | e | e | e | e | e | e | e | e | e | e | e | e | e | e <;> subst e <;> cases h <;> refine ⟨by decide, ?_⟩ <;> decide
theorem lists_len : ∀ (b : List (Int × Int × Nat × Nat)) (rs : List (List Int)), (∀ q ∈ b, q.2.2.2 ≤ 5000) → rs.length ≤ b.length → PyInside.lists b rs = true → ∀ r ∈ rs, r.length ≤ 5000
  | _, [], _, _, _, r, hr => by cases hr
  | [], _ :: _, _, hl, _, _, _ => by simp at hl
  | (lo, hi, least, most) :: b, x :: rs, hb, hl, h, r, hr => by
    have h' : (decide (least ≤ x.length) && decide (x.length ≤ most) && x.all (PyInside.within lo hi) && PyInside.lists b rs) = true := h
    simp only [Bool.and_eq_true] at h'
    have hm : most ≤ 5000 := hb _ (List.mem_cons_self ..)
    have hx : x.length ≤ most := of_decide_eq_true h'.1.1.2
    rcases List.mem_cons.mp hr with z | z
    · rw [z]; omega
    · exact lists_len b rs (fun q hq => hb q (List.mem_cons_of_mem _ hq)) (by simpa using hl) h'.2 r z
theorem call_rows {p : Int} {xs : List Int} {rows : List (List Int)} {n k : Nat} (hs : shape p = some (n, k)) (hk : rows.length = k) (h : PyInside.call bound ((p :: xs) :: rows) = true) : ∀ r ∈ rows, r.length ≤ 5000 := by
  have h' : (PyInside.each (bound p).1 xs && PyInside.lists (bound p).2 rows) = true := h
  rw [Bool.and_eq_true] at h'
  have := shape_bound hs
  exact lists_len _ _ this.2 (by omega) h'.2
theorem rows_len : ∀ (k : Nat) (l : List Int) (xs : List (List Int)) (r : List Int), PyFlat.rows k l = some (xs, r) → xs.length = k
  | 0, l, xs, r, h => by
    obtain ⟨e, _⟩ := Prod.mk.inj (Option.some.inj h)
    rw [← e]
    rfl
  | k + 1, l, xs, r, h => by
    unfold PyFlat.rows at h
    split at h
    · cases h
    · split at h
      · cases h
      · next x s _ ys t e =>
        obtain ⟨e', _⟩ := Prod.mk.inj (Option.some.inj h)
        rw [← e', List.length_cons, rows_len k _ _ _ e]
theorem rows_succ {k : Nat} {l : List Int} {xs : List (List Int)} {r : List Int} (h : PyFlat.rows (k + 1) l = some (xs, r)) : ∃ n t ys, l = n :: t ∧ 0 ≤ n ∧ n.toNat ≤ t.length ∧ xs = t.take n.toNat :: ys ∧ PyFlat.rows k (t.drop n.toNat) = some (ys, r) := by
  unfold PyFlat.rows at h
  split at h
  · cases h
  · next x s e =>
    split at h
    · cases h
    · next ys u e2 =>
      obtain ⟨e3, e4⟩ := Prod.mk.inj (Option.some.inj h)
      subst e3 e4
      cases l with
      | nil => cases e
      | cons n t =>
        have e' : (if 0 ≤ n ∧ n.toNat ≤ t.length then some (t.take n.toNat, t.drop n.toNat) else none) = some (x, s) := e
        by_cases c : 0 ≤ n ∧ n.toNat ≤ t.length
        · rw [if_pos c] at e'
          obtain ⟨e5, e6⟩ := Prod.mk.inj (Option.some.inj e')
          subst e5 e6
          exact ⟨n, t, ys, rfl, c.1, c.2, rfl, e2⟩
        · rw [if_neg c] at e'
          cases e'
theorem rows_less : ∀ (k : Nat) (l : List Int) (xs : List (List Int)) (r : List Int), PyFlat.rows k l = some (xs, r) → r.length ≤ l.length
  | 0, l, xs, r, h => by
    obtain ⟨_, e⟩ := Prod.mk.inj (Option.some.inj (show some (([] : List (List Int)), l) = some (xs, r) from h))
    rw [← e]
    exact Nat.le_refl _
  | k + 1, l, xs, r, h => by
    obtain ⟨n, t, ys, rfl, _, _, _, h'⟩ := rows_succ h
    have := rows_less k _ _ _ h'
    rw [List.length_drop] at this
    rw [List.length_cons]
    omega
theorem calls_cons {f : Nat} {p : Int} {t : List Int} {cs : List (List (List Int))} (h : PyFlat.calls shape f (p :: t) = some cs) :
    ∃ f' n k xs r cs', shape p = some (n, k) ∧ n ≤ t.length ∧ PyFlat.rows k (t.drop n) = some (xs, r) ∧ cs = ((p :: t.take n) :: xs) :: cs' ∧ PyFlat.calls shape f' r = some cs' := by
  cases f with
  | zero => cases h
  | succ f =>
    unfold PyFlat.calls at h
    split at h
    · cases h
    · next c u e =>
      split at h
      · cases h
      · next cs' e2 =>
        have e3 := Option.some.inj h
        subst e3
        have e' : (match shape p with
          | none => none
          | some (n, k) => if t.length < n then none else match PyFlat.rows k (t.drop n) with
            | none => none
            | some (xs, r) => some ((p :: t.take n) :: xs, r)) = some (c, u) := e
        cases hs : shape p with
        | none => rw [hs] at e'; cases e'
        | some nk =>
          obtain ⟨n, k⟩ := nk
          rw [hs] at e'
          have e'' : (if t.length < n then none else match PyFlat.rows k (t.drop n) with
            | none => none
            | some (xs, r) => some ((p :: t.take n) :: xs, r)) = some (c, u) := e'
          by_cases hl : t.length < n
          · rw [if_pos hl] at e''; cases e''
          · rw [if_neg hl] at e''
            cases e4 : PyFlat.rows k (t.drop n) with
            | none => rw [e4] at e''; cases e''
            | some q =>
              obtain ⟨xs, r⟩ := q
              rw [e4] at e''
              obtain ⟨e5, e6⟩ := Prod.mk.inj (Option.some.inj (show some ((p :: t.take n) :: xs, r) = some (c, u) from e''))
              subst e5 e6
              exact ⟨f, n, k, xs, r, cs', rfl, by omega, e4, rfl, e2⟩
theorem calls_nil {f : Nat} {cs : List (List (List Int))} (h : PyFlat.calls shape f [] = some cs) : cs = [] := by
  cases f <;> exact (Option.some.inj h).symm
end Up
/-! W0: rules of our own over the layer. -/
namespace Uw
open PySem PySem.Spec PyProof.Rows L2

/-! ### a list against an empty list -/
section
variable {X : Cx}
def rNeE (K : PySem.W.Frag) : R2 := fun x y H Q => ∃ a b xs, x = .ref a ∧ y = .ref b ∧ SqL K H a xs ∧ SqL K H b [] ∧ Q (.bl (!xs.isEmpty)) H
def rEqE (K : PySem.W.Frag) : R2 := fun x y H Q => ∃ a b xs, x = .ref a ∧ y = .ref b ∧ SqL K H a xs ∧ SqL K H b [] ∧ Q (.bl xs.isEmpty) H
theorem vals_nil {us : List Value} (r : Vals [] us) : us = [] := by cases r; rfl
theorem op_neE (hu : X.A.units < cLine) : OpR X (compareOp .NotEq) (rNeE X.K) := by
  intro pins s σ H x y v u Q I rx ry h
  obtain ⟨a, b, xs, rfl, rfl, ha, hb, q⟩ := h
  cases rx
  cases ry
  obtain ⟨its, r, hl, _⟩ := I.list ha
  obtain ⟨its2, r2, hl2, _⟩ := I.list hb
  obtain rfl := vals_nil r2
  show wpAny (model X.prog X.w) X.A (richCompare .NotEq (.ref a) (.ref b)) _ _ _
  cases xs with
  | nil =>
    obtain rfl := vals_nil r
    exact SeqAt.RcNeAt.lists (e := fun _ => true) hl.isList hl2.isList rfl hu (fun j h1 h2 => absurd h1 (by simp)) _ _ _ _ ⟨.bl false, H, I, rfl, q⟩
  | cons z zs =>
    cases r with
    | cons p t =>
      exact SeqAt.RcNeAt.lists_lengths hl.isList hl2.isList (by simp) hu _ _ _ _ ⟨.bl true, H, I, rfl, q⟩
theorem op_eqE (hu : X.A.units < cLine) : OpR X (compareOp .Eq) (rEqE X.K) := by
  intro pins s σ H x y v u Q I rx ry h
  obtain ⟨a, b, xs, rfl, rfl, ha, hb, q⟩ := h
  cases rx
  cases ry
  obtain ⟨its, r, hl, _⟩ := I.list ha
  obtain ⟨its2, r2, hl2, _⟩ := I.list hb
  obtain rfl := vals_nil r2
  show wpAny (model X.prog X.w) X.A (richCompare .Eq (.ref a) (.ref b)) _ _ _
  cases xs with
  | nil =>
    obtain rfl := vals_nil r
    exact SeqAt.RcAt.lists (e := fun _ => true) hl.isList hl2.isList rfl hu (fun j h1 h2 => absurd h1 (by simp)) _ _ _ _ ⟨.bl true, H, I, rfl, q⟩
  | cons z zs =>
    cases r with
    | cons p t =>
      exact SeqAt.RcAt.lists_lengths hl.isList hl2.isList (by simp) hu _ _ _ _ ⟨.bl false, H, I, rfl, q⟩
end

/-! ### xs.remove(d), d data that is there -/
section
variable {X : Cx}
def rRemD (K : PySem.W.Frag) : V → List V → Hp → VK → Prop := fun x xs H Q => ∃ (l : Addr) (ys : List V) (y : V) (d : PyData) (ds : List PyData) (j : Nat), x = .ref l ∧ xs = [y] ∧ H l = some (.lst ys) ∧ DpAll K H ys ds ∧ Dp K H y d ∧
  PyData.plainAll ds = true ∧ d.plain = true ∧ min (PyData.depthAll ds) d.depth ≤ 63 ∧ SeqAt.dataPlace ds d = some j ∧ Q .non (upd H l (.lst (ys.eraseIdx j)))
theorem mt_remD (hu : X.A.units + 64 < cLine) : MtM X "list.remove" (rRemD X.K) := by
  intro pins s σ H x xs v us Q I rx rxs h
  obtain ⟨l, ys, y, d, ds, j, rfl, rfl, hH, hds, hd, p1, p2, hdep, hj, q⟩ := h
  cases rx
  obtain ⟨u, rfl, ru⟩ := rxs.one
  obtain ⟨z, its, n, r, hl, e⟩ := I.lstM hH
  obtain ⟨as, ra⟩ := Dp.readsAll I ds ys its hds r
  obtain ⟨bs, rb⟩ := Dp.reads I d y u hd ru
  refine SeqAt.remove_list_data (vs := its.toArray) (j := j) ⟨_, e, rfl, n, rfl⟩ (by simpa using ra) rb p1 p2 (by omega) hj (by rw [List.size_toArray]; omega) ?_
  refine ⟨.non, _, I.lset (its' := its.eraseIdx j) (t' := s.toks) hH e (by simp [List.eraseIdxIfInBounds_toArray]) (r.eraseIdx j) ?_, rfl, q⟩
  have := len_erase ys j
  omega
end
/-! ### the layer's rules with the written part named -/
section
variable {X : Cx} {K : PySem.W.Frag}
theorem ixL (h : X.K = K) : IxR X (rIxL K) := h ▸ ix_list
theorem ixT (h : X.K = K) : IxR X (rIxT K) := h ▸ ix_tup
theorem pe_f {e : Expr} {ta : TE} {f : Str} {pos : Pos} (h : X.K = K) (he : PE X e ta) (hb : attributeBase e f X.env (eval e X.env) = eval e X.env) : PE X (.Attribute e f pos) (tFld K ta f) := by
  subst h
  exact pe_fld he hb
theorem pg_t {es : List Expr} {k : Nat} {t : TGs} {n : Nat} {pos : Pos} (h : X.K = K) (hc : X.calm = true) (hg : PGs X es t) (hn : (assignEach es X.env).length = n := by rfl) (hst : (assignEach es X.env).findIdx? (·.1) = none := by rfl) : PG X (.Tuple es k pos) (gTup K n t) := by
  subst h
  exact pg_tup hc hg hn hst
def rLen (K : PySem.W.Frag) : List V → Hp → VK → Prop := fun xs H Q => ∃ p ys, xs = [.ref p] ∧ (SqL K H p ys ∨ SqT K H p ys) ∧ Q (.int ys.length) H
theorem lenR (h : X.K = K) : CallR X (.builtin "len") (rLen K) := by
  subst h
  exact call_len_seq
end
end Uw
/-! W1: how a def, a method, a class is called; what the text gives; how the works lie in the heap. -/
namespace Uw
open PySem PySem.Spec PyProof.Rows L2

/-! ### calls -/
structure Met (P : Program) (w : World) (K : PySem.W.Frag) (mg : Str → Option Value) (base : Heap) (CX : CXT) (k : Nat) (C : Addr) (m : Str) (sp : Sp) : Prop where
  ex : ∃ (f : Addr) (fd : FuncData) (ps : List Str), Cls K C ∧ Meth K C m f ∧ FnOk P w K mg base CX k f fd ps sp ∧ Binds K fd ps []
structure Cal (P : Program) (w : World) (K : PySem.W.Frag) (mg : Str → Option Value) (base : Heap) (CX : CXT) (k : Nat) (x : Str) (sp : Sp) : Prop where
  ex : ∃ (f : Addr) (fd : FuncData) (ps : List Str), FnOk P w K mg base CX k f fd ps sp ∧ mg x = some (.ref f) ∧ PySem.W.keepIn K (.ref f) = true ∧ Binds K fd ps []
structure Mak (P : Program) (w : World) (K : PySem.W.Frag) (mg : Str → Option Value) (base : Heap) (CX : CXT) (k : Nat) (x : Str) (C : Addr) (sp : Sp) : Prop where
  ex : ∃ (f : Addr) (fd : FuncData) (ps : List Str), Mk K C f ∧ FnOk P w K mg base CX k f fd ps sp ∧ mg x = some (.ref C) ∧ Binds K fd ps []
/-- where a def stands -/
structure DefM (K : PySem.W.Frag) (C : Addr) (m qual : Str) (st : Stmt) (ps : List Str) : Prop where
  ex : ∃ (f : Addr) (fd : FuncData), Meth K C m f ∧ Fun K m qual st f fd ∧ Binds K fd ps []
structure DefG (K : PySem.W.Frag) (mg : Str → Option Value) (x : Str) (st : Stmt) (ps : List Str) : Prop where
  ex : ∃ (f : Addr) (fd : FuncData), mg x = some (.ref f) ∧ Fun K x x st f fd ∧ Binds K fd ps []
structure DefI (K : PySem.W.Frag) (mg : Str → Option Value) (x : Str) (C : Addr) (qual : Str) (st : Stmt) (ps : List Str) : Prop where
  ex : ∃ (f : Addr) (fd : FuncData), Mk K C f ∧ mg x = some (.ref C) ∧ Fun K "__init__" qual st f fd ∧ Binds K fd ps []
section
variable {P : Program} {w : World} {K : PySem.W.Frag} {mg : Str → Option Value} {base : Heap} {k : Nat} {C : Addr} {m x qual : Str} {st : Stmt} {N ps : List Str} {sp : Sp}
theorem met0 (D : DefM K C m qual st ps) (c : Cls K C) (S : FnScope N ps (defScope st)) (len : ∀ vs H Q E, sp vs H Q E → vs.length = ps.length)
    (hbody : ∀ (f : Addr) (cdv : Value) (A : Around) (outer : List Env) (s : Shared) (H : Hp) (vs : List V) (Q : VK) (E : XK), Room k (A.deeper (envOfC qual (defScope st) s.heap.objs.size f cdv)) → sp vs H Q E →
      ∃ t, PSs (cxOf CX0 P w K mg base N qual (defScope st) f cdv A outer s H E).nox (defBody st) t ∧ t { nx := fun _ H' => Q .non H', rt := Q } (start N vs) H) : Met P w K mg base CX0 (k + 1) C m sp := by
  obtain ⟨f, fd, me, F, b⟩ := D.ex
  exact ⟨⟨f, fd, ps, c, me, F.ok S len fun cdv A outer s H vs Q E hr h => hbody f cdv A outer s H vs Q E hr h, b⟩⟩
theorem metX (D : DefM K C m qual st ps) (c : Cls K C) (S : FnScope N ps (defScope st)) (len : ∀ vs H Q E, sp vs H Q E → vs.length = ps.length)
    (hbody : ∀ (f : Addr) (cdv : Value) (A : Around) (outer : List Env) (s : Shared) (H : Hp) (vs : List V) (Q : VK) (E : XK), Room k (A.deeper (envOfC qual (defScope st) s.heap.objs.size f cdv)) → sp vs H Q E →
      ∃ t, PSs (cxOf (L2.CX P w) P w K mg base N qual (defScope st) f cdv A outer s H E) (defBody st) t ∧ t { nx := fun _ H' => Q .non H', rt := Q } (start N vs) H) : Met P w K mg base (L2.CX P w) (k + 1) C m sp := by
  obtain ⟨f, fd, me, F, b⟩ := D.ex
  exact ⟨⟨f, fd, ps, c, me, F.okX S len fun cdv A outer s H vs Q E hr h => hbody f cdv A outer s H vs Q E hr h, b⟩⟩
theorem cal0 (D : DefG K mg x st ps) (S : FnScope N ps (defScope st)) (len : ∀ vs H Q E, sp vs H Q E → vs.length = ps.length)
    (hbody : ∀ (f : Addr) (cdv : Value) (A : Around) (outer : List Env) (s : Shared) (H : Hp) (vs : List V) (Q : VK) (E : XK), Room k (A.deeper (envOfC x (defScope st) s.heap.objs.size f cdv)) → sp vs H Q E →
      ∃ t, PSs (cxOf CX0 P w K mg base N x (defScope st) f cdv A outer s H E).nox (defBody st) t ∧ t { nx := fun _ H' => Q .non H', rt := Q } (start N vs) H) : Cal P w K mg base CX0 (k + 1) x sp := by
  obtain ⟨f, fd, me, F, b⟩ := D.ex
  exact ⟨⟨f, fd, ps, F.ok S len fun cdv A outer s H vs Q E hr h => hbody f cdv A outer s H vs Q E hr h, me, F.kp, b⟩⟩
theorem calX (D : DefG K mg x st ps) (S : FnScope N ps (defScope st)) (len : ∀ vs H Q E, sp vs H Q E → vs.length = ps.length)
    (hbody : ∀ (f : Addr) (cdv : Value) (A : Around) (outer : List Env) (s : Shared) (H : Hp) (vs : List V) (Q : VK) (E : XK), Room k (A.deeper (envOfC x (defScope st) s.heap.objs.size f cdv)) → sp vs H Q E →
      ∃ t, PSs (cxOf (L2.CX P w) P w K mg base N x (defScope st) f cdv A outer s H E) (defBody st) t ∧ t { nx := fun _ H' => Q .non H', rt := Q } (start N vs) H) : Cal P w K mg base (L2.CX P w) (k + 1) x sp := by
  obtain ⟨f, fd, me, F, b⟩ := D.ex
  exact ⟨⟨f, fd, ps, F.okX S len fun cdv A outer s H vs Q E hr h => hbody f cdv A outer s H vs Q E hr h, me, F.kp, b⟩⟩
theorem mak0 (D : DefI K mg x C qual st ps) (S : FnScope N ps (defScope st)) (len : ∀ vs H Q E, sp vs H Q E → vs.length = ps.length)
    (hbody : ∀ (f : Addr) (cdv : Value) (A : Around) (outer : List Env) (s : Shared) (H : Hp) (vs : List V) (Q : VK) (E : XK), Room k (A.deeper (envOfC qual (defScope st) s.heap.objs.size f cdv)) → sp vs H Q E →
      ∃ t, PSs (cxOf CX0 P w K mg base N qual (defScope st) f cdv A outer s H E).nox (defBody st) t ∧ t { nx := fun _ H' => Q .non H', rt := Q } (start N vs) H) : Mak P w K mg base CX0 (k + 1) x C sp := by
  obtain ⟨f, fd, M, me, F, b⟩ := D.ex
  exact ⟨⟨f, fd, ps, M, F.ok S len fun cdv A outer s H vs Q E hr h => hbody f cdv A outer s H vs Q E hr h, me, b⟩⟩
end
section
variable {X : Cx} {CX : CXT} {k j : Nat} {C : Addr} {sp : Sp} {E : XK} {x m : Str} {p pos apos : Pos} {e o : Expr} {es : List Expr} {ta : TE} {t : TA}
theorem pe_mt {pl : Sem Bool} (c : Met X.prog X.w X.K X.mg X.base CX k C m sp) (hr : Room j X.A) (hk : k ≤ j) (hx : Passes CX X E) (he : PE X o ta) (ha : PA X (e :: es) t)
    (hst : starEach (e :: es) X.env = (false, eval e X.env) :: starEach es X.env := by rfl) (hpl : (backTo pos (starEach es X.env)).any (·.1) = false := by rfl)
    (ht : eval (.Call (.Attribute o m apos) (e :: es) [] pos) X.env = (do
      let ov ← eval o X.env
      standAt apos.atName
      let (f, first) ← holding [ov] (getMethod ov m pl)
      callWith pos f first (backTo pos (starEach (e :: es) X.env)) (backToKw pos (keywordEach [] X.env))) := by rfl) :
    PE X (.Call (.Attribute o m apos) (e :: es) [] pos) (tMeth C m sp [] E ta t) := by
  obtain ⟨f, fd, ps, cl, me, F, b⟩ := c.ex
  exact pe_meth he cl me F (hr.mono hk) b .nil hx ha hst hpl ht
theorem pe_mt0 {pl : Sem Bool} (c : Met X.prog X.w X.K X.mg X.base CX k C m sp) (hr : Room j X.A) (hk : k ≤ j) (hx : Passes CX X E) (he : PE X o ta)
    (ht : eval (.Call (.Attribute o m apos) [] [] pos) X.env = (do
      let ov ← eval o X.env
      standAt apos.atName
      let (f, first) ← holding [ov] (getMethod ov m pl)
      callWith pos f first (backTo pos (starEach [] X.env)) (backToKw pos (keywordEach [] X.env))) := by rfl) :
    PE X (.Call (.Attribute o m apos) [] [] pos) (tMeth C m sp [] E ta tNil) := by
  obtain ⟨f, fd, ps, cl, me, F, b⟩ := c.ex
  exact pe_meth0 he cl me F (hr.mono hk) b .nil hx ht
theorem pe_c (c : Cal X.prog X.w X.K X.mg X.base CX k x sp) (hr : Room j X.A) (hk : k ≤ j) (hx : Passes CX X E) (hg : Gl X x) (ha : PA X (e :: es) t)
    (hdb : (x == ("__debug__" : Str)) = false := by decide) (he : starEach (e :: es) X.env = (false, eval e X.env) :: starEach es X.env := by rfl) (hpl : (backTo pos (starEach es X.env)).any (·.1) = false := by rfl) :
    PE X (.Call (.Name x p) (e :: es) [] pos) (tCall sp [] E t) := by
  obtain ⟨f, fd, ps, F, hm, hkp, b⟩ := c.ex
  exact pe_call F (hr.mono hk) hg hm hkp b .nil hx ha hdb he hpl
theorem pe_mk (c : Mak X.prog X.w X.K X.mg X.base CX k x C sp) (hr : Room j X.A) (hk : k + 1 ≤ j) (hx : Passes CX X E) (hg : Gl X x) (ha : PA X (e :: es) t)
    (hdb : (x == ("__debug__" : Str)) = false := by decide) (he : starEach (e :: es) X.env = (false, eval e X.env) :: starEach es X.env := by rfl) (hpl : (backTo pos (starEach es X.env)).any (·.1) = false := by rfl) :
    PE X (.Call (.Name x p) (e :: es) [] pos) (tMake C sp [] E t) := by
  obtain ⟨f, fd, ps, M, F, hm, b⟩ := c.ex
  exact pe_make M F (hr.mono hk) hg hm b .nil hx ha hdb he hpl
theorem pe_mk0 (c : Mak X.prog X.w X.K X.mg X.base CX k x C sp) (hr : Room j X.A) (hk : k + 1 ≤ j) (hx : Passes CX X E) (hg : Gl X x)
    (hdb : (x == ("__debug__" : Str)) = false := by decide) : PE X (.Call (.Name x p) [] [] pos) (tMake C sp [] E tNil) := by
  obtain ⟨f, fd, ps, M, F, hm, b⟩ := c.ex
  exact pe_make0 M F (hr.mono hk) hg hm b .nil hx hdb
end

/-! ### the text -/
def topS (i : Nat) : Stmt := PySem.Challenge.pw_unitplans_s01_answers.main.body.getD i (.Pass ⟨0, 0, 0, 0⟩)
/-- the classes' addresses -/
structure Ad where
  Arr : Addr
  Op : Addr
  Lk : Addr
  Wk : Addr
  Pl : Addr
  Rd : Addr
  Dk : Addr
/-- what the top has written of the classes and of the built-ins' names -/
structure Txt (K : PySem.W.Frag) (mg : Str → Option Value) (c : Ad) : Prop where
  arr : Cls K c.Arr
  op : Cls K c.Op
  lk : Cls K c.Lk
  wk : Cls K c.Wk
  pl : Cls K c.Pl
  rd : Cls K c.Rd
  dk : Cls K c.Dk
  arr_works : NoAttr K c.Arr "works"
  arr_many : NoAttr K c.Arr "many"
  arr_rows : NoAttr K c.Arr "rows"
  op_unit : NoAttr K c.Op "unit"
  op_minutes : NoAttr K c.Op "minutes"
  op_release : NoAttr K c.Op "release"
  op_due : NoAttr K c.Op "due"
  lk_first : NoAttr K c.Lk "first"
  lk_second : NoAttr K c.Lk "second"
  lk_least : NoAttr K c.Lk "least"
  lk_most : NoAttr K c.Lk "most"
  wk_gaps : NoAttr K c.Wk "gaps"
  wk_operations : NoAttr K c.Wk "operations"
  wk_links : NoAttr K c.Wk "links"
  wk_fixed : NoAttr K c.Wk "fixed"
  pl_end : NoAttr K c.Pl "end"
  pl_begins : NoAttr K c.Pl "begins"
  pl_orders : NoAttr K c.Pl "orders"
  rd_works : NoAttr K c.Rd "works"
  rd_minute : NoAttr K c.Rd "minute"
  rd_given : NoAttr K c.Rd "given"
  rd_at : NoAttr K c.Rd "at"
  dk_works : NoAttr K c.Dk "works"
  len : mg "len" = none
  range : mg "range" = none
  max : mg "max" = none
  all : mg "all" = none
  list : mg "list" = none
  zip : mg "zip" = none
  enumerate : mg "enumerate" = none
  int : mg "int" = none

/-! ### fields -/
theorem lk_here {k : Str} {v : V} {r : List (Str × V)} : List.lookup k ((k, v) :: r) = some v := by
  have e : (k == k) = true := beq_self_eq_true k
  simp only [List.lookup, e]
theorem lk_past {k g : Str} {v : V} {r : List (Str × V)} (h : (k == g) = false) : List.lookup k ((g, v) :: r) = List.lookup k r := by
  simp only [List.lookup, h]
theorem put_here {f : Str} {v x : V} {r : List (Str × V)} : putF f v ((f, x) :: r) = (f, v) :: r := if_pos rfl
theorem put_past {f g : Str} {v x : V} {r : List (Str × V)} (h : ¬ g = f) : putF f v ((g, x) :: r) = (g, x) :: putF f v r := if_neg h
end Uw
/-! W2: how the works, arrows, lists lie in the heap. -/
namespace Uw
open PySem PySem.Spec PyProof.Rows L2
open Vbwbai (State Op Link)

/-! ### values -/
def ov : Option Int → V
  | none => .non
  | some i => .int i
abbrev nv (n : Nat) : V := .int (n : Int)
/-! ### heaps -/
theorem same_upd {H : Hp} {p : Addr} {o : HO} (h : H p = none) : Same H (upd H p o) := fun b x e => by
  rw [upd_ne (ne_of_none e h)]
  exact e
/-- all stands but what is at R -/
def SB (R : List Addr) (H H' : Hp) : Prop := ∀ b o, b ∉ R → H b = some o → H' b = some o
theorem SB.refl (R : List Addr) (H : Hp) : SB R H H := fun _ _ _ e => e
theorem SB.of {R : List Addr} {H H' : Hp} (s : Same H H') : SB R H H' := fun b o _ e => s b o e
theorem SB.trans {R : List Addr} {H H1 H2 : Hp} (a : SB R H H1) (b : SB R H1 H2) : SB R H H2 := fun c o n e => b c o n (a c o n e)
theorem SB.mono {R R' : List Addr} {H H' : Hp} (a : SB R H H') (h : ∀ b ∈ R, b ∈ R') : SB R' H H' := fun c o n e => a c o (fun z => n (h c z)) e
theorem SB.upd {R : List Addr} {H : Hp} {p : Addr} {o : HO} (h : p ∈ R) : SB R H (upd H p o) := fun b x n e => by
  rw [upd_ne (show b ≠ p from fun z => n (by rw [z]; exact h))]
  exact e
/-- what changed was not known -/
theorem SB.same {R : List Addr} {H0 H H' : Hp} (s : Same H0 H) (a : SB R H H') (h : ∀ b ∈ R, H0 b = none) : Same H0 H' := fun b o e =>
  a b o (fun z => by rw [h b z] at e; cases e) (s b o e)
theorem same_mut {H0 H : Hp} {p : Addr} {o : HO} (s : Same H0 H) (h : H0 p = none) : Same H0 (upd H p o) := fun b x e => by
  rw [upd_ne (ne_of_none e h)]
  exact s b x e
theorem gone {H0 H : Hp} {p : Addr} (s : Same H0 H) (h : H p = none) : H0 p = none := s.free h

/-! ### lists of objects -/
def All2 {α : Type} (R : Addr → α → Prop) (as : List Addr) (xs : List α) : Prop := as.length = xs.length ∧ ∀ (i : Nat) a x, as[i]? = some a → xs[i]? = some x → R a x
section
variable {α : Type} {R R' : Addr → α → Prop} {as : List Addr} {xs : List α}
theorem All2.nil : All2 R [] [] := ⟨rfl, fun i a x h => by simp at h⟩
theorem All2.mono (h : All2 R as xs) (f : ∀ a x, a ∈ as → R a x → R' a x) : All2 R' as xs := ⟨h.1, fun i a x h1 h2 => f a x (List.mem_of_getElem? h1) (h.2 i a x h1 h2)⟩
theorem All2.at (h : All2 R as xs) {i : Nat} {x : α} (e : xs[i]? = some x) : ∃ a, as[i]? = some a ∧ R a x := by
  have hi : i < as.length := by
    rw [h.1]
    exact (List.getElem?_eq_some_iff.mp e).1
  exact ⟨as[i], List.getElem?_eq_getElem hi, h.2 i _ x (List.getElem?_eq_getElem hi) e⟩
theorem All2.at' (h : All2 R as xs) {i : Nat} {a : Addr} (e : as[i]? = some a) : ∃ x, xs[i]? = some x ∧ R a x := by
  have hi : i < xs.length := by
    rw [← h.1]
    exact (List.getElem?_eq_some_iff.mp e).1
  exact ⟨xs[i], List.getElem?_eq_getElem hi, h.2 i a _ e (List.getElem?_eq_getElem hi)⟩
theorem All2.snoc {a : Addr} {x : α} (h : All2 R as xs) (r : R a x) : All2 R (as ++ [a]) (xs ++ [x]) := by
  refine ⟨by simp [h.1], fun i b y h1 h2 => ?_⟩
  have hl := h.1
  rcases Nat.lt_trichotomy i as.length with c | c | c
  · rw [List.getElem?_append_left c] at h1
    rw [List.getElem?_append_left (by omega)] at h2
    exact h.2 i b y h1 h2
  · subst c
    rw [List.getElem?_append_right (Nat.le_refl _), Nat.sub_self] at h1
    rw [hl, List.getElem?_append_right (Nat.le_refl _), Nat.sub_self] at h2
    simp at h1 h2
    subst h1 h2
    exact r
  · rw [List.getElem?_eq_none (by simp; omega)] at h1
    cases h1
theorem All2.app {bs : List Addr} {ys : List α} (h : All2 R as xs) (h' : All2 R bs ys) : All2 R (as ++ bs) (xs ++ ys) := by
  refine ⟨by simp [h.1, h'.1], fun i b y h1 h2 => ?_⟩
  have hl := h.1
  by_cases c : i < as.length
  · rw [List.getElem?_append_left c] at h1
    rw [List.getElem?_append_left (by omega)] at h2
    exact h.2 i b y h1 h2
  · rw [List.getElem?_append_right (by omega)] at h1 h2
    rw [hl] at h1
    exact h'.2 _ b y h1 h2
theorem All2.drop (h : All2 R as xs) (n : Nat) : All2 R (as.drop n) (xs.drop n) := by
  refine ⟨by simp [h.1], fun i b y h1 h2 => ?_⟩
  rw [List.getElem?_drop] at h1 h2
  exact h.2 _ b y h1 h2
theorem All2.erase (h : All2 R as xs) (n : Nat) : All2 R (as.eraseIdx n) (xs.eraseIdx n) := by
  refine ⟨by rw [List.length_eraseIdx, List.length_eraseIdx, h.1], fun i b y h1 h2 => ?_⟩
  rw [List.getElem?_eraseIdx] at h1 h2
  split at h1
  · rename_i c
    rw [if_pos c] at h2
    exact h.2 _ b y h1 h2
  · rename_i c
    rw [if_neg c] at h2
    exact h.2 _ b y h1 h2
end
/-- the refs -/
abbrev rf (as : List Addr) : List V := as.map V.ref
theorem rf_get {as : List Addr} {i : Nat} {a : Addr} (h : as[i]? = some a) : (rf as)[i]? = some (.ref a) := by
  unfold rf
  rw [List.getElem?_map, h]
  rfl
theorem rf_get' {as : List Addr} {i : Nat} {v : V} (h : (rf as)[i]? = some v) : ∃ a, as[i]? = some a ∧ v = .ref a := by
  unfold rf at h
  rw [List.getElem?_map] at h
  cases e : as[i]? with
  | none => rw [e] at h; cases h
  | some a => rw [e] at h; exact ⟨a, rfl, (Option.some.inj h).symm⟩
theorem int_get {ns : List Int} {i : Nat} {v : V} (h : (ns.map V.int)[i]? = some v) : ∃ z, ns[i]? = some z ∧ v = .int z := by
  rw [List.getElem?_map] at h
  cases e : ns[i]? with
  | none => rw [e] at h; cases h
  | some a => rw [e] at h; exact ⟨a, rfl, (Option.some.inj h).symm⟩
theorem map_get {α β : Type} {f : α → β} {xs : List α} {i : Nat} {x : α} (h : xs[i]? = some x) : (xs.map f)[i]? = some (f x) := by
  rw [List.getElem?_map, h]
  rfl
theorem map_get' {α β : Type} {f : α → β} {xs : List α} {i : Nat} {v : β} (h : (xs.map f)[i]? = some v) : ∃ z, xs[i]? = some z ∧ v = f z := by
  rw [List.getElem?_map] at h
  cases e : xs[i]? with
  | none => rw [e] at h; cases h
  | some a => rw [e] at h; exact ⟨a, rfl, (Option.some.inj h).symm⟩

/-! ### pairs, operations, links -/
abbrev pairV (p : Nat × Nat) : List V := [nv p.1, nv p.2]
def PairAt (H : Hp) (a : Addr) (p : Nat × Nat) : Prop := H a = some (.tup (pairV p))
def PairsAt (H : Hp) (a : Addr) (ps : List (Nat × Nat)) : Prop := ∃ as, H a = some (.lst (rf as)) ∧ All2 (PairAt H) as ps
theorem PairsAt.same {H H' : Hp} {a : Addr} {ps : List (Nat × Nat)} (h : PairsAt H a ps) (s : Same H H') : PairsAt H' a ps := by
  obtain ⟨as, e, x⟩ := h
  exact ⟨as, s _ _ e, x.mono fun a p _ r => s _ _ r⟩
def dueI : Option Nat → Int
  | none => -1
  | some d => d
def opF (o : Op) : List (Str × V) := [("unit", nv o.unit), ("minutes", nv o.long), ("release", nv o.release), ("due", .int (dueI o.due))]
def OpAt (c : Ad) (H : Hp) (a : Addr) (o : Op) : Prop := ∃ dx, H a = some (.ins c.Op dx (opF o))
def lkF (l : Link) : List (Str × V) := [("first", nv l.i), ("second", nv l.j), ("least", .int l.least), ("most", ov l.most)]
def LkAt (c : Ad) (H : Hp) (a : Addr) (l : Link) : Prop := ∃ dx, H a = some (.ins c.Lk dx (lkF l))
theorem opF_unit (o : Op) : (opF o).lookup ("unit" : Str) = some (nv o.unit) := lk_here
theorem opF_minutes (o : Op) : (opF o).lookup ("minutes" : Str) = some (nv o.long) := (lk_past (by decide +kernel)).trans lk_here
theorem opF_release (o : Op) : (opF o).lookup ("release" : Str) = some (nv o.release) := (lk_past (by decide +kernel)).trans ((lk_past (by decide +kernel)).trans lk_here)
theorem opF_due (o : Op) : (opF o).lookup ("due" : Str) = some (.int (dueI o.due)) := (lk_past (by decide +kernel)).trans ((lk_past (by decide +kernel)).trans ((lk_past (by decide +kernel)).trans lk_here))
theorem lkF_first (l : Link) : (lkF l).lookup ("first" : Str) = some (nv l.i) := lk_here
theorem lkF_second (l : Link) : (lkF l).lookup ("second" : Str) = some (nv l.j) := (lk_past (by decide +kernel)).trans lk_here
theorem lkF_least (l : Link) : (lkF l).lookup ("least" : Str) = some (.int l.least) := (lk_past (by decide +kernel)).trans ((lk_past (by decide +kernel)).trans lk_here)
theorem lkF_most (l : Link) : (lkF l).lookup ("most" : Str) = some (ov l.most) := (lk_past (by decide +kernel)).trans ((lk_past (by decide +kernel)).trans ((lk_past (by decide +kernel)).trans lk_here))

/-! ### the works: at a; its lists at g, o, l, f -/
def wkF (g o l f : Addr) : List (Str × V) := [("gaps", .ref g), ("operations", .ref o), ("links", .ref l), ("fixed", .ref f)]
theorem wkF_gaps (g o l f : Addr) : (wkF g o l f).lookup ("gaps" : Str) = some (.ref g) := lk_here
theorem wkF_operations (g o l f : Addr) : (wkF g o l f).lookup ("operations" : Str) = some (.ref o) := (lk_past (by decide +kernel)).trans lk_here
theorem wkF_links (g o l f : Addr) : (wkF g o l f).lookup ("links" : Str) = some (.ref l) := (lk_past (by decide +kernel)).trans ((lk_past (by decide +kernel)).trans lk_here)
theorem wkF_fixed (g o l f : Addr) : (wkF g o l f).lookup ("fixed" : Str) = some (.ref f) := (lk_past (by decide +kernel)).trans ((lk_past (by decide +kernel)).trans ((lk_past (by decide +kernel)).trans lk_here))
theorem wkF_no (g o l f : Addr) {m : Str} (h1 : (m == ("gaps" : Str)) = false) (h2 : (m == ("operations" : Str)) = false) (h3 : (m == ("links" : Str)) = false) (h4 : (m == ("fixed" : Str)) = false) : (wkF g o l f).lookup m = none :=
  (lk_past h1).trans ((lk_past h2).trans ((lk_past h3).trans ((lk_past h4).trans rfl)))
structure WkAt (c : Ad) (H : Hp) (a dx g o l f : Addr) (os ls fs : List Addr) (s : State) : Prop where
  me : H a = some (.ins c.Wk dx (wkF g o l f))
  gaps : H g = some (.lst (s.gaps.map fun n => nv n))
  ops : H o = some (.lst (rf os))
  opA : All2 (OpAt c H) os s.ops
  links : H l = some (.lst (rf ls))
  lkA : All2 (LkAt c H) ls s.links
  fixed : H f = some (.lst (rf fs))
  fxA : All2 (PairAt H) fs s.fixed
/-- what of it may be written -/
def WorksR (c : Ad) (H : Hp) (a : Addr) (s : State) (R : List Addr) : Prop := ∃ dx g o l f os ls fs, WkAt c H a dx g o l f os ls fs s ∧ R = [o, l, f, g] ∧ o ≠ l ∧ o ≠ f ∧ l ≠ f ∧ g ∉ [o, l, f]
/-- to be read -/
def WorksAt (c : Ad) (H : Hp) (a : Addr) (s : State) : Prop := ∃ dx g o l f os ls fs, WkAt c H a dx g o l f os ls fs s
theorem WkAt.same {c : Ad} {H H' : Hp} {a dx g o l f : Addr} {os ls fs : List Addr} {s : State} (h : WkAt c H a dx g o l f os ls fs s) (e : Same H H') : WkAt c H' a dx g o l f os ls fs s where
  me := e _ _ h.me
  gaps := e _ _ h.gaps
  ops := e _ _ h.ops
  opA := h.opA.mono fun a o _ ⟨d, r⟩ => ⟨d, e _ _ r⟩
  links := e _ _ h.links
  lkA := h.lkA.mono fun a o _ ⟨d, r⟩ => ⟨d, e _ _ r⟩
  fixed := e _ _ h.fixed
  fxA := h.fxA.mono fun a o _ r => e _ _ r
theorem WorksAt.same {c : Ad} {H H' : Hp} {a : Addr} {s : State} (h : WorksAt c H a s) (e : Same H H') : WorksAt c H' a s := by
  obtain ⟨dx, g, o, l, f, os, ls, fs, h⟩ := h
  exact ⟨dx, g, o, l, f, os, ls, fs, h.same e⟩
theorem WorksR.at {c : Ad} {H : Hp} {a : Addr} {s : State} {R : List Addr} (h : WorksR c H a s R) : WorksAt c H a s := by
  obtain ⟨dx, g, o, l, f, os, ls, fs, h, _⟩ := h
  exact ⟨dx, g, o, l, f, os, ls, fs, h⟩
theorem WorksR.same {c : Ad} {H H' : Hp} {a : Addr} {s : State} {R : List Addr} (h : WorksR c H a s R) (e : Same H H') : WorksR c H' a s R := by
  obtain ⟨dx, g, o, l, f, os, ls, fs, h, q⟩ := h
  exact ⟨dx, g, o, l, f, os, ls, fs, h.same e, q⟩
theorem opAt_get {s : State} {i : Nat} (h0 : 0 < i) (h1 : i < Vbwbai.size s + 1) : s.ops[i - 1]? = some (Vbwbai.opAt s i) := by
  unfold Vbwbai.opAt Vbwbai.size at *
  rw [List.getD_eq_getElem?_getD, List.getElem?_eq_getElem (by omega)]
  rfl

/-! ### arrows: N nodes, the numbers m, the rows at rs -/
abbrev row (N : Nat) (f : Nat → Option Int) : List V := ((List.range N).map f).map ov
theorem row_get {N : Nat} {f : Nat → Option Int} {i : Nat} (h : i < N) : (row N f)[i]? = some (ov (f i)) := by
  unfold row
  rw [List.getElem?_map, List.getElem?_map, List.getElem?_range h]
  rfl
theorem row_len {N : Nat} {f : Nat → Option Int} : (row N f).length = N := by simp [row]
theorem row_congr {N : Nat} {f g : Nat → Option Int} (h : ∀ i, i < N → f i = g i) : row N f = row N g := by
  unfold row
  congr 1
  exact List.map_congr_left fun i hi => h i (List.mem_range.mp hi)
def arF (w : Addr) (N : Nat) (r : Addr) : List (Str × V) := [("works", .ref w), ("many", nv N), ("rows", .ref r)]
theorem arF_works (w : Addr) (N : Nat) (r : Addr) : (arF w N r).lookup ("works" : Str) = some (.ref w) := lk_here
theorem arF_many (w : Addr) (N : Nat) (r : Addr) : (arF w N r).lookup ("many" : Str) = some (nv N) := (lk_past (by decide +kernel)).trans lk_here
theorem arF_rows (w : Addr) (N : Nat) (r : Addr) : (arF w N r).lookup ("rows" : Str) = some (.ref r) := (lk_past (by decide +kernel)).trans ((lk_past (by decide +kernel)).trans lk_here)
theorem arF_no (w : Addr) (N : Nat) (r : Addr) {m : Str} (h1 : (m == ("works" : Str)) = false) (h2 : (m == ("many" : Str)) = false) (h3 : (m == ("rows" : Str)) = false) : (arF w N r).lookup m = none :=
  (lk_past h1).trans ((lk_past h2).trans ((lk_past h3).trans rfl))
structure ArrAt (c : Ad) (H : Hp) (a dx w r : Addr) (rs : List Addr) (N : Nat) (m : Up.Wt) : Prop where
  me : H a = some (.ins c.Arr dx (arF w N r))
  rows : H r = some (.lst (rf rs))
  nd : rs.Nodup
  len : rs.length = N
  row : ∀ i p, rs[i]? = some p → H p = some (.lst (row N (m i)))
theorem ArrAt.same {c : Ad} {H H' : Hp} {a dx w r : Addr} {rs : List Addr} {N : Nat} {m : Up.Wt} (h : ArrAt c H a dx w r rs N m) (e : Same H H') : ArrAt c H' a dx w r rs N m :=
  ⟨e _ _ h.me, e _ _ h.rows, h.nd, h.len, fun i p q => e _ _ (h.row i p q)⟩
theorem ArrAt.congr {c : Ad} {H : Hp} {a dx w r : Addr} {rs : List Addr} {N : Nat} {m m' : Up.Wt} (h : ArrAt c H a dx w r rs N m) (e : ∀ i j, i < N → j < N → m i j = m' i j) : ArrAt c H a dx w r rs N m' :=
  ⟨h.me, h.rows, h.nd, h.len, fun i p q => by
    have hi : i < N := h.len ▸ (List.getElem?_eq_some_iff.mp q).1
    rw [h.row i p q, row_congr fun j hj => e i j hi hj]⟩
theorem ArrAt.at {c : Ad} {H : Hp} {a dx w r : Addr} {rs : List Addr} {N : Nat} {m : Up.Wt} (h : ArrAt c H a dx w r rs N m) {i : Nat} (hi : i < N) : ∃ p, rs[i]? = some p ∧ H p = some (.lst (Uw.row N (m i))) := by
  have hi' : i < rs.length := by rw [h.len]; exact hi
  exact ⟨rs[i], List.getElem?_eq_getElem hi', h.row i _ (List.getElem?_eq_getElem hi')⟩
theorem few {n : Nat} (h : n ≤ 100000) : n ≤ sizeLine := Evl.sz_of h
theorem few' {n : Nat} (h : n < 100000) : n < sizeLine := Evl.sz_lt h
end Uw
/-! WE: more words over Evl: fields, methods, general results, zip, enumerate. -/
namespace Uw
open PySem PySem.Spec PyProof.Rows L2 Evl

/-- te comes to a value with P of it and of the heap behind -/
def EvP (te : TE) (σ : L2.St) (H : Hp) (P : V → Hp → Prop) : Prop := ∀ H1, Ex H H1 → ∀ Q : VK, (∀ v H2, Ex H1 H2 → P v H2 → Q v H2) → te σ H1 Q
/-- a promise kept in that way -/
def SpP (sp : Sp) (vs : List V) (H : Hp) (P : V → Hp → Prop) : Prop := ∀ H1, Ex H H1 → ∀ Q : VK, (∀ v H2, Ex H1 H2 → P v H2 → Q v H2) → ∀ E : XK, sp vs H1 Q E
/-- arguments with P of them -/
def EvAP (ta : TA) (σ : L2.St) (H : Hp) (P : List V → Hp → Prop) : Prop := ∀ H1, Ex H H1 → ∀ Q : List V → Hp → Prop, (∀ vs H2, Ex H1 H2 → P vs H2 → Q vs H2) → ta σ H1 Q
/-- a list of xs, new over H; a tuple -/
def NewL (H : Hp) (xs : List V) : V → Hp → Prop := fun v H2 => ∃ p, v = .ref p ∧ H p = none ∧ H2 p = some (.lst xs)
def NewU (H : Hp) (xs : List V) : V → Hp → Prop := fun v H2 => ∃ p, v = .ref p ∧ H p = none ∧ H2 p = some (.tup xs)
theorem NewL.mono {H H1 H2 : Hp} {xs : List V} {v : V} (h : NewL H1 xs v H2) (e : Ex H H1) : NewL H xs v H2 := by
  obtain ⟨p, e1, n, hp⟩ := h
  exact ⟨p, e1, fresh_back e n, hp⟩
/-- what is promised: a new list -/
def RL (xs : List V) (H : Hp) (Q : VK) : Prop := ∀ p H', Ex H H' → H p = none → H' p = some (.lst xs) → Q (.ref p) H'
/-- a value -/
def RV' (v : V) (H : Hp) (Q : VK) : Prop := ∀ H', Ex H H' → Q v H'
section
variable {K : PySem.W.Frag} {σ : L2.St} {H H' : Hp} {ta tb te tx : TE} {t u : TT} {x y z v : V} {r : R2} {P P' : V → Hp → Prop} {a C dx : Addr} {fs : List (Str × V)} {f m : Str} {sp : Sp} {E : XK} {tA : TA} {vs : List V}
theorem EvP.mono (e : Ex H H') (h : EvP te σ H P) : EvP te σ H' P := fun H1 e1 Q q => h H1 (e.trans e1) Q q
theorem EvP.imp (h : EvP te σ H P) (i : ∀ v H2, Ex H H2 → P v H2 → P' v H2) : EvP te σ H P' := fun H1 e1 Q q => h H1 e1 Q fun v H2 e2 p => q v H2 e2 (i v H2 (e1.trans e2) p)
theorem ep_val (h : Ev te σ H v) : EvP te σ H (fun x _ => x = v) := fun H1 e1 Q q => h H1 e1 Q fun H2 e2 => q v H2 e2 rfl
theorem ev_ep (h : EvP te σ H (fun x _ => x = v)) : Ev te σ H v := fun H1 e1 Q q => h H1 e1 Q fun x H2 e2 p => by subst p; exact q H2 e2
theorem ep_L {xs : List V} (h : EvL te σ H xs) : EvP te σ H (NewL H xs) := fun H1 e1 Q q => h H1 e1 Q fun p H2 n e2 hp => q _ H2 e2 ⟨p, rfl, fresh_back e1 n, hp⟩
theorem ep_U {xs : List V} (h : EvU te σ H xs) : EvP te σ H (NewU H xs) := fun H1 e1 Q q => h H1 e1 Q fun p H2 n e2 hp => q _ H2 e2 ⟨p, rfl, fresh_back e1 n, hp⟩
/-- e.f -/
theorem ev_fld (h : Ev ta σ H (.ref a)) (ho : H a = some (.ins C dx fs)) (cl : Cls K C) (n : NoAttr K C f) (l : fs.lookup f = some v) : Ev (tFld K ta f) σ H v := fun H1 e1 Q q =>
  h H1 e1 _ fun H2 e2 => ⟨a, C, dx, fs, v, rfl, e2 _ _ (e1 _ _ ho), cl, n, l, q H2 e2⟩
/-- e.f, e an instance found on the way -/
theorem ev_fldP (h : EvP ta σ H P) (k : ∀ x H2, Ex H H2 → P x H2 → ∃ a C dx fs, x = .ref a ∧ H2 a = some (.ins C dx fs) ∧ Cls K C ∧ NoAttr K C f ∧ fs.lookup f = some v) : Ev (tFld K ta f) σ H v := fun H1 e1 Q q =>
  h H1 e1 _ fun x H2 e2 p => by
    obtain ⟨a, C, dx, fs, rfl, ho, cl, n, l⟩ := k x H2 (e1.trans e2) p
    exact ⟨a, C, dx, fs, v, rfl, ho, cl, n, l, q H2 e2⟩
theorem SpP.mono (e : Ex H H') (h : SpP sp vs H P) : SpP sp vs H' P := fun H1 e1 Q q E => h H1 (e.trans e1) Q q E
/-- o.m(..) -/
theorem ep_meth (h : Ev ta σ H (.ref a)) (ho : H a = some (.ins C dx fs)) (n : fs.lookup m = none) (hA : EvA tA σ H vs) (hs : SpP sp (.ref a :: vs) H P) : EvP (tMeth C m sp [] E ta tA) σ H P := fun H1 e1 Q q =>
  h H1 e1 _ fun H2 e2 => ⟨a, dx, fs, rfl, e2 _ _ (e1 _ _ ho), n, hA H2 (e1.trans e2) _ fun H3 e3 => by
    rw [List.append_nil]
    exact hs H3 ((e1.trans e2).trans e3) Q (fun v H4 e4 p => q v H4 ((e2.trans e3).trans e4) p) E⟩
theorem ev_meth (h : Ev ta σ H (.ref a)) (ho : H a = some (.ins C dx fs)) (n : fs.lookup m = none) (hA : EvA tA σ H vs) (hs : SpV sp (.ref a :: vs) H z) : Ev (tMeth C m sp [] E ta tA) σ H z :=
  ev_ep (ep_meth h ho n hA fun H1 e1 Q q E => hs H1 e1 Q (fun H2 e2 => q z H2 e2 rfl) E)
/-- .. with arguments of a kind -/
theorem ep_methA {PA : List V → Hp → Prop} (h : Ev ta σ H (.ref a)) (ho : H a = some (.ins C dx fs)) (n : fs.lookup m = none) (hA : EvAP tA σ H PA) (hs : ∀ vs H2, Ex H H2 → PA vs H2 → SpP sp (.ref a :: vs) H2 P) : EvP (tMeth C m sp [] E ta tA) σ H P := fun H1 e1 Q q =>
  h H1 e1 _ fun H2 e2 => ⟨a, dx, fs, rfl, e2 _ _ (e1 _ _ ho), n, hA H2 (e1.trans e2) _ fun vs H3 e3 pa => by
    rw [List.append_nil]
    exact hs vs H3 ((e1.trans e2).trans e3) pa H3 (Ex.refl _) Q (fun v H4 e4 p => q v H4 ((e2.trans e3).trans e4) p) E⟩
theorem ep_call (hA : EvA tA σ H vs) (hs : SpP sp vs H P) : EvP (tCall sp [] E tA) σ H P := fun H1 e1 Q q =>
  hA H1 e1 _ fun H3 e3 => by
    rw [List.append_nil]
    exact hs H3 (e1.trans e3) Q (fun v H4 e4 p => q v H4 (e3.trans e4) p) E
theorem ev_call' (hA : EvA tA σ H vs) (hs : SpV sp vs H z) : Ev (tCall sp [] E tA) σ H z := ev_ep (ep_call hA fun H1 e1 Q q E => hs H1 e1 Q (fun H2 e2 => q z H2 e2 rfl) E)
theorem ep_callA {PA : List V → Hp → Prop} (hA : EvAP tA σ H PA) (hs : ∀ vs H2, Ex H H2 → PA vs H2 → SpP sp vs H2 P) : EvP (tCall sp [] E tA) σ H P := fun H1 e1 Q q =>
  hA H1 e1 _ fun vs H3 e3 pa => by
    rw [List.append_nil]
    exact hs vs H3 (e1.trans e3) pa H3 (Ex.refl _) Q (fun v H4 e4 p => q v H4 (e3.trans e4) p) E
/-- an operator on what is found -/
theorem ep_op {Pa Pb : V → Hp → Prop} (ha : EvP ta σ H Pa) (hb : EvP tb σ H Pb) (hr : ∀ x y H1 H2, Ex H H1 → Ex H1 H2 → Pa x H1 → Pb y H2 → ∀ Q : VK, (∀ v H3, Ex H2 H3 → P v H3 → Q v H3) → r x y H2 Q) : EvP (tOp r ta tb) σ H P := fun H1 e1 Q q =>
  ha H1 e1 _ fun x H2 e2 pa => hb H2 (e1.trans e2) _ fun y H3 e3 pb => hr x y H2 H3 (e1.trans e2) e3 pa pb Q fun v H4 e4 p => q v H4 ((e2.trans e3).trans e4) p
/-- a + b of two lists -/
theorem ep_cat {xs ys : List V} {Pa Pb : V → Hp → Prop} (ha : EvP ta σ H Pa) (hb : EvP tb σ H Pb) (ka : ∀ x H1, Ex H H1 → Pa x H1 → ∃ p, x = .ref p ∧ H1 p = some (.lst xs)) (kb : ∀ x H1, Ex H H1 → Pb x H1 → ∃ p, x = .ref p ∧ H1 p = some (.lst ys)) (hl : xs.length + ys.length ≤ sizeLine) :
    EvP (tOp rCat ta tb) σ H (NewL H (xs ++ ys)) := ep_op ha hb fun x y H1 H2 e1 e2 pa pb Q q => by
  obtain ⟨p, rfl, hp⟩ := ka x H1 e1 pa
  obtain ⟨p', rfl, hp'⟩ := kb y H2 (e1.trans e2) pb
  exact ⟨p, p', xs, ys, rfl, rfl, e2 _ _ hp, hp', hl, fun n hn => q _ _ (Ex.new hn) ⟨n, rfl, fresh_back (e1.trans e2) hn, upd_same⟩⟩
theorem newL_is {H H1 : Hp} {xs : List V} {x : V} (h : NewL H xs x H1) : ∃ p, x = .ref p ∧ H1 p = some (.lst xs) := by
  obtain ⟨p, e, _, hp⟩ := h
  exact ⟨p, e, hp⟩
theorem val_is {H H1 : Hp} {xs : List V} {x : V} {p : Addr} (hp : H p = some (.lst xs)) (e : Ex H H1) (h : x = .ref p) : ∃ p, x = .ref p ∧ H1 p = some (.lst xs) := ⟨p, h, e _ _ hp⟩
/-! tests -/
theorem et_isN (h : Ev ta σ H x) : EvT (tB (tIsN ta)) σ H (decide (x = .non)) := fun H1 e1 Q q => h H1 e1 _ fun H2 e2 => ⟨_, rfl, q H2 e2⟩
theorem et_notN (h : Ev ta σ H x) : EvT (tB (tNotN ta)) σ H (!decide (x = .non)) := fun H1 e1 Q q => h H1 e1 _ fun H2 e2 => ⟨_, rfl, q H2 e2⟩
theorem ev_isN (h : Ev ta σ H x) : Ev (tIsN ta) σ H (.bl (decide (x = .non))) := fun H1 e1 Q q => h H1 e1 _ fun H2 e2 => q H2 e2
/-- a op b op' c of ints -/
theorem ev_chain {g g' : Int → Int → Bool} {i j k : Int} {tc : TE} (ha : Ev ta σ H (.int i)) (hb : Ev tb σ H (.int j)) (hc : Ev tc σ H (.int k)) : Ev (tChain (rI0 fun i j => .bl (g i j)) (rI0 fun i j => .bl (g' i j)) ta tb tc) σ H (.bl (g i j && g' j k)) := fun H1 e1 Q q =>
  ha H1 e1 _ fun H2 e2 => hb H2 (e1.trans e2) _ fun H3 e3 => ⟨i, j, rfl, rfl, _, rfl, by
    cases h : g i j with
    | true =>
      rw [if_pos rfl]
      exact hc H3 ((e1.trans e2).trans e3) _ fun H4 e4 => ⟨j, k, rfl, rfl, by
        have := q H4 ((e2.trans e3).trans e4)
        rw [h, Bool.true_and] at this
        exact this⟩
    | false =>
      rw [if_neg Bool.false_ne_true]
      have := q H3 (e2.trans e3)
      rw [h, Bool.false_and] at this
      exact this⟩
theorem ev_lenL {p : Addr} {xs : List V} (ha : Ev ta σ H (.ref p)) (h : H p = some (.lst xs)) : Ev (tCB (rLen K) (tCons ta tNil)) σ H (.int (xs.length : Int)) := ev_len ha (.of h)
theorem ev_lenS {p : Addr} {xs : List V} (ha : Ev ta σ H (.ref p)) (h : SqL K H p xs) : Ev (tCB (rLen K) (tCons ta tNil)) σ H (.int (xs.length : Int)) := ev_len ha h
/-! statements -/
variable {D : Ends} {tu tw tz : TS} {g : TG}
theorem s_asgP {i : Nat} (h : EvP te σ H P) (k : ∀ v H1, Ex H H1 → P v H1 → D.nx (σ.set i (some v)) H1) : tAsg te (gName i) D σ H := h H (Ex.refl _) _ fun v H2 e2 p => k v H2 e2 p
theorem q_asgP {i : Nat} (h : EvP te σ H P) (k : ∀ v H1, Ex H H1 → P v H1 → tz D (σ.set i (some v)) H1) : tSeq (tAsg te (gName i)) tz D σ H := h H (Ex.refl _) _ fun v H2 e2 p => k v H2 e2 p
theorem s_retP (h : EvP te σ H P) (k : ∀ v H1, Ex H H1 → P v H1 → D.rt v H1) : tRet te D σ H := h H (Ex.refl _) _ fun v H2 e2 p => k v H2 e2 p
theorem s_dropP (h : EvP te σ H P) (k : ∀ v H1, Ex H H1 → P v H1 → D.nx σ H1) : tDrop te D σ H := h H (Ex.refl _) _ fun v H2 e2 p => k v H2 e2 p
theorem q_dropP (h : EvP te σ H P) (k : ∀ v H1, Ex H H1 → P v H1 → tz D σ H1) : tSeq (tDrop te) tz D σ H := h H (Ex.refl _) _ fun v H2 e2 p => k v H2 e2 p
theorem s_if' {b : Bool} (h : EvT t σ H b) (h1 : b = true → ∀ H1, Ex H H1 → tu D σ H1) (h2 : b = false → ∀ H1, Ex H H1 → tw D σ H1) : tIfS t tu tw D σ H := s_if h h1 h2
/-- self.f = e -/
theorem s_fld (hv : Ev tb σ H v) (h : Ev ta σ H (.ref a)) (ho : H a = some (.ins C dx fs)) (cl : Cls K C) (n : NoAttr K C f) (l : fs.length < 1000) (k : ∀ H1, Ex H H1 → D.nx σ (upd H1 a (.ins C dx (putF f v fs)))) : sFld K ta tb f D σ H :=
  hv H (Ex.refl _) _ fun H1 e1 => h H1 e1 _ fun H2 e2 => ⟨a, C, dx, fs, rfl, e2 _ _ (e1 _ _ ho), cl, n, l, k H2 (e1.trans e2)⟩
end
end Uw
/-! W3: put; the works' small methods. -/
namespace Uw
open PySem PySem.Spec PyProof.Rows L2 Evl
open Vbwbai (State Op Link size opAt)

theorem ov_ref {o : Option Int} {a : Addr} : ov o ≠ .ref a := by cases o <;> (intro h; cases h)
/-- a list of refs and a row stand apart -/
theorem ne_row {H : Hp} {r p : Addr} {rs : List Addr} {N i : Nat} {f : Nat → Option Int} {q : Addr} (h1 : H r = some (.lst (rf rs))) (h2 : H p = some (.lst (row N f))) (hi : rs[i]? = some q) : r ≠ p := by
  refine ne_of h1 h2 fun z => ?_
  have z' := HO.lst.inj z
  have g1 := rf_get hi
  rw [z'] at g1
  obtain ⟨o, _, e⟩ := map_get' g1
  exact ov_ref e.symm
theorem set_row {N : Nat} {f g : Nat → Option Int} {j : Nat} (hj : j < N) (h : ∀ i, i < N → i ≠ j → f i = g i) : (row N f).set j (ov (g j)) = row N g := by
  apply List.ext_getElem?
  intro i
  by_cases hi : i < N
  · rw [row_get hi]
    by_cases e : i = j
    · subst e
      rw [List.getElem?_set_self (by rw [row_len]; exact hi)]
    · rw [List.getElem?_set_ne (Ne.symm e), row_get hi, h i hi e]
  · rw [List.getElem?_eq_none (by rw [List.length_set, row_len]; omega), List.getElem?_eq_none (by rw [row_len]; omega)]
section
variable {P : Program} {w : World} {K : PySem.W.Frag} {mg : Str → Option Value} {base : Heap} {c : Ad}

/-! ### put -/
def putW (m : Up.Wt) (a b : Nat) (x : Int) : Up.Wt := fun i j => if i = a ∧ j = b then Vbwbai.more (m i j) (some x) else m i j
def spPut (c : Ad) : Sp := fun vs H Q _ => ∃ (a dx w r : Addr) (rs : List Addr) (N : Nat) (m : Up.Wt) (i j : Nat) (x : Int), vs = [.ref a, nv i, nv j, .int x] ∧ ArrAt c H a dx w r rs N m ∧ i < N ∧ j < N ∧
  ∀ H', SB rs H H' → ArrAt c H' a dx w r rs N (putW m i j x) → Q .non H'
theorem put_arr {H H1 : Hp} {a dx w r p : Addr} {rs : List Addr} {N : Nat} {m : Up.Wt} {i j : Nat} {x : Int} (h : ArrAt c H a dx w r rs N m) (e1 : Ex H H1) (hi : i < N) (hj : j < N) (hp : rs[i]? = some p) (v : Option Int) (hv : Vbwbai.more (m i j) (some x) = v) :
    SB rs H (upd H1 p (.lst ((row N (m i)).set j (ov v)))) ∧ ArrAt c (upd H1 p (.lst ((row N (m i)).set j (ov v)))) a dx w r rs N (putW m i j x) := by
  have h := h.same e1
  have hrow := h.row i p hp
  have np : a ≠ p := ne_of h.me hrow (by intro z; cases z)
  have nr : r ≠ p := ne_row h.rows hrow hp
  refine ⟨(SB.of e1).trans (SB.upd (List.mem_of_getElem? hp)), by rw [upd_ne np]; exact h.me, by rw [upd_ne nr]; exact h.rows, h.nd, h.len, fun k q hq => ?_⟩
  by_cases e : q = p
  · subst e
    have : k = i := nd_ix h.nd hq hp
    subst this
    rw [upd_same, show v = putW m k j x k j by rw [← hv]; exact (if_pos ⟨rfl, rfl⟩).symm, set_row (g := putW m k j x k) hj fun i _ hn => (if_neg fun z => hn z.2).symm]
  · have hk : k ≠ i := fun z => e (by subst z; rw [hp] at hq; exact (Option.some.inj hq).symm)
    rw [upd_ne e, h.row k q hq, row_congr (g := putW m i j x k) fun l _ => (if_neg fun z => hk z.1).symm]
theorem put_same {m : Up.Wt} {i j : Nat} {x y : Int} (e : m i j = some y) (h : ¬ y < x) : ∀ k l, m k l = putW m i j x k l := by
  intro k l
  unfold putW
  by_cases c : k = i ∧ l = j
  · obtain ⟨rfl, rfl⟩ := c
    rw [if_pos ⟨rfl, rfl⟩, e]
    show some y = some (max y x)
    congr 1
    omega
  · rw [if_neg c]
/-- the program's question: is there none, or a lesser one -/
def putTest (o : Option Int) (x : Int) : Bool := match o with
  | none => true
  | some y => decide (y < x)
abbrev s_Arr_put : Stmt := inClass (topS 1) 1
theorem sc_Arr_put : FnScope ["self", "first", "second", "length", "old"] ["self", "first", "second", "length"] (defScope s_Arr_put) := ⟨rfl, rfl, rfl, by decide +kernel, rfl, by decide +kernel, by decide +kernel⟩
theorem ok_put (T : Txt K mg c) (D : DefM K c.Arr "put" "Arrows.put" s_Arr_put ["self", "first", "second", "length"]) : Met P w K mg base CX0 1 c.Arr "put" (spPut c) := by
  refine met0 D T.arr sc_Arr_put (fun vs H Q E h => ?_) (fun f cdv A outer s H vs Q E hr h => ?_)
  · obtain ⟨a, dx, w, r, rs, N, m, i, j, x, rfl, _⟩ := h
    rfl
  · obtain ⟨a, dx, w, r, rs, N, m, i, j, x, rfl, h, hi, hj, q⟩ := h
    obtain ⟨p, hp, hrow⟩ := h.at hi
    refine ⟨_, (pss_cons (ps_set (i := 4) sc_Arr_put.nd rfl (.inl rfl) (pe_ix (ixL (K := K) rfl) (pe_ix (ixL (K := K) rfl) (pe_f (K := K) rfl (pv 0) rfl) (pv 1) (fun _ _ => rfl)) (pv 2) (fun _ _ => rfl))) (pss_one (ps_if (PW.pt (pw_or (pt_cmp (pc_isN (pv 4))) (pw_or1 (pt_cmpR op_lt (pv 4) (pv 3) (nomark _))))) (pss_one (ps_asg (pv 3) (pg_sub (pe_ix (ixL (K := K) rfl) (pe_f (K := K) rfl (pv 0) rfl) (pv 1) (fun _ _ => rfl)) (pv 2) set_list))) pss_nil))), ?_⟩
    refine q_asg (v := ov (m i j)) (ev_op (ev_op (ev_fld (ev_var rfl) h.me T.arr T.arr_rows (arF_rows ..)) (ev_var rfl) (rv_ixL (.of h.rows) (atI_nat (rf_get hp)))) (ev_var rfl) (rv_ixL (.of hrow) (atI_nat (row_get hj)))) fun H1 e1 => ?_
    have h := h.same e1
    refine s_when (b := putTest (m i j) x) ?_ (fun hb H2 e2 => ?_) (fun hb H2 e2 => ?_)
    · cases e : m i j with
      | none => exact et_or (a := true) (b := true) (et_isN (ev_var (v := .non) rfl)) fun z => nomatch z
      | some y => exact et_or (a := false) (b := decide (y < x)) (et_isN (ev_var (v := .int y) rfl)) fun _ => et_test (ev_op (ev_var (v := .int y) rfl) (ev_var rfl) rv_I0)
    · have hm : Vbwbai.more (m i j) (some x) = some x := by
        cases e : m i j with
        | none => rfl
        | some y =>
          rw [e] at hb
          show some (max y x) = some x
          congr 1
          have : y < x := of_decide_eq_true hb
          omega
      have hh := h.same e2
      have hrow2 := hh.row i p hp
      refine s_setL (v := .int x) hrow2 (ev_var rfl) (ev_op (ev_fld (ev_var rfl) hh.me T.arr T.arr_rows (arF_rows ..)) (ev_var rfl) (rv_ixL (.of hh.rows) (atI_nat (rf_get hp)))) (ev_var rfl) (by rw [row_len]; exact hj) fun H3 e3 => ?_
      obtain ⟨h1, h2⟩ := put_arr hh e3 hi hj hp _ hm
      exact q _ ((SB.of (e1.trans e2)).trans h1) h2
    · cases e : m i j with
      | none =>
        rw [e] at hb
        cases hb
      | some y =>
        rw [e] at hb
        exact q H2 (SB.of (e1.trans e2)) ((h.same e2).congr fun k l' _ _ => put_same e (of_decide_eq_false hb) k l')

/-! ### operation, numbers, distance, is_one_unit -/
def spOperation (c : Ad) : Sp := fun vs H Q _ => ∃ (a : Addr) (s : State) (i : Nat), vs = [.ref a, nv i] ∧ WorksAt c H a s ∧ (0 < i ∧ i < size s + 1) ∧ ∀ p H', Ex H H' → OpAt c H' p (opAt s i) → Q (.ref p) H'
abbrev s_Wk_operation : Stmt := inClass (topS 5) 1
theorem sc_Wk_operation : FnScope ["self", "number"] ["self", "number"] (defScope s_Wk_operation) := ⟨rfl, rfl, rfl, by decide +kernel, rfl, by decide +kernel, by decide +kernel⟩
theorem ok_operation (T : Txt K mg c) (D : DefM K c.Wk "operation" "Works.operation" s_Wk_operation ["self", "number"]) : Met P w K mg base CX0 1 c.Wk "operation" (spOperation c) := by
  refine met0 D T.wk sc_Wk_operation (fun vs H Q E h => ?_) (fun f cdv A outer s H vs Q E hr h => ?_)
  · obtain ⟨a, s, i, rfl, _⟩ := h
    rfl
  · obtain ⟨a, s, i, rfl, ⟨dx, g, o, l, f, os, ls, fs, h⟩, hi, q⟩ := h
    refine ⟨_, (pss_one (ps_ret (pe_ix (ixL (K := K) rfl) (pe_f (K := K) rfl (pv 0) rfl) (pe_op op_sub (pv 1) pe_int) (fun _ _ => rfl)))), ?_⟩
    obtain ⟨p, hp, ho⟩ := h.opA.at (opAt_get hi.1 hi.2)
    have e : (i : Int) - 1 = ((i - 1 : Nat) : Int) := by omega
    refine s_ret (v := .ref p) (ev_op (ev_fld (ev_var rfl) h.me T.wk T.wk_operations (wkF_operations ..)) (ev_op (ev_var rfl) ev_c rv_I0) (rv_ixL (.of h.ops) (at_of e (rf_get hp)))) fun H1 e1 => ?_
    obtain ⟨d, hd⟩ := ho
    exact q p H1 e1 ⟨d, e1 _ _ hd⟩
def numsV (s : State) : List V := (Vbwbai.numbers s).map fun n => nv n
def spNumbers (c : Ad) : Sp := fun vs H Q _ => ∃ (a : Addr) (s : State), vs = [.ref a] ∧ WorksAt c H a s ∧ size s ≤ 8 ∧ RL (numsV s) H Q
theorem rgV_nums (s : State) : rgV 1 ((size s : Nat) + 1) = numsV s := by
  unfold rgV numsV Vbwbai.numbers
  rw [show (((size s : Nat) : Int) + 1 - 1).toNat = size s by omega, List.map_map]
  exact List.map_congr_left fun i _ => by
    show V.int (1 + (i : Int)) = V.int ((i + 1 : Nat) : Int)
    congr 1
    omega
abbrev s_Wk_numbers : Stmt := inClass (topS 5) 2
theorem sc_Wk_numbers : FnScope ["self"] ["self"] (defScope s_Wk_numbers) := ⟨rfl, rfl, rfl, by decide +kernel, rfl, by decide +kernel, by decide +kernel⟩
theorem ok_numbers (T : Txt K mg c) (D : DefM K c.Wk "numbers" "Works.numbers" s_Wk_numbers ["self"]) : Met P w K mg base CX0 1 c.Wk "numbers" (spNumbers c) := by
  refine met0 D T.wk sc_Wk_numbers (fun vs H Q E h => ?_) (fun f cdv A outer s H vs Q E hr h => ?_)
  · obtain ⟨a, s, rfl, _⟩ := h
    rfl
  · obtain ⟨a, s, rfl, ⟨dx, g, o, l, f, os, ls, fs, h⟩, hs, q⟩ := h
    refine ⟨_, (pss_one (ps_ret (pe_listRg rfl (by rfl) T.list (prg_2 (by rfl) T.range pe_int (pe_op op_add (pe_callB (lenR (K := K) rfl) (by rfl) T.len (by decide +kernel) (pa_cons (pe_f (K := K) rfl (pv 0) rfl) pa_nil)) pe_int))))), ?_⟩
    have hl : (rf os).length = size s := by simp [h.opA.1, size]
    refine (ev_op (ev_lenL (ev_fld (ev_var rfl) h.me T.wk T.wk_operations (wkF_operations ..)) h.ops) ev_c rv_I0) H (Ex.refl _) _ fun H1 e1 => ?_
    refine ⟨_, _, rfl, rfl, RgOk.of_le (by decide) (by rw [hl]; omega) (by decide) (by rw [hl]; omega), fun p hp => ?_⟩
    rw [hl, rgV_nums]
    exact q p _ (e1.trans (Ex.new hp)) (fresh_back e1 hp) upd_same
def distI (s : State) (i : Nat) : Int := (((opAt s i).long + s.gaps.getD (opAt s i).unit 0 : Nat) : Int)
def spDistance (c : Ad) : Sp := fun vs H Q _ => ∃ (a : Addr) (s : State) (i : Nat), vs = [.ref a, nv i] ∧ WorksAt c H a s ∧ Up.Good s ∧ (0 < i ∧ i < size s + 1) ∧ RV' (.int (distI s i)) H Q
theorem opAt_mem {s : State} {i : Nat} (h : 0 < i ∧ i < size s + 1) : opAt s i ∈ s.ops := List.mem_of_getElem? (opAt_get h.1 h.2)
theorem gap_get {s : State} {u : Nat} (h : u < s.gaps.length) : (s.gaps.map fun n => nv n)[u]? = some (nv (s.gaps.getD u 0)) := by
  rw [List.getElem?_map, List.getElem?_eq_getElem h, List.getD_eq_getElem?_getD, List.getElem?_eq_getElem h]
  rfl
abbrev s_Wk_distance : Stmt := inClass (topS 5) 3
theorem sc_Wk_distance : FnScope ["self", "first", "one"] ["self", "first"] (defScope s_Wk_distance) := ⟨rfl, rfl, rfl, by decide +kernel, rfl, by decide +kernel, by decide +kernel⟩
theorem ok_distance (T : Txt K mg c) (D : DefM K c.Wk "distance" "Works.distance" s_Wk_distance ["self", "first"]) (M_Wk_operation : Met P w K mg base CX0 1 c.Wk "operation" (spOperation c)) : Met P w K mg base CX0 2 c.Wk "distance" (spDistance c) := by
  refine met0 D T.wk sc_Wk_distance (fun vs H Q E h => ?_) (fun f cdv A outer s H vs Q E hr h => ?_)
  · obtain ⟨a, s, i, rfl, _⟩ := h
    rfl
  · obtain ⟨a, s, i, rfl, hw, gd, hi, q⟩ := h
    obtain ⟨dx, g, o, l, f, os, ls, fs, h⟩ := hw
    refine ⟨_, (pss_cons (ps_set (i := 2) sc_Wk_distance.nd rfl (.inl rfl) (pe_mt M_Wk_operation hr (by decide) pass0 (pv 0) (pa_cons (pv 1) pa_nil))) (pss_one (ps_ret (pe_op op_add (pe_f (K := K) rfl (pv 2) rfl) (pe_ix (ixL (K := K) rfl) (pe_f (K := K) rfl (pv 0) rfl) (pe_f (K := K) rfl (pv 2) rfl) (fun _ _ => rfl)))))), ?_⟩
    refine q_asgP (P := fun v H1 => ∃ p, v = .ref p ∧ OpAt c H1 p (opAt s i)) (ep_meth (ev_var rfl) h.me (wkF_no _ _ _ _ (by decide +kernel) (by decide +kernel) (by decide +kernel) (by decide +kernel)) (ea_cons (ev_var rfl) ea_nil)
      fun H1 e1 Q q E => ⟨a, s, i, rfl, ⟨dx, g, o, l, f, os, ls, fs, h.same e1⟩, hi, fun p H2 e2 hp => q _ _ e2 ⟨p, rfl, hp⟩⟩) fun v H1 e1 hp => ?_
    obtain ⟨p, rfl, d, hp⟩ := hp
    have h := h.same e1
    refine s_ret (v := .int (distI s i)) (ev_op (ev_fld (ev_var rfl) hp T.op T.op_minutes (opF_minutes _)) (ev_op (ev_fld (ev_var rfl) h.me T.wk T.wk_gaps (wkF_gaps ..)) (ev_fld (ev_var rfl) hp T.op T.op_unit (opF_unit _)) (rv_ixL (.of h.gaps) (atI_nat (gap_get (gd.unit _ (opAt_mem hi)))))) rv_I0) fun H2 e2 => ?_
    exact q H2 (e1.trans e2)
def oneUnit (s : State) (i j : Nat) : Bool := decide (i ≠ j) && ((opAt s i).unit == (opAt s j).unit)
def spOneUnit (c : Ad) : Sp := fun vs H Q _ => ∃ (a : Addr) (s : State) (i j : Nat), vs = [.ref a, nv i, nv j] ∧ WorksAt c H a s ∧ (0 < i ∧ i < size s + 1) ∧ (0 < j ∧ j < size s + 1) ∧ RV' (.bl (oneUnit s i j)) H Q
theorem dec_nv {i j : Nat} : (!decide (nv i = nv j)) = decide (i ≠ j) := by
  by_cases e : i = j
  · subst e; simp
  · have : ¬ (nv i = nv j) := fun z => e (Int.ofNat.inj (V.int.inj z))
    simp [e, this]
theorem dec_nv' {i j : Nat} : decide (nv i = nv j) = (i == j) := by
  by_cases e : i = j
  · subst e; simp
  · have : ¬ (nv i = nv j) := fun z => e (Int.ofNat.inj (V.int.inj z))
    simp [e, this]
abbrev s_Wk_is_one_unit : Stmt := inClass (topS 5) 4
theorem sc_Wk_is_one_unit : FnScope ["self", "first", "second"] ["self", "first", "second"] (defScope s_Wk_is_one_unit) := ⟨rfl, rfl, rfl, by decide +kernel, rfl, by decide +kernel, by decide +kernel⟩
theorem ok_is_one_unit (T : Txt K mg c) (D : DefM K c.Wk "is_one_unit" "Works.is_one_unit" s_Wk_is_one_unit ["self", "first", "second"]) (M_Wk_operation : Met P w K mg base CX0 1 c.Wk "operation" (spOperation c)) : Met P w K mg base CX0 2 c.Wk "is_one_unit" (spOneUnit c) := by
  refine met0 D T.wk sc_Wk_is_one_unit (fun vs H Q E h => ?_) (fun f cdv A outer s H vs Q E hr h => ?_)
  · obtain ⟨a, s, i, j, rfl, _⟩ := h
    rfl
  · obtain ⟨a, s, i, j, rfl, hw, hi, hj, q⟩ := h
    obtain ⟨dx, g, o, l, f, os, ls, fs, h⟩ := hw
    refine ⟨_, (pss_one (ps_ret (pe_and (pe_cmpR op_ne (pv 1) (pv 2) (nomark _)) (pe_one (pe_cmpR op_eq (pe_f (K := K) rfl (pe_mt M_Wk_operation hr (by decide) pass0 (pv 0) (pa_cons (pv 1) pa_nil)) rfl) (pe_f (K := K) rfl (pe_mt M_Wk_operation hr (by decide) pass0 (pv 0) (pa_cons (pv 2) pa_nil)) rfl) (nomark _)))))), ?_⟩
    have un : ∀ (n k : Nat), (0 < n ∧ n < size s + 1) → (L2.start ["self", "first", "second"] [V.ref a, nv i, nv j])[k]? = some (some (nv n)) →
        Ev (tFld K (tMeth c.Wk "operation" (spOperation c) [] E0 (tVar 0) (tCons (tVar k) tNil)) "unit") (L2.start ["self", "first", "second"] [V.ref a, nv i, nv j]) H (nv (opAt s n).unit) := fun n k hn hk =>
      ev_fldP (P := fun v H1 => ∃ p, v = .ref p ∧ OpAt c H1 p (opAt s n)) (ep_meth (ev_var rfl) h.me (wkF_no _ _ _ _ (by decide +kernel) (by decide +kernel) (by decide +kernel) (by decide +kernel)) (ea_cons (ev_var hk) ea_nil)
        fun H1 e1 Q q E => ⟨a, s, n, rfl, ⟨dx, g, o, l, f, os, ls, fs, h.same e1⟩, hn, fun p H2 e2 hp => q _ _ e2 ⟨p, rfl, hp⟩⟩)
        fun x H2 e2 ⟨p, e, d, hp⟩ => ⟨p, c.Op, d, _, e, hp, T.op, T.op_unit, opF_unit _⟩
    refine s_ret (v := .bl (oneUnit s i j)) (ev_is (ev_andV (a := decide (i ≠ j)) (b := (opAt s i).unit == (opAt s j).unit) (ev_is (ev_op (ev_var rfl) (ev_var rfl) (rv_ne rfl)) (by rw [dec_nv])) fun _ => ev_is (ev_op (un i 1 hi rfl) (un j 2 hj rfl) (rv_eq rfl)) (by rw [dec_nv'])) rfl) fun H1 e1 => ?_
    exact q H1 e1
end
end Uw
/-! W4: pairs, is_fixed, open_pairs, end_of. -/
namespace Uw
open PySem PySem.Spec PyProof.Rows L2 Evl
open Vbwbai (State Op Link size opAt numbers)

theorem ift {c : Bool} {A B : Prop} (hc : c = true) (h : A) : if c = true then A else B := by
  rw [if_pos hc]
  exact h
theorem iff' {c : Bool} {A B : Prop} (hc : ¬ c = true) (h : B) : if c = true then A else B := by
  rw [if_neg hc]
  exact h
theorem flat_congr {α β : Type} {f g : α → List β} : ∀ {l : List α}, (∀ a ∈ l, f a = g a) → l.flatMap f = l.flatMap g
  | [], _ => rfl
  | a :: l, h => by
    rw [List.flatMap_cons, List.flatMap_cons, h a (List.mem_cons_self ..), flat_congr fun b hb => h b (List.mem_cons_of_mem _ hb)]
theorem cut_drop (xs : List V) {k : Nat} : cutV xs (some (k : Int)) none = xs.drop k := by
  unfold cutV
  rw [HT.sIx_nat, HT.sIx_none]
  by_cases h : k ≤ xs.length
  · rw [Nat.min_eq_left h, List.take_of_length_le (by simp)]
  · rw [Nat.min_eq_right (by omega), List.drop_eq_nil_of_le (Nat.le_refl _), List.drop_eq_nil_of_le (by omega), List.take_nil]
theorem el_slN {K : PySem.W.Frag} {σ : L2.St} {H : Hp} {te : TE} {tl th : TO} {xs : List V} {lo hi : Option Int} (h : EvL te σ H xs) (h1 : EvO tl σ H lo) (h2 : EvO th σ H hi) : EvL (tSl (rSlL K) te tl th) σ H (cutV xs lo hi) := fun H1 e1 Q q =>
  h H1 e1 _ fun p H2 n e2 hp => h1 H2 (e1.trans e2) _ fun H3 e3 => h2 H3 ((e1.trans e2).trans e3) _ fun H4 e4 =>
    ⟨p, xs, rfl, .of (e4 _ _ (e3 _ _ hp)), fun r hr => q r _ (fresh_back ((e2.trans e3).trans e4) hr) (((e2.trans e3).trans e4).trans (Ex.new hr)) upd_same⟩
theorem nums_get {s : State} {i : Nat} {x : V} (h : (numsV s)[i]? = some x) : x = nv (i + 1) ∧ i < size s := by
  obtain ⟨n, e, rfl⟩ := map_get' h
  have hi : i < size s := by
    have := (List.getElem?_eq_some_iff.mp e).1
    simpa [numbers] using this
  have := Up.numbers_get (s := s) (v := i + 1) (by omega) (by omega)
  rw [Nat.add_sub_cancel, e] at this
  cases this
  exact ⟨rfl, hi⟩
theorem nums_len (s : State) : (numsV s).length = size s := by simp [numsV, numbers]
/-- the second ones of a first one -/
def mates (s : State) (i : Nat) : List Nat := ((numbers s).drop i).filter fun j => oneUnit s i j
theorem pairs_eq (s : State) : Vbwbai.pairsOf s = (numbers s).flatMap fun i => (mates s i).map fun j => (i, j) := by
  unfold Vbwbai.pairsOf
  refine flat_congr fun i hi => ?_
  congr 1
  unfold mates
  have hn := Up.mem_numbers.mp hi
  have e : numbers s = (numbers s).take i ++ (numbers s).drop i := (List.take_append_drop _ _).symm
  have g : ∀ (k j : Nat), (numbers s)[k]? = some j → j = k + 1 := fun k j h => by
    have hk : k < size s := by
      have := (List.getElem?_eq_some_iff.mp h).1
      simpa [numbers] using this
    have := Up.numbers_get (s := s) (v := k + 1) (by omega) (by omega)
    rw [Nat.add_sub_cancel, h] at this
    exact Option.some.inj this
  conv => lhs; rw [e]
  rw [List.filter_append]
  have z : ((numbers s).take i).filter (fun j => decide (i < j) && (opAt s i).unit == (opAt s j).unit) = [] := by
    refine List.filter_eq_nil_iff.mpr fun j hj => ?_
    obtain ⟨k, ek⟩ := List.getElem?_of_mem hj
    have hki : k < i := by
      have := (List.getElem?_eq_some_iff.mp ek).1
      rw [List.length_take] at this
      omega
    rw [List.getElem?_take_of_lt hki] at ek
    have := g k j ek
    simp
    omega
  rw [z, List.nil_append]
  refine List.filter_congr fun j hj => ?_
  obtain ⟨k, ek⟩ := List.getElem?_of_mem hj
  rw [List.getElem?_drop] at ek
  have := g _ j ek
  unfold oneUnit
  rw [decide_eq_true (show i < j by omega), decide_eq_true (show i ≠ j by omega)]
theorem mates_few {s : State} (h : size s ≤ 8) (i : Nat) : (mates s i).length ≤ 8 := by
  unfold mates
  refine Nat.le_trans (List.length_filter_le _ _) ?_
  rw [List.length_drop]
  simp [numbers]
  omega
def pairsUp (s : State) (k : Nat) : List (Nat × Nat) := ((numbers s).take k).flatMap fun i => (mates s i).map fun j => (i, j)
theorem take_more {α : Type} {l : List α} {i : Nat} {x : α} (h : l[i]? = some x) : l.take (i + 1) = l.take i ++ [x] := by
  rw [List.take_add_one, h]
  rfl
theorem pairsUp_more {s : State} {k : Nat} (hk : k < size s) : pairsUp s (k + 1) = pairsUp s k ++ (mates s (k + 1)).map fun j => (k + 1, j) := by
  have e : (numbers s)[k]? = some (k + 1) := Up.numbers_get (v := k + 1) (by omega) (by omega)
  unfold pairsUp
  rw [take_more e, List.flatMap_append]
  simp
theorem pairsUp_few {s : State} (h : size s ≤ 8) : ∀ k, (pairsUp s k).length ≤ 8 * k
  | 0 => by simp [pairsUp]
  | k + 1 => by
    by_cases hk : k < size s
    · rw [pairsUp_more hk, List.length_append, List.length_map]
      have := mates_few h (k + 1)
      have := pairsUp_few h k
      omega
    · have h1 := pairsUp_few h k
      have e : pairsUp s (k + 1) = pairsUp s k := by
        unfold pairsUp
        rw [List.take_of_length_le (by simp [numbers]; omega), List.take_of_length_le (by simp [numbers]; omega)]
      rw [e]
      omega
theorem pairsUp_all (s : State) : pairsUp s (size s) = Vbwbai.pairsOf s := by
  unfold pairsUp
  rw [List.take_of_length_le (by simp [numbers]), pairs_eq]
theorem pairs_few {s : State} (h : size s ≤ 8) : (Vbwbai.pairsOf s).length ≤ 64 := by
  have := pairsUp_few h (size s)
  rw [pairsUp_all] at this
  omega
section
variable {P : Program} {w : World} {K : PySem.W.Frag} {mg : Str → Option Value} {base : Heap} {c : Ad}
def spPairs (c : Ad) : Sp := fun vs H Q _ => ∃ (a : Addr) (s : State), vs = [.ref a] ∧ WorksAt c H a s ∧ size s ≤ 8 ∧ ∀ p H', Ex H H' → H p = none → PairsAt H' p (Vbwbai.pairsOf s) → Q (.ref p) H'
abbrev s_Wk_pairs : Stmt := inClass (topS 5) 5
theorem sc_Wk_pairs : FnScope ["self", "found", "first", "second"] ["self"] (defScope s_Wk_pairs) := ⟨rfl, rfl, rfl, by decide +kernel, rfl, by decide +kernel, by decide +kernel⟩
/-- self.numbers() -/
theorem el_numbers {σ : L2.St} {H : Hp} {ta : TE} {a dx g o l f : Addr} {os ls fs : List Addr} {s : State} (ha : Ev ta σ H (.ref a)) (h : WkAt c H a dx g o l f os ls fs s) (hs : size s ≤ 8) : EvL (tMeth c.Wk "numbers" (spNumbers c) [] E0 ta tNil) σ H (numsV s) :=
  fun H1 e1 Q q => ha H1 e1 _ fun H2 e2 => ⟨a, dx, _, rfl, (h.same (e1.trans e2)).me, wkF_no _ _ _ _ (by decide +kernel) (by decide +kernel) (by decide +kernel) (by decide +kernel),
    a, s, rfl, ⟨dx, g, o, l, f, os, ls, fs, h.same (e1.trans e2)⟩, hs, fun p H' e3 n hp => q p H' (fresh_back e2 n) (e2.trans e3) hp⟩
theorem ok_pairs (T : Txt K mg c) (D : DefM K c.Wk "pairs" "Works.pairs" s_Wk_pairs ["self"]) (M_Wk_numbers : Met P w K mg base CX0 1 c.Wk "numbers" (spNumbers c)) (M_Wk_is_one_unit : Met P w K mg base CX0 2 c.Wk "is_one_unit" (spOneUnit c)) : Met P w K mg base CX0 3 c.Wk "pairs" (spPairs c) := by
  refine met0 D T.wk sc_Wk_pairs (fun vs H Q E h => ?_) (fun f cdv A outer s H vs Q E hr h => ?_)
  · obtain ⟨a, s, rfl, _⟩ := h
    rfl
  · obtain ⟨a, s, rfl, hw, h8, q⟩ := h
    obtain ⟨dx, g, o, l, f, os, ls, fs, h⟩ := hw
    refine ⟨_, (pss_cons (ps_set (i := 1) sc_Wk_pairs.nd rfl (.inl rfl) (pe_lst pa_nil)) (pss_cons (ps_for PassesOwn.never rfl (pi_list (pe_mt0 M_Wk_numbers hr (by decide) pass0 (pv 0))) (pg_name (i := 2) sc_Wk_pairs.nd rfl (.inr rfl)) (pss_one (ps_expr (pe_bm PySem.F.plainAttrs_list PySem.F.slot_list_extend PySem.F.type_list_extend mt_extend (pv 1) (pa_cons (pe_lc (own := [("second", 3)]) rfl sc_Wk_pairs.nd (pi_list (pe_slice sl_list (pe_mt0 M_Wk_numbers hr (by decide) pass0 (pv 0)) (po_some (pv 2)) po_none)) (blkOk_by (own := [("second", 3)]) (N := ["self", "found", "first", "second"]) (sc := defScope s_Wk_pairs) (by decide +kernel)) (fun _ _ _ _ _ => (pg_name (i := 3) sc_Wk_pairs.nd rfl (.inl rfl))) (fun _ _ _ _ _ => (pts_one (pt_val (pe_mt M_Wk_is_one_unit hr (by decide) pass0 (pv 0) (pa_cons (pv 2) (pa_cons (pv 3) pa_nil)))))) (fun _ _ _ _ _ => (pe_tup (pa_cons (pv 2) (pa_cons (pv 3) pa_nil))))) pa_nil))))) (pss_one (ps_ret (pv 1))))), ?_⟩
    refine q_asgL (xs := []) (el_lst ea_nil (Nat.zero_le _)) fun fd H1 nfd e1 hfd => ?_
    have h1 := h.same e1
    refine q_forNLn (el_numbers (ev_var rfl) h1 h8) (fun p i σ H2 => ∃ v2 v3 as, σ = [some (.ref a), some (.ref fd), v2, v3] ∧ Ex H H2 ∧ H2 p = some (.lst (numsV s)) ∧ H2 fd = some (.lst (rf as)) ∧ All2 (PairAt H2) as (pairsUp s i) ∧ p ≠ fd)
      (fun p H2 np e2 hp => ⟨none, none, [], rfl, e1.trans e2, hp, e2 _ _ hfd, All2.nil, fun z => by rw [z, hfd] at np; cases np⟩)
      (fun p i σ H2 _ ⟨_, _, _, _, _, hp, _⟩ => .of hp) ?_ ?_
    · rintro p i x σ H2 hx ⟨v2, v3, as, rfl, e2, hp, hf, hA, npf⟩
      obtain ⟨rfl, hi⟩ := nums_get hx
      -- found.extend([..])
      refine ⟨_, rfl, .inl ⟨rfl, _, .of hf⟩, ?_⟩
      have src : EvL (tSl (rSlL K) (tMeth c.Wk "numbers" (spNumbers c) [] E0 (tVar 0) tNil) (tPart (tVar 2)) tNoPart) [some (.ref a), some (.ref fd), some (nv (i + 1)), v3] H2 (cutV (numsV s) (some ((i + 1 : Nat) : Int)) none) :=
        el_slN (el_numbers (ev_var rfl) (h.same e2) h8) (eo_some (ev_var rfl)) eo_none
      refine src H2 (Ex.refl _) _ fun b H3 nb e3 hb => ⟨b, rfl, ⟨_, .of hb⟩, fun Dl nD => ?_⟩
      rw [cut_drop] at hb
      have nDb : b ≠ Dl := ne_of_none hb nD
      refine lc_list (xs := (numsV s).drop (i + 1)) (fun k H4 => ∃ bs, Ex H3 H4 ∧ H4 Dl = some (.lst (rf bs)) ∧ All2 (PairAt H4) bs (((((numbers s).drop (i + 1)).take k).filter fun j => oneUnit s (i + 1) j).map fun j => (i + 1, j)))
        ⟨[], Ex.new nD, upd_same, All2.nil⟩ (fun k H4 _ ⟨_, e4, _⟩ => .of (e4 _ _ hb)) ?_ ?_
      · rintro k y H4 hy ⟨bs, e4, hD, hB⟩
        rw [List.getElem?_drop] at hy
        obtain ⟨rfl, hj⟩ := nums_get hy
        have ek : ((numbers s).drop (i + 1))[k]? = some (i + 1 + k + 1) := by
          rw [List.getElem?_drop]
          exact Up.numbers_get (v := i + 1 + k + 1) (by omega) (by omega)
        refine ⟨rfl, ?_⟩
        have hw4 := h.same ((e2.trans e3).trans e4)
        refine ⟨_, rfl, a, dx, _, rfl, hw4.me, wkF_no _ _ _ _ (by decide +kernel) (by decide +kernel) (by decide +kernel) (by decide +kernel), _, rfl, _, rfl, a, s, i + 1, i + 1 + k + 1, rfl, ⟨dx, g, o, l, f, os, ls, fs, hw4⟩, ⟨by omega, by omega⟩, ⟨by omega, by omega⟩, fun H5 e5 => ?_⟩
        refine ⟨_, rfl, ?_⟩
        rw [take_more ek, List.filter_append, List.map_append]
        by_cases cond : oneUnit s (i + 1) (i + 1 + k + 1) = true
        · refine ift cond ?_
          refine ⟨_, rfl, _, rfl, by show 2 ≤ sizeLine; decide, fun t nt => ?_⟩
          have hD5 := e5 _ _ hD
          have ntD : Dl ≠ t := ne_of_none hD5 nt
          refine ⟨rf bs, by rw [upd_ne ntD]; exact hD5, ?_, bs ++ [t], ?_, ?_, ?_⟩
          · have h3 := hB.1
            rw [List.length_map]
            rw [List.length_map] at h3
            have h4 := List.length_filter_le (fun j => oneUnit s (i + 1) j) (((numbers s).drop (i + 1)).take k)
            rw [List.length_take, List.length_drop] at h4
            have : (numbers s).length = size s := by simp [numbers]
            exact few' (by omega)
          · exact fun z u hz => by
              have h6 := e5 _ _ (e4 _ _ hz)
              rw [upd_ne (show z ≠ Dl from ne_of_none hz nD), upd_ne (ne_of_none h6 nt)]
              exact h6
          · rw [upd_same]
            simp [rf]
          · rw [List.filter_cons_of_pos cond, List.filter_nil]
            refine (hB.mono fun z u hz hu => ?_).snoc ?_
            · have h6 := e5 _ _ (show H4 z = _ from hu)
              show upd (upd H5 t _) Dl _ z = _
              rw [upd_ne (show z ≠ Dl from ne_of h6 hD5 (by intro q; cases q)), upd_ne (ne_of_none h6 nt)]
              exact h6
            · show upd (upd H5 t _) Dl _ t = _
              rw [upd_ne ntD.symm, upd_same]
        · refine iff' cond ?_
          refine ⟨bs, e4.trans e5, e5 _ _ hD, ?_⟩
          rw [List.filter_cons_of_neg cond, List.filter_nil, List.map_nil, List.append_nil]
          exact hB.mono fun z u _ hu => e5 _ _ hu
      · rintro H4 ⟨bs, e4, hD, hB⟩
        have hf4 : H4 fd = some (.lst (rf as)) := e4 _ _ (e3 _ _ hf)
        rw [List.length_drop, nums_len, List.take_of_length_le (by simp [numbers])] at hB
        have hl1 := hA.1
        have hl2 := hB.1
        have hl3 := pairsUp_few h8 i
        have hl4 := mates_few h8 (i + 1)
        rw [List.length_map] at hl2
        have nfb : fd ≠ Dl := by
          intro z
          subst z
          rw [e3 _ _ hf] at nD
          cases nD
        refine ⟨fd, Dl, _, _, rfl, rfl, hf4, hD, ?_, some (nv (i + 1)), v3, as ++ bs, rfl, ?_, ?_, ?_, ?_, npf⟩
        · rw [List.length_map, List.length_map]
          unfold mates at hl4
          exact few (by omega)
        · exact fun z u hz => by
            have nz : z ≠ fd := ne_of_none hz nfd
            rw [upd_ne nz]
            exact e4 _ _ (e3 _ _ (e2 _ _ hz))
        · rw [upd_ne npf]
          exact e4 _ _ (e3 _ _ hp)
        · rw [upd_same]
          simp [rf]
        · rw [pairsUp_more hi]
          refine All2.app (hA.mono fun z u _ hu => ?_) (hB.mono fun z u _ hu => ?_)
          · have h6 := e4 _ _ (e3 _ _ (show H2 z = _ from hu))
            show upd H4 fd _ z = _
            rw [upd_ne (ne_of h6 hf4 (by intro q; cases q))]
            exact h6
          · show upd H4 fd _ z = _
            rw [upd_ne (ne_of (show H4 z = _ from hu) hf4 (by intro q; cases q))]
            exact hu
    · rintro p σ H2 ⟨v2, v3, as, rfl, e2, hp, hf, hA, npf⟩
      rw [nums_len, pairsUp_all] at hA
      exact s_ret (ev_var rfl) fun H3 e3 => q fd H3 (e2.trans e3) nfd ⟨as, e3 _ _ hf, hA.mono fun z u _ hu => e3 _ _ hu⟩
end
end Uw
/-! W5: is_fixed, open_pairs, end_of; comprehensions over zip and enumerate. -/
namespace L2
open PySem PySem.Spec PyProof.Rows
theorem Room.units65 {k : Nat} {A : Around} (r : Room k A) : A.units + 65 < cLine := by
  have := r.un
  omega
end L2
namespace Uw
open PySem PySem.Spec PyProof.Rows L2 Evl
open Vbwbai (State Op Link size opAt numbers)

/-! ### comprehensions over zip and enumerate, values out -/
section
variable {K : PySem.W.Frag} {σ : L2.St} {H : Hp} {ta tb te : TE} {vs : List Nat}
/-- [e for x, y in zip(a, b)] -/
theorem el_lcZ {a b : Addr} {xs ys : List V} {i j : Nat} {Pa Pb : V → Hp → Prop} (v : Nat → V) (ha : EvP ta σ H Pa) (hb : EvP tb σ H Pb) (ka : ∀ x H1, Ex H H1 → Pa x H1 → ∃ a, x = .ref a ∧ SqL K H1 a xs) (kb : ∀ x H1, Ex H H1 → Pb x H1 → ∃ b, x = .ref b ∧ SqL K H1 b ys)
    (hl : xs.length = ys.length) (hz : xs.length ≤ 40000) (hw : ∀ x y, wipe (((wipe σ vs).set i (some x)).set j (some y)) vs = wipe σ vs)
    (he : ∀ (k : Nat) (x y : V) H1, Ex H H1 → xs[k]? = some x → ys[k]? = some y → Ev te (((wipe σ vs).set i (some x)).set j (some y)) H1 (v k)) :
    EvL (tLc (iZip K (tCons ta (tCons tb tNil))) (gTup K 2 (gCons (gName i) (gCons (gName j) gNil))) tYes te vs) σ H ((List.range xs.length).map v) := fun H1 e1 Q q => by
  refine ha H1 e1 _ fun x H2 e2 pa => hb H2 (e1.trans e2) _ fun y H3 e3 pb => ?_
  obtain ⟨a, rfl, hxa⟩ := ka x H2 (e1.trans e2) pa
  obtain ⟨b, rfl, hyb⟩ := kb y H3 ((e1.trans e2).trans e3) pb
  have hxa3 := ex_l e3 hxa
  refine ⟨a, b, xs, ys, rfl, hxa3, hyb, fun D nD => ?_⟩
  refine lc_it (walk_zip (K := K) (a := a) (b := b) (xs := xs) (ys := ys) (n := xs.length) (by rw [hl, Nat.min_self])) (fun k H4 => Ex H3 H4 ∧ H4 D = some (.lst ((List.range k).map v))) ⟨Ex.new nD, upd_same⟩
    (fun k H4 _ ⟨e4, _⟩ => ⟨ex_l e4 hxa3, ex_l e4 hyb⟩) ?_ ?_
  · rintro k z H4 H5 hk ⟨e4, hD⟩ ⟨T, x, y, rfl, nT, rfl, gx, gy⟩
    refine ⟨T, _, rfl, .inl (.inl upd_same), rfl, x, _, rfl, y, _, rfl, rfl, hw x y, ?_⟩
    have e5 : Ex H4 (upd H4 T (.tup [x, y])) := Ex.new nT
    refine he k x y H4 (((e1.trans e2).trans e3).trans e4) gx gy _ e5 _ fun H6 e6 => ⟨_, e6 _ _ (e5 _ _ hD), by rw [List.length_map, List.length_range]; exact few' (by omega), ?_, ?_⟩
    · exact fun u o hu => by
        rw [upd_ne (ne_of_none hu nD)]
        exact e6 _ _ (e5 _ _ (e4 _ _ hu))
    · rw [upd_same, List.range_succ, List.map_append]
      rfl
  · rintro H4 ⟨e4, hD⟩
    exact q D H4 (fresh_back (e2.trans e3) nD) ((e2.trans e3).trans e4) hD
/-- [e for k, y in enumerate(a) if t] -/
theorem el_lcE {a : Addr} {xs : List V} {i j : Nat} {tt : TT} (f : Nat → Bool) (v : Nat → V) (ha : Ev ta σ H (.ref a)) (hx : SqL K H a xs) (hz : xs.length ≤ 40000) (hw : ∀ x y, wipe (((wipe σ vs).set i (some x)).set j (some y)) vs = wipe σ vs)
    (ht : ∀ (k : Nat) (y : V) H1, Ex H H1 → xs[k]? = some y → EvT tt (((wipe σ vs).set i (some (nv k))).set j (some y)) H1 (f k))
    (he : ∀ (k : Nat) (y : V) H1, Ex H H1 → xs[k]? = some y → f k = true → Ev te (((wipe σ vs).set i (some (nv k))).set j (some y)) H1 (v k)) :
    EvL (tLc (iEnum K (tCons ta tNil)) (gTup K 2 (gCons (gName i) (gCons (gName j) gNil))) tt te vs) σ H (given xs.length f v) := fun H1 e1 Q q => by
  refine ha H1 e1 _ fun H2 e2 => ?_
  have hx2 := ex_l (e1.trans e2) hx
  refine ⟨a, xs, rfl, hx2, fun D nD => ?_⟩
  refine lc_it (walk_enum (K := K) (a := a) (xs := xs)) (fun k H4 => Ex H2 H4 ∧ H4 D = some (.lst (given k f v))) ⟨Ex.new nD, upd_same⟩ (fun k H4 _ ⟨e4, _⟩ => ex_l e4 hx2) ?_ ?_
  · rintro k z H4 H5 hk ⟨e4, hD⟩ ⟨T, x, y, rfl, nT, rfl, gx, gy⟩
    cases gx
    have e5 : Ex H4 (upd H4 T (.tup [nv k, y])) := Ex.new nT
    refine ⟨T, _, rfl, .inl (.inl upd_same), rfl, _, _, rfl, y, _, rfl, rfl, hw _ y, ?_⟩
    refine ht k y H4 ((e1.trans e2).trans e4) gy _ e5 _ fun H6 e6 => ?_
    have hD6 := e6 _ _ (e5 _ _ hD)
    by_cases c : f k = true
    · refine ift c ?_
      refine he k y H6 (((e1.trans e2).trans e4).trans (e5.trans e6)) gy c H6 (Ex.refl _) _ fun H7 e7 => ⟨_, e7 _ _ hD6, few' (by have := given_len k f v; omega), ?_, ?_⟩
      · exact fun u o hu => by
          rw [upd_ne (ne_of_none hu nD)]
          exact e7 _ _ (e6 _ _ (e5 _ _ (e4 _ _ hu)))
      · rw [upd_same, given_yes c]
    · refine iff' c ?_
      refine ⟨e4.trans (e5.trans e6), ?_⟩
      rw [given_no (by simpa using c)]
      exact hD6
  · rintro H4 ⟨e4, hD⟩
    exact q D H4 (fresh_back e2 nD) (e2.trans e4) hD
end

/-! ### a pair among pairs -/
def pD (p : Nat × Nat) : PyData := .tuple [.int p.1, .int p.2]
theorem pD_lay (p : Nat × Nat) : (pD p).canLay0 = true := by simp [pD, PyData.canLay0, PyData.canLayAll0]
theorem pD_deep (p : Nat × Nat) : (pD p).depth = 1 := by simp [pD, PyData.depth, PyData.depthAll]
theorem pDs_lay : ∀ ps : List (Nat × Nat), PyData.canLayAll0 (ps.map pD) = true
  | [] => by simp [PyData.canLayAll0]
  | p :: ps => by simp [PyData.canLayAll0, pD_lay p, pDs_lay ps]
theorem pDs_deep : ∀ ps : List (Nat × Nat), PyData.depthAll (ps.map pD) ≤ 1
  | [] => by simp [PyData.depthAll]
  | p :: ps => by
    have h1 := pDs_deep ps
    have h2 := pD_deep p
    simp only [List.map_cons, PyData.depthAll]
    omega
theorem pD_shaped (p : Nat × Nat) : SeqAt.shaped (pD p) = true := by
  unfold SeqAt.shaped
  rw [pD_lay, pD_deep]
  decide
theorem pDs_shaped (ps : List (Nat × Nat)) : SeqAt.shaped (.list (ps.map pD)) = true := by
  have h1 := pDs_deep ps
  have h2 : PyData.depth (.list (ps.map pD)) ≤ 64 := by
    simp only [PyData.depth]
    omega
  have h3 : PyData.canLay0 (.list (ps.map pD)) = true := by
    simp only [PyData.canLay0]
    exact pDs_lay ps
  unfold SeqAt.shaped
  rw [h3, decide_eq_true h2]
  rfl
theorem pD_eqv (p q : Nat × Nat) : PyData.eqv (pD p) (pD q) = (p.1 == q.1 && p.2 == q.2) := by
  have e : PyData.eqv (pD p) (pD q) = (((p.1 : Int) == (q.1 : Int)) && (((p.2 : Int) == (q.2 : Int)) && true)) := by simp only [pD, PyData.eqv, PyData.eqvAll]
  have n : ∀ a b : Nat, ((a : Int) == (b : Int)) = (a == b) := fun a b => by
    rw [Bool.eq_iff_iff]
    simp
    omega
  rw [e, n, n, Bool.and_true]
theorem dp_pair {K : PySem.W.Frag} {H : Hp} {a : Addr} {p : Nat × Nat} (h : PairAt H a p) : Dp K H (.ref a) (pD p) := .tup (.of h) (.cons (.int _) (.cons (.int _) .nil))
theorem dp_all {K : PySem.W.Frag} {H : Hp} : ∀ {as : List Addr} {ps : List (Nat × Nat)}, All2 (PairAt H) as ps → DpAll K H (rf as) (ps.map pD)
  | [], [], _ => .nil
  | [], _ :: _, h => by have := h.1; simp at this
  | _ :: _, [], h => by have := h.1; simp at this
  | a :: as, p :: ps, h => .cons (dp_pair (h.2 0 a p rfl rfl)) (dp_all (as := as) (ps := ps) ⟨by simpa using h.1, fun i b q h1 h2 => h.2 (i + 1) b q (by simpa using h1) (by simpa using h2)⟩)
theorem dp_pairs {K : PySem.W.Frag} {H : Hp} {a : Addr} {ps : List (Nat × Nat)} (h : PairsAt H a ps) : Dp K H (.ref a) (.list (ps.map pD)) := by
  obtain ⟨as, e, x⟩ := h
  exact .lst (.of e) (dp_all x)
/-- (i, j) in ps -/
theorem ev_inPairs {K : PySem.W.Frag} {σ : L2.St} {H : Hp} {ta tb : TE} {a : Addr} {p : Nat × Nat} {ps : List (Nat × Nat)} (ha : EvU ta σ H (pairV p)) (hb : Ev tb σ H (.ref a)) (hp : PairsAt H a ps) :
    Ev (tOp (rInD K) ta tb) σ H (.bl (ps.any fun z => z.1 == p.1 && z.2 == p.2)) := fun H1 e1 Q q =>
  ha H1 e1 _ fun t H2 _ e2 ht => hb H2 (e1.trans e2) _ fun H3 e3 => by
    refine ⟨pD p, ps.map pD, dp_pair (e3 _ _ ht), dp_pairs (hp.same ((e1.trans e2).trans e3)), pD_shaped p, pDs_shaped ps, ?_⟩
    have e : ((ps.map pD).any fun z => PyData.eqv z (pD p)) = ps.any fun z => z.1 == p.1 && z.2 == p.2 := by
      rw [List.any_map]
      congr 1
      funext z
      exact pD_eqv z p
    rw [e]
    exact q H3 (e2.trans e3)
theorem fixedBy_eq (ds : List (Nat × Nat)) (i j : Nat) : Vbwbai.fixedBy ds i j = ((ds.any fun z => z.1 == i && z.2 == j) || ds.any fun z => z.1 == j && z.2 == i) := by
  unfold Vbwbai.fixedBy
  induction ds with
  | nil => rfl
  | cons d ds ih =>
    simp only [List.any_cons, ih]
    cases (d.1 == i && d.2 == j) <;> cases (d.1 == j && d.2 == i) <;> simp
theorem open_eq (s : State) : Vbwbai.open_ s = (Vbwbai.pairsOf s).filter fun p => !(Vbwbai.fixedBy s.fixed p.1 p.2) := by
  unfold Vbwbai.open_ Vbwbai.pairsOf
  rw [List.filter_flatMap]
  refine flat_congr fun i _ => ?_
  rw [List.filter_map, List.filter_filter]
  congr 1
  refine List.filter_congr fun j _ => ?_
  show _ = (!(Vbwbai.fixedBy s.fixed i j) && _)
  cases decide (i < j) <;> cases ((opAt s i).unit == (opAt s j).unit) <;> cases (Vbwbai.fixedBy s.fixed i j) <;> rfl
theorem open_few {s : State} (h : size s ≤ 8) : (Vbwbai.open_ s).length ≤ 64 := by
  rw [open_eq]
  exact Nat.le_trans (List.length_filter_le _ _) (pairs_few h)
theorem pairs_ok (s : State) : Up.OkDs s (Vbwbai.pairsOf s) := fun p hp => by
  unfold Vbwbai.pairsOf at hp
  obtain ⟨i, hi, hp⟩ := List.mem_flatMap.mp hp
  obtain ⟨j, hj, rfl⟩ := List.mem_map.mp hp
  exact ⟨Up.mem_numbers.mp hi, Up.mem_numbers.mp (List.mem_filter.mp hj).1⟩
section
variable {P : Program} {w : World} {K : PySem.W.Frag} {mg : Str → Option Value} {base : Heap} {c : Ad}
def spIsFixed (c : Ad) : Sp := fun vs H Q _ => ∃ (a : Addr) (s : State) (i j : Nat), vs = [.ref a, nv i, nv j] ∧ WorksAt c H a s ∧ RV' (.bl (Vbwbai.fixedBy s.fixed i j)) H Q
abbrev s_Wk_is_fixed : Stmt := inClass (topS 5) 6
theorem sc_Wk_is_fixed : FnScope ["self", "first", "second"] ["self", "first", "second"] (defScope s_Wk_is_fixed) := ⟨rfl, rfl, rfl, by decide +kernel, rfl, by decide +kernel, by decide +kernel⟩
theorem ok_is_fixed (T : Txt K mg c) (D : DefM K c.Wk "is_fixed" "Works.is_fixed" s_Wk_is_fixed ["self", "first", "second"]) : Met P w K mg base CX0 1 c.Wk "is_fixed" (spIsFixed c) := by
  refine met0 D T.wk sc_Wk_is_fixed (fun vs H Q E h => ?_) (fun f cdv A outer s H vs Q E hr h => ?_)
  · obtain ⟨a, s, i, j, rfl, _⟩ := h
    rfl
  · obtain ⟨a, s, i, j, rfl, ⟨dx, g, o, l, f, os, ls, fs, h⟩, q⟩ := h
    refine ⟨_, (pss_one (ps_ret (pe_or (pe_cmpR (op_inD hr.units65) (pe_tup (pa_cons (pv 1) (pa_cons (pv 2) pa_nil))) (pe_f (K := K) rfl (pv 0) rfl) (by with_unfolding_all rfl)) (pe_one (pe_cmpR (op_inD hr.units65) (pe_tup (pa_cons (pv 2) (pa_cons (pv 1) pa_nil))) (pe_f (K := K) rfl (pv 0) rfl) (by with_unfolding_all rfl)))))), ?_⟩
    have hf : PairsAt H f s.fixed := ⟨fs, h.fixed, h.fxA⟩
    refine s_ret (v := .bl (Vbwbai.fixedBy s.fixed i j)) (ev_is (ev_orV (ev_inPairs (p := (i, j)) (eu_tup (ea_cons (ev_var rfl) (ea_cons (ev_var rfl) ea_nil)) (by show 2 ≤ 100000; decide)) (ev_fld (ev_var rfl) h.me T.wk T.wk_fixed (wkF_fixed ..)) hf)
      fun _ => ev_inPairs (p := (j, i)) (eu_tup (ea_cons (ev_var rfl) (ea_cons (ev_var rfl) ea_nil)) (by show 2 ≤ 100000; decide)) (ev_fld (ev_var rfl) h.me T.wk T.wk_fixed (wkF_fixed ..)) hf) (by rw [fixedBy_eq])) fun H1 e1 => q H1 e1
def spOpenPairs (c : Ad) : Sp := fun vs H Q _ => ∃ (a : Addr) (s : State), vs = [.ref a] ∧ WorksAt c H a s ∧ size s ≤ 8 ∧ ∀ p H', Ex H H' → H p = none → PairsAt H' p (Vbwbai.open_ s) → Q (.ref p) H'
abbrev s_Wk_open_pairs : Stmt := inClass (topS 5) 7
theorem sc_Wk_open_pairs : FnScope ["self", "pair"] ["self"] (defScope s_Wk_open_pairs) := ⟨rfl, rfl, rfl, by decide +kernel, rfl, by decide +kernel, by decide +kernel⟩
theorem ok_open_pairs (T : Txt K mg c) (D : DefM K c.Wk "open_pairs" "Works.open_pairs" s_Wk_open_pairs ["self"]) (M_Wk_pairs : Met P w K mg base CX0 3 c.Wk "pairs" (spPairs c)) (M_Wk_is_fixed : Met P w K mg base CX0 1 c.Wk "is_fixed" (spIsFixed c)) : Met P w K mg base CX0 4 c.Wk "open_pairs" (spOpenPairs c) := by
  refine met0 D T.wk sc_Wk_open_pairs (fun vs H Q E h => ?_) (fun f cdv A outer s H vs Q E hr h => ?_)
  · obtain ⟨a, s, rfl, _⟩ := h
    rfl
  · obtain ⟨a, s, rfl, hw, h8, q⟩ := h
    obtain ⟨dx, g, o, l, f, os, ls, fs, h⟩ := hw
    refine ⟨_, (pss_one (ps_ret (pe_lc (own := [("pair", 1)]) rfl sc_Wk_open_pairs.nd (pi_list (pe_mt0 M_Wk_pairs hr (by decide) pass0 (pv 0))) (blkOk_by (own := [("pair", 1)]) (N := ["self", "pair"]) (sc := defScope s_Wk_open_pairs) (by decide +kernel)) (fun _ _ _ _ _ => (pg_name (i := 1) sc_Wk_open_pairs.nd rfl (.inl rfl))) (fun _ _ _ _ _ => (pts_one (pt_not (pt_val (pe_mt M_Wk_is_fixed hr (by decide) pass0 (pv 0) (pa_cons (pe_ix (ixT (K := K) rfl) (pv 1) pe_int (fun _ _ => rfl)) (pa_cons (pe_ix (ixT (K := K) rfl) (pv 1) pe_int (fun _ _ => rfl)) pa_nil))))))) (fun _ _ _ _ _ => (pv 1))))), ?_⟩
    refine ⟨_, rfl, a, dx, _, rfl, h.me, wkF_no _ _ _ _ (by decide +kernel) (by decide +kernel) (by decide +kernel) (by decide +kernel), a, s, rfl, ⟨dx, g, o, l, f, os, ls, fs, h⟩, h8, fun p H1 e1 np ⟨as, hp, hA⟩ => ?_⟩
    refine ⟨p, rfl, ⟨_, .of hp⟩, fun Dl nD => ?_⟩
    have hn := pairs_few h8
    have hl := hA.1
    refine lc_list (xs := rf as) (fun k H4 => ∃ bs, Ex H1 H4 ∧ H4 Dl = some (.lst (rf bs)) ∧ All2 (PairAt H4) bs (((Vbwbai.pairsOf s).take k).filter fun p => !(Vbwbai.fixedBy s.fixed p.1 p.2)))
        ⟨[], Ex.new nD, upd_same, All2.nil⟩ (fun k H4 _ ⟨_, e4, _⟩ => .of (e4 _ _ hp)) ?_ ?_
    · rintro k y H4 hy ⟨bs, e4, hD, hB⟩
      obtain ⟨t, ht, rfl⟩ := rf_get' hy
      obtain ⟨pr, epr, hpr⟩ := hA.at' ht
      have hpr4 : H4 t = some (.tup (pairV pr)) := e4 _ _ hpr
      have hw4 := h.same (e1.trans e4)
      refine ⟨rfl, ?_⟩
      refine ⟨_, rfl, a, dx, _, rfl, hw4.me, wkF_no _ _ _ _ (by decide +kernel) (by decide +kernel) (by decide +kernel) (by decide +kernel), _, rfl, t, _, 0, _, rfl, rfl, .of hpr4, atI_nat (j := 0) rfl, _, rfl, t, _, 1, _, rfl, rfl, .of hpr4, atI_nat (j := 1) rfl,
        a, s, pr.1, pr.2, rfl, ⟨dx, g, o, l, f, os, ls, fs, hw4⟩, fun H5 e5 => ⟨_, rfl, ?_⟩⟩
      rw [take_more epr, List.filter_append]
      have hD5 := e5 _ _ hD
      by_cases cond : (!(Vbwbai.fixedBy s.fixed pr.1 pr.2)) = true
      · refine ift cond ?_
        refine ⟨_, rfl, rf bs, hD5, ?_, bs ++ [t], ?_, ?_, ?_⟩
        · have h3 := hB.1
          have h4 := List.length_filter_le (fun p => !(Vbwbai.fixedBy s.fixed p.1 p.2)) ((Vbwbai.pairsOf s).take k)
          rw [List.length_take] at h4
          rw [List.length_map]
          exact few' (by omega)
        · exact fun z u hz => by
            rw [upd_ne (ne_of_none hz nD)]
            exact e5 _ _ (e4 _ _ hz)
        · rw [upd_same]
          simp [rf]
        · rw [List.filter_cons_of_pos (p := fun p : Nat × Nat => !(Vbwbai.fixedBy s.fixed p.1 p.2)) cond, List.filter_nil]
          refine (hB.mono fun z u hz hu => ?_).snoc ?_
          · have h6 := e5 _ _ (show H4 z = _ from hu)
            show upd H5 Dl _ z = _
            rw [upd_ne (ne_of h6 hD5 (by intro q; cases q))]
            exact h6
          · have h6 := e5 _ _ hpr4
            show upd H5 Dl _ t = _
            rw [upd_ne (ne_of h6 hD5 (by intro q; cases q))]
            exact h6
      · refine iff' cond ?_
        refine ⟨bs, e4.trans e5, hD5, ?_⟩
        rw [List.filter_cons_of_neg (p := fun p : Nat × Nat => !(Vbwbai.fixedBy s.fixed p.1 p.2)) cond, List.filter_nil, List.append_nil]
        exact hB.mono fun z u _ hu => e5 _ _ hu
    · rintro H4 ⟨bs, e4, hD, hB⟩
      rw [List.length_map, hl, List.take_length, ← open_eq] at hB
      exact q Dl H4 (e1.trans e4) (fresh_back e1 nD) ⟨bs, hD, hB⟩
/-- beginnings B: the latest end -/
def spEndOf (c : Ad) : Sp := fun vs H Q _ => ∃ (a b : Addr) (s : State) (B : List Int), vs = [.ref a, .ref b] ∧ WorksAt c H a s ∧ size s ≤ 8 ∧ SqL K H b (B.map V.int) ∧ B.length = size s ∧ RV' (.int (Vbwbai.endOf s (0 :: B))) H Q
abbrev s_Wk_end_of : Stmt := inClass (topS 5) 8
theorem sc_Wk_end_of : FnScope ["self", "begins", "begin", "one"] ["self", "begins"] (defScope s_Wk_end_of) := ⟨rfl, rfl, rfl, by decide +kernel, rfl, by decide +kernel, by decide +kernel⟩
theorem ends_list {s : State} {B : List Int} (hB : B.length = size s) : Up.ends s (0 :: B) = (List.range (size s)).map fun i => B.getD i 0 + ((opAt s (i + 1)).long : Int) := by
  unfold Up.ends numbers
  rw [List.map_map]
  refine List.map_congr_left fun i hi => ?_
  show Vbwbai.at_ (0 :: B) (i + 1) + _ = _
  unfold Vbwbai.at_
  rw [List.getD_cons_succ]
  rfl
theorem op_get {s : State} {i : Nat} (h : i < size s) : s.ops[i]? = some (opAt s (i + 1)) := opAt_get (i := i + 1) (by omega) (by omega)
/-- [begin + one.minutes for begin, one in zip(begins, self.operations)] -/
theorem el_ends {σ : L2.St} {H : Hp} {ta tb : TE} {dx g o l f a : Addr} {i j : Nat} {os ls fs : List Addr} {s : State} {B : List Int} {vs : List Nat} (T : Txt K mg c) (h : WkAt c H a dx g o l f os ls fs s) (h8 : size s ≤ 8) {Pa : V → Hp → Prop} (ha : EvP ta σ H Pa) (ka : ∀ x H1, Ex H H1 → Pa x H1 → ∃ a, x = .ref a ∧ SqL K H1 a (B.map V.int)) (hb : Ev tb σ H (.ref o)) (hB : B.length = size s)
    (hw : ∀ x y, wipe (((wipe σ vs).set i (some x)).set j (some y)) vs = wipe σ vs) (hi : ∀ x y : V, (((wipe σ vs).set i (some x)).set j (some y))[i]? = some (some x)) (hj : ∀ x y : V, (((wipe σ vs).set i (some x)).set j (some y))[j]? = some (some y)) :
    EvL (tLc (iZip K (tCons ta (tCons tb tNil))) (gTup K 2 (gCons (gName i) (gCons (gName j) gNil))) tYes (tOp (rI0 fun i j => .int (i + j)) (tVar i) (tFld K (tVar j) "minutes")) vs) σ H ((Up.ends s (0 :: B)).map V.int) := by
  have hl : (rf os).length = size s := by simp [h.opA.1, size]
  have e : (Up.ends s (0 :: B)).map V.int = (List.range (B.map V.int).length).map fun k => V.int (B.getD k 0 + ((opAt s (k + 1)).long : Int)) := by
    rw [ends_list hB, List.length_map, hB, List.map_map]
    rfl
  rw [e]
  refine el_lcZ (a := o) (b := o) (ys := rf os) (Pb := fun x _ => x = .ref o) _ ha (ep_val hb) ka (fun x H1 e1 p => ⟨o, p, .of (e1 _ _ h.ops)⟩) (by rw [List.length_map, hB, hl]) (by rw [List.length_map]; omega) hw fun k x y H1 e1 hx hy => ?_
  obtain ⟨z, hz, rfl⟩ := map_get' hx
  obtain ⟨t, ht, rfl⟩ := rf_get' hy
  have hk : k < size s := by
    have := (List.getElem?_eq_some_iff.mp hz).1
    omega
  obtain ⟨d, hd⟩ := h.opA.2 k t _ ht (op_get hk)
  have hz' : B.getD k 0 = z := by rw [List.getD_eq_getElem?_getD, hz]; rfl
  rw [hz']
  exact ev_op (ev_var (hi _ _)) (ev_fld (ev_var (hj _ _)) (e1 _ _ hd) T.op T.op_minutes (opF_minutes _)) rv_I0
theorem ok_end_of (T : Txt K mg c) (D : DefM K c.Wk "end_of" "Works.end_of" s_Wk_end_of ["self", "begins"]) : Met P w K mg base CX0 1 c.Wk "end_of" (spEndOf (K := K) c) := by
  refine met0 D T.wk sc_Wk_end_of (fun vs H Q E h => ?_) (fun f cdv A outer s H vs Q E hr h => ?_)
  · obtain ⟨a, b, s, B, rfl, _⟩ := h
    rfl
  · obtain ⟨a, b, s, B, rfl, ⟨dx, g, o, l, f, os, ls, fs, h⟩, h8, hS, hB, q⟩ := h
    refine ⟨_, (pss_one (ps_ret (pe_callB (cr_max rfl) (by rfl) T.max (by decide +kernel) (pa_cons (pe_op op_cat (pe_lst (pa_cons pe_int pa_nil)) (pe_lc (g := gTup K 2 (gCons (gName 2) (gCons (gName 3) gNil))) (own := [("begin", 2), ("one", 3)]) rfl sc_Wk_end_of.nd (pi_zip (by rfl) T.zip (pa_cons (pv 1) (pa_cons (pe_f (K := K) rfl (pv 0) rfl) pa_nil))) (blkOk_by (own := [("begin", 2), ("one", 3)]) (N := ["self", "begins", "begin", "one"]) (sc := defScope s_Wk_end_of) (by decide +kernel)) (fun _ _ _ _ _ => (pg_t (K := K) rfl rfl (pgs_cons (pg_name (i := 2) sc_Wk_end_of.nd rfl (.inl rfl)) (pgs_cons (pg_name (i := 3) sc_Wk_end_of.nd rfl (.inl rfl)) pgs_nil)))) (fun _ _ _ _ _ => pts_nil) (fun _ _ _ _ _ => (pe_op op_add (pv 2) (pe_f (K := K) rfl (pv 3) rfl))))) pa_nil)))), ?_⟩
    have le : (Up.ends s (0 :: B)).length = size s := by simp [Up.ends, numbers]
    refine (ep_cat (xs := [.int 0]) (ys := (Up.ends s (0 :: B)).map V.int) (ep_L (el_lst (ea_cons ev_c ea_nil) (by show 1 ≤ 100000; decide)))
      (ep_L (el_ends T h h8 (ep_val (ev_var rfl)) (fun x H1 e1 p => ⟨b, p, ex_l e1 hS⟩) (ev_fld (ev_var rfl) h.me T.wk T.wk_operations (wkF_operations ..)) hB (fun _ _ => rfl) (fun _ _ => rfl) (fun _ _ => rfl)))
      (fun x H1 _ p => newL_is p) (fun x H1 _ p => newL_is p) (by rw [List.length_map, le]; exact few (by show 1 + _ ≤ _; omega))) H (Ex.refl _) _ fun v H1 e1 hv => ?_
    obtain ⟨p, rfl, np, hp⟩ := hv
    refine ⟨p, 0 :: Up.ends s (0 :: B), rfl, .of hp, by simp, fun m hm hle => ?_⟩
    rw [Up.endOf_of hm hle]
    exact q H1 e1
end
end Uw
/-! W6: arrows: longer, grown, sum_of, sums_to, greatest_to. -/
namespace Uw
open PySem PySem.Spec PyProof.Rows L2 Evl
open Vbwbai (State Op Link size opAt numbers more plus)

theorem ov_non {o : Option Int} : decide (ov o = .non) = o.isNone := by cases o <;> rfl
theorem ov_not {o : Option Int} : (!decide (ov o = .non)) = o.isSome := by cases o <;> rfl
theorem row_more (f : Nat → Option Int) (i : Nat) : row (i + 1) f = row i f ++ [ov (f i)] := by
  unfold row
  rw [List.range_succ, List.map_append, List.map_append]
  rfl
/-- the greatest of a list of numbers, if any -/
theorem max_of {l : List Int} {o : Option Int} (h : Up.IsMax (fun x => x ∈ l) o) : (l = [] → o = none) ∧ ∀ m, m ∈ l → (∀ y, y ∈ l → y ≤ m) → o = some m := by
  constructor
  · rintro rfl
    cases o with
    | none => rfl
    | some x => exact absurd h.1 (by simp)
  · intro m hm hle
    obtain ⟨y, rfl, hy, hl⟩ := h.ge hm
    have := hle y hy
    congr 1
    omega
section
variable {K : PySem.W.Frag} {σ : L2.St} {H : Hp} {ta tb ti tj : TE} {c : Ad} {mg : Str → Option Value}
/-- self.rows[i][j] -/
theorem ev_cell (T : Txt K mg c) {a dx w r : Addr} {rs : List Addr} {N : Nat} {m : Up.Wt} {i j : Nat} (ha : Ev ta σ H (.ref a)) (h : ArrAt c H a dx w r rs N m) (hi : Ev ti σ H (nv i)) (hj : Ev tj σ H (nv j)) (li : i < N) (lj : j < N) :
    Ev (tOp (rIxL K) (tOp (rIxL K) (tFld K ta "rows") ti) tj) σ H (ov (m i j)) := by
  obtain ⟨p, hp, hrow⟩ := h.at li
  exact ev_op (ev_op (ev_fld ha h.me T.arr T.arr_rows (arF_rows ..)) hi (rv_ixL (.of h.rows) (atI_nat (rf_get hp)))) hj (rv_ixL (.of hrow) (atI_nat (row_get lj)))
theorem ev_many (T : Txt K mg c) {a dx w r : Addr} {rs : List Addr} {N : Nat} {m : Up.Wt} (ha : Ev ta σ H (.ref a)) (h : ArrAt c H a dx w r rs N m) : Ev (tFld K ta "many") σ H (nv N) := ev_fld ha h.me T.arr T.arr_many (arF_many ..)
theorem ev_rowi {v : Addr} {N i : Nat} {f : Nat → Option Int} (ha : Ev ta σ H (.ref v)) (hv : SqL K H v (row N f)) (hi : Ev ti σ H (nv i)) (li : i < N) : Ev (tOp (rIxL K) ta ti) σ H (ov (f i)) := ev_op ha hi (rv_ixL hv (atI_nat (row_get li)))
theorem ev_max {p : Addr} {ns : List Int} {z : Int} (ha : Ev ta σ H (.ref p)) (h : SqL K H p (ns.map V.int)) (h0 : 0 < ns.length) (hz : ∀ m, m ∈ ns → (∀ y, y ∈ ns → y ≤ m) → m = z) : Ev (tCB (rMax K) (tCons ta tNil)) σ H (.int z) := fun H1 e1 Q q =>
  ha H1 e1 _ fun H2 e2 => ⟨p, ns, rfl, ex_l (e1.trans e2) h, h0, fun m hm hle => hz m hm hle ▸ q H2 e2⟩
/-- xs != [] -/
theorem et_neE {p : Addr} {xs : List V} (ha : Ev ta σ H (.ref p)) (h : SqL K H p xs) : EvT (tTest (tOp (rNeE K) ta (tLst tNil))) σ H (!xs.isEmpty) := fun H1 e1 Q q =>
  ha H1 e1 _ fun H2 e2 => ⟨Nat.zero_le _, fun n nn => ⟨p, n, xs, rfl, rfl, ex_l ((e1.trans e2).trans (Ex.new nn)) h, .of upd_same, _, rfl, q _ (e2.trans (Ex.new nn))⟩⟩
theorem et_eqE {p : Addr} {xs : List V} (ha : Ev ta σ H (.ref p)) (h : SqL K H p xs) : EvT (tTest (tOp (rEqE K) ta (tLst tNil))) σ H xs.isEmpty := fun H1 e1 Q q =>
  ha H1 e1 _ fun H2 e2 => ⟨Nat.zero_le _, fun n nn => ⟨p, n, xs, rfl, rfl, ex_l ((e1.trans e2).trans (Ex.new nn)) h, .of upd_same, _, rfl, q _ (e2.trans (Ex.new nn))⟩⟩
/-- max(some) if some != [] else None -/
theorem ev_maxOr {p : Addr} {ns : List Int} {o : Option Int} (ha : ∀ H1, Ex H H1 → Ev ta σ H1 (.ref p)) (h : H p = some (.lst (ns.map V.int))) (ho : Up.IsMax (fun x => x ∈ ns) o) : Ev (tIf (tTest (tOp (rNeE K) ta (tLst tNil))) (tCB (rMax K) (tCons ta tNil)) (tC .non)) σ H (ov o) := by
  obtain ⟨h1, h2⟩ := max_of ho
  refine ev_if (b := !(ns.map V.int).isEmpty) (et_neE (ha H (Ex.refl _)) (.of h)) (fun hb => ?_) (fun hb => ?_)
  · cases hn : ns with
    | nil => rw [hn] at hb; cases hb
    | cons x r =>
      cases ho' : o with
      | none =>
        rw [ho'] at ho
        exact absurd (by rw [hn]; exact List.mem_cons_self ..) (ho x)
      | some z =>
        refine ev_max (ha H (Ex.refl _)) (.of h) (by rw [hn]; exact Nat.succ_pos _) fun m hm hle => ?_
        have := h2 m hm hle
        rw [ho'] at this
        exact (Option.some.inj this).symm
  · have hn : ns = [] := by
      cases ns with
      | nil => rfl
      | cons x r => cases hb
    rw [h1 hn]
    exact ev_c
end
section
variable {P : Program} {w : World} {K : PySem.W.Frag} {mg : Str → Option Value} {base : Heap} {c : Ad}

/-! ### longer -/
def longF (N : Nat) (m : Up.Wt) (f : Nat → Option Int) (a : Nat) : Option Int := (List.range N).foldl (fun z c => more z (plus (m a c) (f c))) none
def longL (m : Up.Wt) (f : Nat → Option Int) (a k : Nat) : List Int := (List.range k).filterMap fun c => plus (m a c) (f c)
theorem longL_more (m : Up.Wt) (f : Nat → Option Int) (a k : Nat) : longL m f a (k + 1) = longL m f a k ++ (plus (m a k) (f k)).toList := by
  have e : [k].filterMap (fun c => plus (m a c) (f c)) = (plus (m a k) (f k)).toList := by cases h : plus (m a k) (f k) <;> simp [h]
  unfold longL
  rw [List.range_succ, List.filterMap_append, e]
theorem longL_len (m : Up.Wt) (f : Nat → Option Int) (a k : Nat) : (longL m f a k).length ≤ k := by
  unfold longL
  have := List.length_filterMap_le (fun c => plus (m a c) (f c)) (List.range k)
  rwa [List.length_range] at this
theorem longF_max (N : Nat) (m : Up.Wt) (f : Nat → Option Int) (a : Nat) : Up.IsMax (fun x => x ∈ longL m f a N) (longF N m f a) := by
  refine (Up.foldMore (f := fun c => plus (m a c) (f c)) (List.range N) none Up.isMax_none).congr fun x => ?_
  unfold longL
  rw [List.mem_filterMap]
  exact ⟨fun q => q.elim (fun z => z.elim) id, .inr⟩
def spLonger (K : PySem.W.Frag) (c : Ad) : Sp := fun vs H Q _ => ∃ (a dx w r v : Addr) (rs : List Addr) (N : Nat) (m : Up.Wt) (f : Nat → Option Int), vs = [.ref a, .ref v] ∧ ArrAt c H a dx w r rs N m ∧ N ≤ 9 ∧ SqL K H v (row N f) ∧ RL (row N (longF N m f)) H Q
abbrev s_Arr_longer : Stmt := inClass (topS 1) 4
theorem sc_Arr_longer : FnScope ["self", "ahead", "found", "node", "some", "other"] ["self", "ahead"] (defScope s_Arr_longer) := ⟨rfl, rfl, rfl, by decide +kernel, rfl, by decide +kernel, by decide +kernel⟩
theorem ok_longer (T : Txt K mg c) (D : DefM K c.Arr "longer" "Arrows.longer" s_Arr_longer ["self", "ahead"]) : Met P w K mg base CX0 1 c.Arr "longer" (spLonger K c) := by
  refine met0 D T.arr sc_Arr_longer (fun vs H Q E h => ?_) (fun f cdv A outer s H vs Q E hr h => ?_)
  · obtain ⟨a, dx, w, r, v, rs, N, m, f, rfl, _⟩ := h
    rfl
  · obtain ⟨a, dx, w, r, v, rs, N, m, f, rfl, h, h9, hv, q⟩ := h
    refine ⟨_, (pss_cons (ps_set (i := 2) sc_Arr_longer.nd rfl (.inl rfl) (pe_lst pa_nil)) (pss_cons (ps_for PassesOwn.never rfl (pi_range1 (by rfl) T.range (pa_cons (pe_f (K := K) rfl (pv 0) rfl) pa_nil)) (pg_name (i := 3) sc_Arr_longer.nd rfl (.inl rfl)) (pss_cons (ps_set (i := 4) sc_Arr_longer.nd rfl (.inl rfl) (pe_lst pa_nil)) (pss_cons (ps_for PassesOwn.never rfl (pi_range1 (by rfl) T.range (pa_cons (pe_f (K := K) rfl (pv 0) rfl) pa_nil)) (pg_name (i := 5) sc_Arr_longer.nd rfl (.inl rfl)) (pss_one (ps_if (PW.pt (pw_and (pt_cmp (pc_notN (pe_ix (ixL (K := K) rfl) (pe_ix (ixL (K := K) rfl) (pe_f (K := K) rfl (pv 0) rfl) (pv 3) (fun _ _ => rfl)) (pv 5) (fun _ _ => rfl)))) (pw_and1 (pt_cmp (pc_notN (pe_ix (ixL (K := K) rfl) (pv 1) (pv 5) (fun _ _ => rfl))))))) (pss_one (ps_expr (pe_bm PySem.F.plainAttrs_list PySem.F.slot_list_append PySem.F.type_list_append mt_append (pv 4) (pa_cons (pe_op op_add (pe_ix (ixL (K := K) rfl) (pe_ix (ixL (K := K) rfl) (pe_f (K := K) rfl (pv 0) rfl) (pv 3) (fun _ _ => rfl)) (pv 5) (fun _ _ => rfl)) (pe_ix (ixL (K := K) rfl) (pv 1) (pv 5) (fun _ _ => rfl))) pa_nil)))) pss_nil))) (pss_one (ps_expr (pe_bm PySem.F.plainAttrs_list PySem.F.slot_list_append PySem.F.type_list_append mt_append (pv 2) (pa_cons (pe_ifExp (pt_cmpR (op_neE hr.units0) (pv 4) (pe_lst pa_nil) (nomark _)) (pe_callB (cr_max rfl) (by rfl) T.max (by decide +kernel) (pa_cons (pv 4) pa_nil)) pe_non) pa_nil))))))) (pss_one (ps_ret (pv 2))))), ?_⟩
    refine q_asgL (xs := []) (el_lst ea_nil (Nat.zero_le _)) fun fd H1 nfd e1 hfd => ?_
    refine q_forR1 (n := (N : Int)) (ea_cons (ev_many T (ev_var rfl) (h.same e1)) ea_nil) ⟨by omega, by omega⟩ (fun i σ H2 => ∃ v3 v4 v5, σ = [some (.ref a), some (.ref v), some (.ref fd), v3, v4, v5] ∧ Ex H H2 ∧ H2 fd = some (.lst (row i (longF N m f))))
      (fun H2 e2 => ⟨none, none, none, rfl, e1.trans e2, e2 _ _ hfd⟩) ?_ ?_
    · rintro i σ H2 hi ⟨v3, v4, v5, rfl, e2, hf⟩
      have hi' : i < N := by omega
      refine q_asgL (xs := []) (el_lst ea_nil (Nat.zero_le _)) fun sm H3 nsm e3 hsm => ?_
      have nfs : fd ≠ sm := ne_of_none hf nsm
      have nsm0 : H sm = none := fresh_back e2 nsm
      refine q_forR1 (n := (N : Int)) (ea_cons (ev_many T (ev_var rfl) (h.same (e2.trans e3))) ea_nil) ⟨by omega, by omega⟩ (fun k σ H4 => ∃ v5, σ = [some (.ref a), some (.ref v), some (.ref fd), some (nv i), some (.ref sm), v5] ∧ Ex H H4 ∧ H4 fd = some (.lst (row i (longF N m f))) ∧ H4 sm = some (.lst ((longL m f i k).map V.int)))
        (fun H4 e4 => ⟨v5, rfl, (e2.trans e3).trans e4, e4 _ _ (e3 _ _ hf), e4 _ _ hsm⟩) ?_ ?_
      · rintro k σ H4 hk ⟨v5', rfl, e4, hf4, hs4⟩
        have hk' : k < N := by omega
        have h4 := h.same e4
        have hv4 := ex_l e4 hv
        refine s_when (b := (m i k).isSome && (f k).isSome) (et_and (et_is (et_notN (ev_cell T (ev_var rfl) h4 (ev_var rfl) (ev_var rfl) hi' hk')) ov_not) fun _ => et_is (et_notN (ev_rowi (ev_var rfl) hv4 (ev_var rfl) hk')) ov_not) (fun hb H5 e5 => ?_) (fun hb H5 e5 => ?_)
        · rw [Bool.and_eq_true] at hb
          obtain ⟨x, hx⟩ := Option.isSome_iff_exists.mp hb.1
          obtain ⟨y, hy⟩ := Option.isSome_iff_exists.mp hb.2
          have h5 := h4.same e5
          refine s_app (v := .int (x + y)) (e5 _ _ hs4) (ev_var rfl) (ev_op (ev_is (ev_cell T (ev_var rfl) h5 (ev_var rfl) (ev_var rfl) hi' hk') (by rw [hx]; rfl)) (ev_is (ev_rowi (ev_var rfl) (ex_l e5 hv4) (ev_var rfl) hk') (by rw [hy]; rfl)) rv_I0)
            (by have := longL_len m f i k; rw [List.length_map]; omega) fun H6 e6 => ⟨_, rfl, Ex.mut ((e4.trans e5).trans e6) nsm0, by rw [upd_ne nfs]; exact e6 _ _ (e5 _ _ hf4), ?_⟩
          rw [upd_same, longL_more, hx, hy, List.map_append]
          rfl
        · refine ⟨_, rfl, e4.trans e5, e5 _ _ hf4, ?_⟩
          have : plus (m i k) (f k) = none := by
            cases hx : m i k with
            | none => rfl
            | some x =>
              cases hy : f k with
              | none => rfl
              | some y => rw [hx, hy] at hb; cases hb
          rw [longL_more, this]
          simpa using e5 _ _ hs4
      · rintro σ H4 ⟨v5', rfl, e4, hf4, hs4⟩
        rw [show ((N : Int)).toNat = N by omega] at hs4
        refine s_app hf4 (ev_var rfl) (ev_maxOr (fun H5 _ => ev_var rfl) hs4 (longF_max N m f i)) (by rw [row_len]; omega) fun H5 e5 => ⟨_, _, _, rfl, Ex.mut (e4.trans e5) nfd, ?_⟩
        rw [upd_same, row_more]
    · rintro σ H2 ⟨v3, v4, v5, rfl, e2, hf⟩
      rw [show ((N : Int)).toNat = N by omega] at hf
      exact s_ret (ev_var rfl) fun H3 e3 => q fd H3 (e2.trans e3) nfd (e3 _ _ hf)

/-! ### grown -/
def growUp (m : Up.Wt) (f : Nat → Option Int) (k b : Nat) : Option Int := (List.range k).foldl (fun z a => more z (plus (f a) (m a b))) (f b)
theorem growUp_more (m : Up.Wt) (f : Nat → Option Int) (k b : Nat) : growUp m f (k + 1) b = more (growUp m f k b) (plus (f k) (m k b)) := by
  unfold growUp
  rw [List.range_succ, List.foldl_append]
  rfl
theorem growUp_all (m : Up.Wt) (f : Nat → Option Int) (N b : Nat) : growUp m f N b = Up.growF m N f b := rfl
/-- so far: the columns below j of the turn k -/
def growIn (m : Up.Wt) (f : Nat → Option Int) (k j b : Nat) : Option Int := if b < j then growUp m f (k + 1) b else growUp m f k b
theorem growIn_zero (m : Up.Wt) (f : Nat → Option Int) (k b : Nat) : growIn m f k 0 b = growUp m f k b := if_neg (by omega)
theorem growIn_all (m : Up.Wt) (f : Nat → Option Int) (k N : Nat) {b : Nat} (h : b < N) : growIn m f k N b = growUp m f (k + 1) b := if_pos h
theorem growIn_other {m : Up.Wt} {f : Nat → Option Int} {k j b : Nat} (h : b ≠ j) : growIn m f k (j + 1) b = growIn m f k j b := by
  unfold growIn
  by_cases c : b < j
  · rw [if_pos c, if_pos (by omega)]
  · rw [if_neg c, if_neg (by omega)]
theorem growIn_at {m : Up.Wt} {f : Nat → Option Int} {k j : Nat} : growIn m f k (j + 1) j = more (growIn m f k j j) (plus (f k) (m k j)) := by
  unfold growIn
  rw [if_pos (by omega), if_neg (by omega), growUp_more]
def spGrown (K : PySem.W.Frag) (c : Ad) : Sp := fun vs H Q _ => ∃ (a dx w r v : Addr) (rs : List Addr) (N : Nat) (m : Up.Wt) (f : Nat → Option Int), vs = [.ref a, .ref v] ∧ ArrAt c H a dx w r rs N m ∧ N ≤ 9 ∧ SqL K H v (row N f) ∧ RL (row N (Up.growF m N f)) H Q
abbrev s_Arr_grown : Stmt := inClass (topS 1) 9
theorem sc_Arr_grown : FnScope ["self", "sums", "found", "node", "other", "length"] ["self", "sums"] (defScope s_Arr_grown) := ⟨rfl, rfl, rfl, by decide +kernel, rfl, by decide +kernel, by decide +kernel⟩
theorem el_listOf {K : PySem.W.Frag} {σ : L2.St} {H : Hp} {ta : TE} {p : Addr} {xs : List V} (ha : Ev ta σ H (.ref p)) (h : SqL K H p xs) : EvL (tCB (fun xs H Q => ∃ p ys, xs = [.ref p] ∧ (SqL K H p ys ∨ SqT K H p ys) ∧ ∀ l, H l = none → Q (.ref l) (upd H l (.lst ys))) (tCons ta tNil)) σ H xs := el_list ha h
theorem ok_grown (T : Txt K mg c) (D : DefM K c.Arr "grown" "Arrows.grown" s_Arr_grown ["self", "sums"]) : Met P w K mg base CX0 1 c.Arr "grown" (spGrown K c) := by
  refine met0 D T.arr sc_Arr_grown (fun vs H Q E h => ?_) (fun f cdv A outer s H vs Q E hr h => ?_)
  · obtain ⟨a, dx, w, r, v, rs, N, m, f, rfl, _⟩ := h
    rfl
  · obtain ⟨a, dx, w, r, v, rs, N, m, f, rfl, h, h9, hv, q⟩ := h
    refine ⟨_, (pss_cons (ps_set (i := 2) sc_Arr_grown.nd rfl (.inl rfl) (pe_callTy call_list_of (by rfl) T.list (by decide +kernel) (pa_cons (pv 1) pa_nil))) (pss_cons (ps_for PassesOwn.never rfl (pi_range1 (by rfl) T.range (pa_cons (pe_f (K := K) rfl (pv 0) rfl) pa_nil)) (pg_name (i := 3) sc_Arr_grown.nd rfl (.inl rfl)) (pss_one (ps_for PassesOwn.never rfl (pi_range1 (by rfl) T.range (pa_cons (pe_f (K := K) rfl (pv 0) rfl) pa_nil)) (pg_name (i := 4) sc_Arr_grown.nd rfl (.inl rfl)) (pss_cons (ps_set (i := 5) sc_Arr_grown.nd rfl (.inl rfl) (pe_ix (ixL (K := K) rfl) (pe_ix (ixL (K := K) rfl) (pe_f (K := K) rfl (pv 0) rfl) (pv 3) (fun _ _ => rfl)) (pv 4) (fun _ _ => rfl))) (pss_one (ps_if (PW.pt (pw_and (pt_cmp (pc_notN (pv 5))) (pw_and1 (pt_cmp (pc_notN (pe_ix (ixL (K := K) rfl) (pv 1) (pv 3) (fun _ _ => rfl))))))) (pss_one (ps_if (PW.pt (pw_or (pt_cmp (pc_isN (pe_ix (ixL (K := K) rfl) (pv 2) (pv 4) (fun _ _ => rfl)))) (pw_or1 (pt_cmpR op_lt (pe_ix (ixL (K := K) rfl) (pv 2) (pv 4) (fun _ _ => rfl)) (pe_op op_add (pe_ix (ixL (K := K) rfl) (pv 1) (pv 3) (fun _ _ => rfl)) (pv 5)) (nomark _))))) (pss_one (ps_asg (pe_op op_add (pe_ix (ixL (K := K) rfl) (pv 1) (pv 3) (fun _ _ => rfl)) (pv 5)) (pg_sub (pv 2) (pv 4) set_list))) pss_nil)) pss_nil)))))) (pss_one (ps_ret (pv 2))))), ?_⟩
    refine q_asgL (xs := row N f) (el_listOf (ev_var rfl) hv) fun fd H1 nfd e1 hfd => ?_
    refine q_forR1 (n := (N : Int)) (ea_cons (ev_many T (ev_var rfl) (h.same e1)) ea_nil) ⟨by omega, by omega⟩ (fun k σ H2 => ∃ v3 v4 v5, σ = [some (.ref a), some (.ref v), some (.ref fd), v3, v4, v5] ∧ Ex H H2 ∧ H2 fd = some (.lst (row N (growUp m f k))))
      (fun H2 e2 => ⟨none, none, none, rfl, e1.trans e2, e2 _ _ hfd⟩) ?_ ?_
    · rintro k σ H2 hk ⟨v3, v4, v5, rfl, e2, hf⟩
      have hk' : k < N := by omega
      refine s_forR1 (n := (N : Int)) (ea_cons (ev_many T (ev_var rfl) (h.same e2)) ea_nil) ⟨by omega, by omega⟩ (fun j σ H3 => ∃ v4 v5, σ = [some (.ref a), some (.ref v), some (.ref fd), some (nv k), v4, v5] ∧ Ex H H3 ∧ H3 fd = some (.lst (row N (growIn m f k j))))
        (fun H3 e3 => ⟨v4, v5, rfl, e2.trans e3, e3 _ _ (by rw [row_congr fun b _ => growIn_zero m f k b]; exact hf)⟩) ?_ ?_
      · rintro j σ H3 hj ⟨v4', v5', rfl, e3, hf3⟩
        have hj' : j < N := by omega
        refine q_asg (v := ov (m k j)) (ev_cell T (ev_var rfl) (h.same e3) (ev_var rfl) (ev_var rfl) hk' hj') fun H4 e4 => ?_
        have e34 := e3.trans e4
        have hv4 := ex_l e34 hv
        refine s_when (b := (m k j).isSome && (f k).isSome) (et_and (et_is (et_notN (ev_var rfl)) ov_not) fun _ => et_is (et_notN (ev_rowi (ev_var rfl) hv4 (ev_var rfl) hk')) ov_not) (fun hb H5 e5 => ?_) (fun hb H5 e5 => ?_)
        · rw [Bool.and_eq_true] at hb
          obtain ⟨x, hx⟩ := Option.isSome_iff_exists.mp hb.1
          obtain ⟨y, hy⟩ := Option.isSome_iff_exists.mp hb.2
          have hv5 := ex_l e5 hv4
          have hf5 := e5 _ _ (e4 _ _ hf3)
          have sum : ∀ H6, Ex H5 H6 → Ev (tOp (rI0 fun i j => .int (i + j)) (tOp (rIxL K) (tVar 1) (tVar 3)) (tVar 5)) [some (.ref a), some (.ref v), some (.ref fd), some (nv k), some (nv j), some (ov (m k j))] H6 (.int (y + x)) := fun H6 e6 =>
            ev_op (ev_is (ev_rowi (ev_var rfl) (ex_l e6 hv5) (ev_var rfl) hk') (by rw [hy]; rfl)) (ev_is (ev_var rfl) (by rw [hx]; rfl)) rv_I0
          have hpl : plus (f k) (m k j) = some (y + x) := by rw [hx, hy]; rfl
          have hcur : ∀ H6, Ex H5 H6 → Ev (tOp (rIxL K) (tVar 2) (tVar 4)) [some (.ref a), some (.ref v), some (.ref fd), some (nv k), some (nv j), some (ov (m k j))] H6 (ov (growIn m f k j j)) := fun H6 e6 => ev_rowi (ev_var rfl) (.of (e6 _ _ hf5)) (ev_var rfl) hj'
          refine s_when (b := putTest (growIn m f k j j) (y + x)) ?_ (fun hb2 H6 e6 => ?_) (fun hb2 H6 e6 => ?_)
          · cases eg : growIn m f k j j with
            | none => exact et_or (a := true) (b := true) (et_isN (ev_is (hcur H5 (Ex.refl _)) (by rw [eg]; rfl : ov (growIn m f k j j) = .non))) fun z => nomatch z
            | some z => exact et_or (a := false) (b := decide (z < y + x)) (et_isN (ev_is (hcur H5 (Ex.refl _)) (by rw [eg]; rfl : ov (growIn m f k j j) = .int z))) fun _ => et_test (ev_op (ev_is (hcur H5 (Ex.refl _)) (by rw [eg]; rfl : ov (growIn m f k j j) = .int z)) (sum H5 (Ex.refl _)) rv_I0)
          · refine s_setL (e6 _ _ hf5) (sum H6 e6) (ev_var rfl) (ev_var rfl) (by rw [row_len]; exact hj') fun H7 e7 => ⟨_, _, rfl, Ex.mut ((e34.trans e5).trans (e6.trans e7)) nfd, ?_⟩
            rw [upd_same]
            congr 2
            have hg : growIn m f k (j + 1) j = some (y + x) := by
              rw [growIn_at, hpl]
              cases eg : growIn m f k j j with
              | none => rfl
              | some z =>
                rw [eg] at hb2
                have : z < y + x := of_decide_eq_true hb2
                show some (max z (y + x)) = some (y + x)
                congr 1
                omega
            rw [show V.int (y + x) = ov (growIn m f k (j + 1) j) by rw [hg]; rfl]
            exact set_row hj' fun b _ hb => (growIn_other hb).symm
          · refine ⟨_, _, rfl, (e34.trans e5).trans e6, ?_⟩
            rw [e6 _ _ hf5]
            congr 2
            refine row_congr fun b _ => ?_
            by_cases eb : b = j
            · subst eb
              rw [growIn_at, hpl]
              cases eg : growIn m f k b b with
              | none => rw [eg] at hb2; cases hb2
              | some z =>
                rw [eg] at hb2
                have : ¬ z < y + x := of_decide_eq_false hb2
                show some z = some (max z (y + x))
                congr 1
                omega
            · exact (growIn_other eb).symm
        · refine ⟨_, _, rfl, e34.trans e5, ?_⟩
          rw [e5 _ _ (e4 _ _ hf3)]
          congr 2
          refine row_congr fun b _ => ?_
          by_cases eb : b = j
          · subst eb
            have : plus (f k) (m k b) = none := by
              cases hx : f k with
              | none => rfl
              | some x =>
                cases hy : m k b with
                | none => rfl
                | some y => rw [hx, hy] at hb; cases hb
            rw [growIn_at, this, Up.more_none]
          · exact (growIn_other eb).symm
      · rintro σ H3 ⟨v4', v5', rfl, e3, hf3⟩
        rw [show ((N : Int)).toNat = N by omega] at hf3
        exact ⟨_, _, _, rfl, e3, by rw [hf3, row_congr fun b hb => growIn_all m f k N hb]⟩
    · rintro σ H2 ⟨v3, v4, v5, rfl, e2, hf⟩
      rw [show ((N : Int)).toNat = N by omega] at hf
      exact s_ret (ev_var rfl) fun H3 e3 => q fd H3 (e2.trans e3) nfd (e3 _ _ hf)
end
end Uw
/-! W7: arrows: sum_of, sums_to, greatest_to, first_walk. -/
namespace Uw
open PySem PySem.Spec PyProof.Rows L2 Evl
open Vbwbai (State Op Link size opAt numbers more plus)
open Up (colF stepOk fwF greatF)

theorem given_true (n : Nat) (v : Nat → V) : given n (fun _ => true) v = (List.range n).map v := by
  unfold given
  rw [List.filter_eq_self.mpr fun _ _ => rfl]
theorem given_some (n : Nat) (F : Nat → Option Int) : given n (fun k => (F k).isSome) (fun k => ov (F k)) = ((List.range n).filterMap F).map V.int := by
  unfold given
  induction n with
  | zero => rfl
  | succ n ih =>
    rw [List.range_succ, List.filter_append, List.map_append, ih, List.filterMap_append, List.map_append]
    congr 1
    cases h : F n <;> simp [h, ov]
theorem atI_back {α : Type} {xs : List α} {v : α} (h : xs[xs.length - 1]? = some v) : atI xs (-1) = some v := by
  obtain ⟨h1, h2⟩ := List.getElem?_eq_some_iff.mp h
  have : xs = xs.dropLast ++ [v] := by
    rw [← h2]
    conv => lhs; rw [← List.dropLast_concat_getLast (List.ne_nil_of_length_pos (by omega : 0 < xs.length))]
    rw [List.getLast_eq_getElem]
  rw [this]
  exact atI_last _ _
/-! ### sums of walks -/
def sumL (m : Up.Wt) : List Nat → Option Int
  | a :: b :: r => plus (m a b) (sumL m (b :: r))
  | [_] => some 0
  | [] => none
theorem sumL_of (es : List Vbwbai.Arrow) : ∀ l : List Nat, Vbwbai.sumOf es l = sumL (Vbwbai.best es) l
  | [] => rfl
  | [_] => rfl
  | a :: b :: r => by
    show plus _ (Vbwbai.sumOf es (b :: r)) = plus _ (sumL _ (b :: r))
    rw [sumL_of es (b :: r)]
theorem plus_assoc (a b c : Option Int) : plus (plus a b) c = plus a (plus b c) := by
  cases a <;> cases b <;> cases c <;> simp [plus, Int.add_assoc]
theorem sumL_snoc (m : Up.Wt) : ∀ (l : List Nat) (a b : Nat), sumL m (l ++ [a] ++ [b]) = plus (sumL m (l ++ [a])) (m a b)
  | [], a, b => by
    show plus (m a b) (some 0) = plus (some 0) (m a b)
    cases m a b <;> simp [plus]
  | [c], a, b => by
    show plus (m c a) (plus (m a b) (some 0)) = plus (plus (m c a) (some 0)) (m a b)
    cases m c a <;> cases m a b <;> simp [plus]
  | c :: d :: l, a, b => by
    have ih := sumL_snoc m (d :: l) a b
    show plus (m c d) (sumL m (d :: l ++ [a] ++ [b])) = plus (plus (m c d) (sumL m (d :: l ++ [a]))) (m a b)
    rw [ih, plus_assoc]
theorem sumL_none {m : Up.Wt} : ∀ (p : List Nat) (a b : Nat) (r : List Nat), m a b = none → sumL m (p ++ a :: b :: r) = none
  | [], a, b, r, h => by
    show plus (m a b) _ = none
    rw [h]
    rfl
  | [c], a, b, r, h => by
    show plus (m c a) (plus (m a b) _) = none
    rw [h]
    cases m c a <;> rfl
  | c :: d :: p, a, b, r, h => by
    show plus (m c d) (sumL m (d :: p ++ a :: b :: r)) = none
    rw [sumL_none (d :: p) a b r h]
    cases m c d <;> rfl
theorem el_is {te : TE} {σ : L2.St} {H : Hp} {xs ys : List V} (h : EvL te σ H xs) (e : xs = ys) : EvL te σ H ys := e ▸ h
theorem el_meth {ta : TE} {tA : TA} {σ : L2.St} {H : Hp} {a C dx : Addr} {fs : List (Str × V)} {m : Str} {sp : Sp} {E : XK} {vs xs : List V} (h : Ev ta σ H (.ref a)) (ho : H a = some (.ins C dx fs)) (n : fs.lookup m = none) (hA : EvA tA σ H vs) (hs : SpL sp (.ref a :: vs) H xs) : EvL (tMeth C m sp [] E ta tA) σ H xs := fun H1 e1 Q q =>
  h H1 e1 _ fun H2 e2 => ⟨a, dx, fs, rfl, e2 _ _ (e1 _ _ ho), n, hA H2 (e1.trans e2) _ fun H3 e3 => by
    rw [List.append_nil]
    exact hs H3 ((e1.trans e2).trans e3) Q (fun p H4 n4 e4 hp => q p H4 (fresh_back (e2.trans e3) n4) ((e2.trans e3).trans e4) hp) E⟩
/-- [e], e a new list -/
theorem ep_lst1 {te : TE} {σ : L2.St} {H : Hp} {xs : List V} (h : EvL te σ H xs) : EvP (tLst (tCons te tNil)) σ H (fun v H2 => ∃ p q, v = .ref p ∧ H p = none ∧ H q = none ∧ q ≠ p ∧ H2 p = some (.lst [.ref q]) ∧ H2 q = some (.lst xs)) := fun H1 e1 Q q =>
  h H1 e1 _ fun t H2 nt e2 ht => ⟨by show 1 ≤ sizeLine; decide, fun p np => q _ _ (e2.trans (Ex.new np)) ⟨p, t, rfl, fresh_back (e1.trans e2) np, fresh_back e1 nt, ne_of_none ht np, upd_same, by rw [upd_ne (ne_of_none ht np)]; exact ht⟩⟩
section
variable {P : Program} {w : World} {K : PySem.W.Frag} {mg : Str → Option Value} {base : Heap} {c : Ad}
abbrev nodes (ws : List Nat) : List V := ws.map fun n => nv n
def spSumOf (K : PySem.W.Frag) (c : Ad) : Sp := fun vs H Q _ => ∃ (a dx w r v : Addr) (rs : List Addr) (N : Nat) (m : Up.Wt) (ws : List Nat), vs = [.ref a, .ref v] ∧ ArrAt c H a dx w r rs N m ∧ SqL K H v (nodes ws) ∧ (0 < ws.length ∧ ws.length ≤ 1000) ∧ (∀ n ∈ ws, n < N) ∧ RV' (ov (sumL m ws)) H Q
abbrev s_Arr_sum_of : Stmt := inClass (topS 1) 3
theorem sc_Arr_sum_of : FnScope ["self", "walk", "found", "at", "length"] ["self", "walk"] (defScope s_Arr_sum_of) := ⟨rfl, rfl, rfl, by decide +kernel, rfl, by decide +kernel, by decide +kernel⟩
theorem ok_sum_of (T : Txt K mg c) (D : DefM K c.Arr "sum_of" "Arrows.sum_of" s_Arr_sum_of ["self", "walk"]) : Met P w K mg base CX0 1 c.Arr "sum_of" (spSumOf K c) := by
  refine met0 D T.arr sc_Arr_sum_of (fun vs H Q E h => ?_) (fun f cdv A outer s H vs Q E hr h => ?_)
  · obtain ⟨a, dx, w, r, v, rs, N, m, ws, rfl, _⟩ := h
    rfl
  · obtain ⟨a, dx, w, r, v, rs, N, m, ws, rfl, h, hv, hl, hN, q⟩ := h
    refine ⟨_, (pss_cons (ps_set (i := 2) sc_Arr_sum_of.nd rfl (.inl rfl) pe_int) (pss_cons (ps_for PassesOwn.never rfl (pi_range1 (by rfl) T.range (pa_cons (pe_op op_sub (pe_callB (lenR (K := K) rfl) (by rfl) T.len (by decide +kernel) (pa_cons (pv 1) pa_nil)) pe_int) pa_nil)) (pg_name (i := 3) sc_Arr_sum_of.nd rfl (.inl rfl)) (pss_cons (ps_set (i := 4) sc_Arr_sum_of.nd rfl (.inl rfl) (pe_ix (ixL (K := K) rfl) (pe_ix (ixL (K := K) rfl) (pe_f (K := K) rfl (pv 0) rfl) (pe_ix (ixL (K := K) rfl) (pv 1) (pv 3) (fun _ _ => rfl)) (fun _ _ => rfl)) (pe_ix (ixL (K := K) rfl) (pv 1) (pe_op op_add (pv 3) pe_int) (fun _ _ => rfl)) (fun _ _ => rfl))) (pss_cons (ps_if (PW.pt (pw_or (pt_cmp (pc_isN (pv 2))) (pw_or1 (pt_cmp (pc_isN (pv 4)))))) (pss_one (ps_ret pe_non)) pss_nil) (pss_one (ps_set (i := 2) sc_Arr_sum_of.nd rfl (.inl rfl) (pe_op op_add (pv 2) (pv 4))))))) (pss_one (ps_ret (pv 2))))), ?_⟩
    refine q_asg (v := .int 0) ev_c fun H1 e1 => ?_
    refine q_forR1 (n := (ws.length : Int) - 1) (ea_cons (ev_op (ev_is (ev_lenS (ev_var rfl) (ex_l e1 hv)) (by rw [List.length_map])) ev_c rv_I0) ea_nil) ⟨by omega, by omega⟩
      (fun k σ H2 => ∃ v3 v4 x, σ = [some (.ref a), some (.ref v), some (.int x), v3, v4] ∧ Ex H H2 ∧ sumL m (ws.take (k + 1)) = some x) (fun H2 e2 => ⟨none, none, 0, rfl, e1.trans e2, ?_⟩) ?_ ?_
    · cases ws with
      | nil => simp at hl
      | cons a r => rfl
    · rintro k σ H2 hk ⟨v3, v4, x, rfl, e2, hx⟩
      have hk1 : k < ws.length := by omega
      have hk2 : k + 1 < ws.length := by omega
      have g1 : ws[k]? = some ws[k] := List.getElem?_eq_getElem hk1
      have g2 : ws[k + 1]? = some ws[k + 1] := List.getElem?_eq_getElem hk2
      have hv2 := ex_l e2 hv
      have h2 := h.same e2
      refine q_asg (v := ov (m ws[k] ws[k + 1])) (ev_cell T (ev_var rfl) h2 (ev_op (ev_var rfl) (ev_var rfl) (rv_ixL hv2 (atI_nat (map_get g1)))) (ev_op (ev_var rfl) (ev_op (ev_var rfl) ev_c rv_I0) (rv_ixL hv2 (at_of (by show (k : Int) + 1 = ((k + 1 : Nat) : Int); omega) (map_get g2)))) (hN _ (List.getElem_mem hk1)) (hN _ (List.getElem_mem hk2))) fun H3 e3 => ?_
      have split : ws = ws.take k ++ ws[k] :: ws[k + 1] :: ws.drop (k + 2) := by
        rw [List.getElem_cons_drop hk2, List.getElem_cons_drop hk1, List.take_append_drop]
      have tk : ws.take (k + 1) = ws.take k ++ [ws[k]] := take_more g1
      have tk2 : ws.take (k + 1 + 1) = ws.take (k + 1) ++ [ws[k + 1]] := take_more g2
      cases em : m ws[k] ws[k + 1] with
      | none =>
        refine q_when (b := true) (et_or (a := false) (b := true) (et_isN (ev_var (v := .int x) rfl)) fun _ => et_isN (ev_var (v := .non) rfl)) (fun _ H4 e4 => ?_) (fun z => nomatch z)
        refine s_ret (v := .non) ev_c fun H5 e5 => ?_
        have := q H5 ((e2.trans e3).trans (e4.trans e5))
        rw [split, sumL_none _ _ _ _ em] at this
        exact this
      | some y =>
        refine q_when (b := false) (et_or (a := false) (b := false) (et_isN (ev_var (v := .int x) rfl)) fun _ => et_isN (ev_var (v := .int y) rfl)) (fun z => nomatch z) (fun _ H4 e4 => ?_)
        refine s_asg (v := .int (x + y)) (ev_op (ev_var rfl) (ev_var (v := .int y) rfl) rv_I0) fun H5 e5 => ⟨_, _, x + y, rfl, (e2.trans e3).trans (e4.trans e5), ?_⟩
        rw [tk2, tk, sumL_snoc, ← tk, hx, em]
        rfl
    · rintro σ H2 ⟨v3, v4, x, rfl, e2, hx⟩
      rw [show ((ws.length : Int) - 1).toNat + 1 = ws.length by omega, List.take_length] at hx
      rw [hx] at q
      exact s_ret (ev_var rfl) fun H3 e3 => q H3 (e2.trans e3)

/-! ### sums_to -/
def TabAt (H : Hp) (p : Addr) (N : Nat) (F : Nat → Nat → Option Int) (n : Nat) (ts : List Addr) : Prop := H p = some (.lst (rf ts)) ∧ ts.length = n ∧ ∀ (k : Nat) t, ts[k]? = some t → H t = some (.lst (row N (F k)))
theorem TabAt.same {H H' : Hp} {p : Addr} {N n : Nat} {F : Nat → Nat → Option Int} {ts : List Addr} (h : TabAt H p N F n ts) (e : Ex H H') : TabAt H' p N F n ts := ⟨e _ _ h.1, h.2.1, fun k t q => e _ _ (h.2.2 k t q)⟩
theorem TabAt.at {H : Hp} {p : Addr} {N n : Nat} {F : Nat → Nat → Option Int} {ts : List Addr} (h : TabAt H p N F n ts) {k : Nat} (hk : k < n) : ∃ t, ts[k]? = some t ∧ H t = some (.lst (row N (F k))) := by
  have hk' : k < ts.length := by rw [h.2.1]; exact hk
  exact ⟨ts[k], List.getElem?_eq_getElem hk', h.2.2 k _ (List.getElem?_eq_getElem hk')⟩
/-- table[k][i] -/
theorem ev_tab {σ : L2.St} {H : Hp} {ta ti tj : TE} {p : Addr} {N n k i : Nat} {F : Nat → Nat → Option Int} {ts : List Addr} (ha : Ev ta σ H (.ref p)) (h : TabAt H p N F n ts) (hi : Ev ti σ H (nv k)) (hj : Ev tj σ H (nv i)) (li : k < n) (lj : i < N) :
    Ev (tOp (rIxL K) (tOp (rIxL K) ta ti) tj) σ H (ov (F k i)) := by
  obtain ⟨t, ht, hrow⟩ := h.at li
  exact ev_op (ev_op ha hi (rv_ixL (.of h.1) (atI_nat (rf_get ht)))) hj (rv_ixL (.of hrow) (atI_nat (row_get lj)))
theorem colF_long (m : Up.Wt) (N g k : Nat) : longF N m (colF m N g k) = colF m N g (k + 1) := rfl
def spSumsTo (K : PySem.W.Frag) (c : Ad) : Sp := fun vs H Q _ => ∃ (a dx w r : Addr) (rs : List Addr) (N : Nat) (m : Up.Wt) (g k : Nat), vs = [.ref a, nv g, nv k] ∧ ArrAt c H a dx w r rs N m ∧ N ≤ 9 ∧ k ≤ 9 ∧
  ∀ p H' ts, Ex H H' → H p = none → (∀ t ∈ ts, H t = none) → TabAt H' p N (colF m N g) (k + 1) ts → Q (.ref p) H'
abbrev s_Arr_sums_to : Stmt := inClass (topS 1) 5
theorem sc_Arr_sums_to : FnScope ["self", "goal", "most", "found", "turn", "node"] ["self", "goal", "most"] (defScope s_Arr_sums_to) := ⟨rfl, rfl, rfl, by decide +kernel, rfl, by decide +kernel, by decide +kernel⟩
theorem dec_goal {i g : Nat} : decide (nv i = nv g) = decide (i = g) := by
  by_cases e : i = g
  · subst e; simp
  · have : ¬ (nv i = nv g) := fun z => e (Int.ofNat.inj (V.int.inj z))
    simp [e, this]
theorem ok_sums_to (T : Txt K mg c) (D : DefM K c.Arr "sums_to" "Arrows.sums_to" s_Arr_sums_to ["self", "goal", "most"]) (M_Arr_longer : Met P w K mg base CX0 1 c.Arr "longer" (spLonger K c)) : Met P w K mg base CX0 2 c.Arr "sums_to" (spSumsTo K c) := by
  refine met0 D T.arr sc_Arr_sums_to (fun vs H Q E h => ?_) (fun f cdv A outer s H vs Q E hr h => ?_)
  · obtain ⟨a, dx, w, r, rs, N, m, g, k, rfl, _⟩ := h
    rfl
  · obtain ⟨a, dx, w, r, rs, N, m, g, k, rfl, h, h9, k9, q⟩ := h
    refine ⟨_, (pss_cons (ps_set (i := 3) sc_Arr_sums_to.nd rfl (.inl rfl) (pe_lst (pa_cons (pe_lc (own := [("node", 5)]) rfl sc_Arr_sums_to.nd (pi_range1 (by rfl) T.range (pa_cons (pe_f (K := K) rfl (pv 0) rfl) pa_nil)) (blkOk_by (own := [("node", 5)]) (N := ["self", "goal", "most", "found", "turn", "node"]) (sc := defScope s_Arr_sums_to) (by decide +kernel)) (fun _ _ _ _ _ => (pg_name (i := 5) sc_Arr_sums_to.nd rfl (.inl rfl))) (fun _ _ _ _ _ => pts_nil) (fun _ _ _ _ _ => (pe_ifExp (pt_cmpR op_eq (pv 5) (pv 1) (nomark _)) pe_int pe_non))) pa_nil))) (pss_cons (ps_for PassesOwn.never rfl (pi_range1 (by rfl) T.range (pa_cons (pv 2) pa_nil)) (pg_name (i := 4) sc_Arr_sums_to.nd rfl (.inl rfl)) (pss_one (ps_expr (pe_bm PySem.F.plainAttrs_list PySem.F.slot_list_append PySem.F.type_list_append mt_append (pv 3) (pa_cons (pe_mt M_Arr_longer hr (by decide) pass0 (pv 0) (pa_cons (pe_ix (ixL (K := K) rfl) (pv 3) (pe_un un_neg pe_int) (fun _ _ => rfl)) pa_nil)) pa_nil))))) (pss_one (ps_ret (pv 3))))), ?_⟩
    refine q_asgP (ep_lst1 (xs := row N (colF m N g 0)) (el_is (el_lcR1 (n := (N : Int)) (fun _ => true) (fun i => ov (colF m N g 0 i)) (ea_cons (ev_many T (ev_var rfl) h) ea_nil) ⟨by omega, by omega⟩ (fun _ => rfl)
        (fun i H1 _ _ => fun H2 e2 Q q => q H2 (Ex.refl _)) (fun i H1 _ _ _ => ?_)) ?_)) fun v H1 e1 ⟨fd, t0, ev, nfd, n0, nt, hfd, h0⟩ => ?_
    · refine ev_if (b := decide (i = g)) (et_is (et_test (ev_op (ev_var rfl) (ev_var rfl) (rv_eq rfl))) dec_goal) (fun hb => ?_) (fun hb => ?_)
      · rw [show colF m N g 0 i = some 0 from if_pos (of_decide_eq_true hb)]
        exact ev_c
      · rw [show colF m N g 0 i = none from if_neg (of_decide_eq_false hb)]
        exact ev_c
    · rw [given_true, show ((N : Int)).toNat = N by omega]
      unfold row
      rw [List.map_map]
      rfl
    subst ev
    refine q_forR1 (n := (k : Int)) (ea_cons (ev_var rfl) ea_nil) ⟨by omega, by omega⟩ (fun i σ H2 => ∃ v4 ts, σ = [some (.ref a), some (nv g), some (nv k), some (.ref fd), v4, none] ∧ Ex H H2 ∧ TabAt H2 fd N (colF m N g) (i + 1) ts ∧ fd ∉ ts ∧ ∀ t ∈ ts, H t = none)
      (fun H2 e2 => ⟨none, [t0], rfl, e1.trans e2, ⟨e2 _ _ hfd, rfl, fun j t hj => ?_⟩, by simpa using nt.symm, by simpa using n0⟩) ?_ ?_
    · cases j with
      | zero =>
        cases hj
        exact e2 _ _ h0
      | succ j => simp at hj
    · rintro i σ H2 hi ⟨v4, ts, rfl, e2, hT, nT, fT⟩
      obtain ⟨t, ht, hrow⟩ := hT.at (Nat.lt_succ_self i)
      have hlast : (rf ts)[(rf ts).length - 1]? = some (.ref t) := by
        rw [List.length_map, hT.2.1, Nat.add_sub_cancel]
        exact rf_get ht
      refine s_appL hT.1 (ev_var rfl) (ys := row N (colF m N g (i + 1))) (el_meth (ev_var rfl) (h.same e2).me (arF_no _ _ _ (by decide +kernel) (by decide +kernel) (by decide +kernel)) (ea_cons (ev_op (ev_var rfl) (ev_un ev_c ru_neg) (rv_ixL (.of hT.1) (atI_back hlast))) ea_nil)
        fun H3 e3 Q q E => ⟨a, dx, w, r, t, rs, N, m, colF m N g i, rfl, h.same (e2.trans e3), h9, .of (e3 _ _ hrow), fun p H4 e4 np hp => q p H4 np e4 hp⟩) (by rw [List.length_map, hT.2.1]; omega) fun p H3 np e3 hp => ?_
      have npf : fd ≠ p := ne_of_none hT.1 np
      refine ⟨_, ts ++ [p], rfl, Ex.mut (e2.trans e3) nfd, ⟨by rw [upd_same]; simp [rf], by simp [hT.2.1], fun j t' hj => ?_⟩, ?_, ?_⟩
      · by_cases hji : j < ts.length
        · rw [List.getElem?_append_left hji] at hj
          rw [upd_ne (fun z => nT (by rw [← z]; exact List.mem_of_getElem? hj))]
          exact e3 _ _ (hT.2.2 j t' hj)
        · have hji' : j = ts.length := by
            have := (List.getElem?_eq_some_iff.mp hj).1
            simp at this
            omega
          subst hji'
          rw [List.getElem?_append_right (Nat.le_refl _), Nat.sub_self] at hj
          cases hj
          rw [upd_ne npf.symm, hp, hT.2.1]
      · intro z
        rcases List.mem_append.mp z with z | z
        · exact nT z
        · exact npf (List.mem_singleton.mp z)
      · intro t' z
        rcases List.mem_append.mp z with z | z
        · exact fT t' z
        · rw [List.mem_singleton.mp z]
          exact fresh_back e2 np
    · rintro σ H2 ⟨v4, ts, rfl, e2, hT, nT, fT⟩
      rw [show ((k : Int)).toNat = k by omega] at hT
      exact s_ret (ev_var rfl) fun H3 e3 => q fd H3 ts (e2.trans e3) nfd fT (hT.same e3)
end
end Uw
/-! W8: arrows: greatest_to, first_walk, has_ring, earliest, latest. -/
namespace Uw
open PySem PySem.Spec PyProof.Rows L2 Evl
open Vbwbai (State Op Link size opAt numbers more plus)
open Up (colF stepOk fwF greatF RingFree iterF zeros first0 growF)

/-! ### lists of numbers or None as data -/
def oD : Option Int → PyData
  | none => .none
  | some i => .int i
theorem oDs_lay : ∀ l : List (Option Int), PyData.canLayAll0 (l.map oD) = true
  | [] => by simp [PyData.canLayAll0]
  | none :: l => by simp [PyData.canLayAll0, oD, PyData.canLay0, oDs_lay l]
  | some i :: l => by simp [PyData.canLayAll0, oD, PyData.canLay0, oDs_lay l]
theorem oDs_deep : ∀ l : List (Option Int), PyData.depthAll (l.map oD) = 0
  | [] => by simp [PyData.depthAll]
  | none :: l => by simp [PyData.depthAll, oD, PyData.depth, oDs_deep l]
  | some i :: l => by simp [PyData.depthAll, oD, PyData.depth, oDs_deep l]
theorem oDs_shaped (l : List (Option Int)) : SeqAt.shaped (.list (l.map oD)) = true := by
  have h2 : PyData.depth (.list (l.map oD)) ≤ 64 := by
    simp only [PyData.depth, oDs_deep]
    omega
  have h3 : PyData.canLay0 (.list (l.map oD)) = true := by
    simp only [PyData.canLay0]
    exact oDs_lay l
  unfold SeqAt.shaped
  rw [h3, decide_eq_true h2]
  rfl
theorem oD_eqv : ∀ a b : Option Int, PyData.eqv (oD a) (oD b) = decide (a = b)
  | none, none => by simp [oD, PyData.eqv]
  | none, some b => by simp [oD, PyData.eqv]
  | some a, none => by simp [oD, PyData.eqv]
  | some a, some b => by
    simp only [oD, PyData.eqv]
    rw [Bool.eq_iff_iff]
    simp
theorem oDs_eqv : ∀ l l' : List (Option Int), PyData.eqvAll (l.map oD) (l'.map oD) = decide (l = l')
  | [], [] => by simp [PyData.eqvAll]
  | [], _ :: _ => by simp [PyData.eqvAll]
  | _ :: _, [] => by simp [PyData.eqvAll]
  | a :: l, b :: l' => by
    simp only [List.map_cons, PyData.eqvAll, oD_eqv, oDs_eqv l l']
    rw [Bool.eq_iff_iff]
    simp
theorem oDl_eqv (l l' : List (Option Int)) : PyData.eqv (.list (l.map oD)) (.list (l'.map oD)) = decide (l = l') := by
  simp only [PyData.eqv]
  exact oDs_eqv l l'
theorem dp_row {K : PySem.W.Frag} {H : Hp} : ∀ l : List (Option Int), DpAll K H (l.map ov) (l.map oD)
  | [] => .nil
  | none :: l => .cons .non (dp_row l)
  | some i :: l => .cons (.int i) (dp_row l)
theorem el_rep {σ : L2.St} {H : Hp} {ta tb : TE} {xs : List V} {k : Int} (ha : EvL ta σ H xs) (hb : Ev tb σ H (.int k)) (h0 : 0 ≤ k ∧ k ≤ 1000) (hl : xs.length ≤ 10) : EvL (tOp rRep ta tb) σ H (List.replicate k.toNat xs).flatten := fun H1 e1 Q q =>
  ha H1 e1 _ fun p H2 np e2 hp => hb H2 (e1.trans e2) _ fun H3 e3 => ⟨p, k, xs, rfl, rfl, e3 _ _ hp, by omega, by omega, by
    have : xs.length * k.toNat ≤ 10 * 1000 := Nat.mul_le_mul hl (by omega)
    exact few (by omega), fun n nn => q n _ (fresh_back (e2.trans e3) nn) ((e2.trans e3).trans (Ex.new nn)) upd_same⟩
theorem rep_flat {α : Type} (x : α) : ∀ n, (List.replicate n [x]).flatten = List.replicate n x
  | 0 => rfl
  | n + 1 => by
    rw [List.replicate_succ, List.flatten_cons, rep_flat x n, List.replicate_succ]
    rfl
theorem row_const (N : Nat) (o : Option Int) : row N (fun _ => o) = List.replicate N (ov o) := by
  unfold row
  rw [List.map_map]
  apply List.ext_getElem
  · simp
  · intro i h1 h2
    simp
theorem row_first {N : Nat} (h : 0 < N) : row N first0 = [V.int 0] ++ List.replicate (N - 1) V.non := by
  obtain ⟨n, rfl⟩ : ∃ n, N = n + 1 := ⟨N - 1, by omega⟩
  unfold row
  rw [List.range_succ_eq_map, List.map_cons, List.map_cons, List.map_map, List.map_map]
  show V.int 0 :: _ = V.int 0 :: _
  congr 1
  rw [Nat.add_sub_cancel]
  apply List.ext_getElem
  · simp
  · intro i h1 h2
    rw [List.getElem_map, List.getElem_range]
    show ov (first0 (i + 1)) = _
    rw [show first0 (i + 1) = none from if_neg (by omega)]
    exact (List.eq_of_mem_replicate (List.getElem_mem (l := List.replicate n V.non) (by simpa using h2))).symm
section
variable {P : Program} {w : World} {K : PySem.W.Frag} {mg : Str → Option Value} {base : Heap} {c : Ad}
/-! ### greatest_to -/
def greatL (m : Up.Wt) (N g a : Nat) : List Int := (List.range (N + 1)).filterMap fun k => colF m N g k a
theorem greatL_max (m : Up.Wt) (N g a : Nat) : Up.IsMax (fun x => x ∈ greatL m N g a) (greatF m N g a) := by
  refine (Up.foldMore (f := fun k => colF m N g k a) (List.range (N + 1)) none Up.isMax_none).congr fun x => ?_
  unfold greatL
  rw [List.mem_filterMap]
  exact ⟨fun q => q.elim (fun z => z.elim) id, .inr⟩
def spGreatest (K : PySem.W.Frag) (c : Ad) : Sp := fun vs H Q _ => ∃ (a dx w r : Addr) (rs : List Addr) (N : Nat) (m : Up.Wt) (g : Nat), vs = [.ref a, nv g] ∧ ArrAt c H a dx w r rs N m ∧ N ≤ 9 ∧ RL (row N (greatF m N g)) H Q
/-- self.sums_to(goal, most) -/
theorem ep_sums {K : PySem.W.Frag} {σ : L2.St} {H : Hp} {ta tg tk : TE} {a dx w r : Addr} {rs : List Addr} {N g k : Nat} {m : Up.Wt} (ha : Ev ta σ H (.ref a)) (h : ArrAt c H a dx w r rs N m) (h9 : N ≤ 9) (k9 : k ≤ 9) (hg : Ev tg σ H (nv g)) (hk : Ev tk σ H (nv k)) :
    EvP (tMeth c.Arr "sums_to" (spSumsTo K c) [] E0 ta (tCons tg (tCons tk tNil))) σ H (fun v H2 => ∃ p ts, v = .ref p ∧ TabAt H2 p N (colF m N g) (k + 1) ts) :=
  ep_meth ha h.me (arF_no _ _ _ (by decide +kernel) (by decide +kernel) (by decide +kernel)) (ea_cons hg (ea_cons hk ea_nil)) fun H1 e1 Q q E => ⟨a, dx, w, r, rs, N, m, g, k, rfl, h.same e1, h9, k9, fun p H2 ts e2 _ _ hT => q _ _ e2 ⟨p, ts, rfl, hT⟩⟩
abbrev s_Arr_greatest_to : Stmt := inClass (topS 1) 8
theorem sc_Arr_greatest_to : FnScope ["self", "goal", "sums", "found", "node", "some", "row"] ["self", "goal"] (defScope s_Arr_greatest_to) := ⟨rfl, rfl, rfl, by decide +kernel, rfl, by decide +kernel, by decide +kernel⟩
theorem ok_greatest_to (T : Txt K mg c) (D : DefM K c.Arr "greatest_to" "Arrows.greatest_to" s_Arr_greatest_to ["self", "goal"]) (M_Arr_sums_to : Met P w K mg base CX0 2 c.Arr "sums_to" (spSumsTo K c)) : Met P w K mg base CX0 3 c.Arr "greatest_to" (spGreatest K c) := by
  refine met0 D T.arr sc_Arr_greatest_to (fun vs H Q E h => ?_) (fun f cdv A outer s H vs Q E hr h => ?_)
  · obtain ⟨a, dx, w, r, rs, N, m, g, rfl, _⟩ := h
    rfl
  · obtain ⟨a, dx, w, r, rs, N, m, g, rfl, h, h9, q⟩ := h
    refine ⟨_, (pss_cons (ps_set (i := 2) sc_Arr_greatest_to.nd rfl (.inl rfl) (pe_mt M_Arr_sums_to hr (by decide) pass0 (pv 0) (pa_cons (pv 1) (pa_cons (pe_f (K := K) rfl (pv 0) rfl) pa_nil)))) (pss_cons (ps_set (i := 3) sc_Arr_greatest_to.nd rfl (.inl rfl) (pe_lst pa_nil)) (pss_cons (ps_for PassesOwn.never rfl (pi_range1 (by rfl) T.range (pa_cons (pe_f (K := K) rfl (pv 0) rfl) pa_nil)) (pg_name (i := 4) sc_Arr_greatest_to.nd rfl (.inr rfl)) (pss_cons (ps_setLc (i := 5) (own := [("row", 6)]) rfl sc_Arr_greatest_to.nd rfl rfl (sw_true rfl rfl rfl (by decide +kernel)) (pi_list (pv 2)) (blkOk_by (own := [("row", 6)]) (N := ["self", "goal", "sums", "found", "node", "some", "row"]) (sc := defScope s_Arr_greatest_to) (by decide +kernel)) (fun _ _ _ _ _ => (pg_name (i := 6) sc_Arr_greatest_to.nd rfl (.inl rfl))) (fun _ _ _ _ _ => (pts_one (pt_cmp (pc_notN (pe_ix (ixL (K := K) rfl) (pv 6) (pv 4) (fun _ _ => rfl)))))) (fun _ _ _ _ _ => (pe_ix (ixL (K := K) rfl) (pv 6) (pv 4) (fun _ _ => rfl)))) (pss_one (ps_expr (pe_bm PySem.F.plainAttrs_list PySem.F.slot_list_append PySem.F.type_list_append mt_append (pv 3) (pa_cons (pe_ifExp (pt_cmpR (op_neE hr.units0) (pv 5) (pe_lst pa_nil) (nomark _)) (pe_callB (cr_max rfl) (by rfl) T.max (by decide +kernel) (pa_cons (pv 5) pa_nil)) pe_non) pa_nil)))))) (pss_one (ps_ret (pv 3)))))), ?_⟩
    refine q_asgP (ep_sums (ev_var rfl) h h9 h9 (ev_var rfl) (ev_many T (ev_var rfl) h)) fun v H1 e1 ⟨p, ts, ev, hT⟩ => ?_
    subst ev
    refine q_asgL (xs := []) (el_lst ea_nil (Nat.zero_le _)) fun fd H2 nfd e2 hfd => ?_
    have nfd0 := fresh_back e1 nfd
    refine q_forR1 (n := (N : Int)) (ea_cons (ev_many T (ev_var rfl) (h.same (e1.trans e2))) ea_nil) ⟨by omega, by omega⟩ (fun i σ H3 => ∃ v4 v5 v6, σ = [some (.ref a), some (nv g), some (.ref p), some (.ref fd), v4, v5, v6] ∧ Ex H1 H3 ∧ H3 fd = some (.lst (row i (greatF m N g))))
      (fun H3 e3 => ⟨none, none, none, rfl, e2.trans e3, e3 _ _ hfd⟩) ?_ ?_
    · rintro i σ H3 hi ⟨v4, v5, v6, rfl, e3, hf⟩
      have hi' : i < N := by omega
      have hT3 := hT.same e3
      have hlen : (rf ts).length = N + 1 := by rw [List.length_map, hT.2.1]
      refine q_asgL (xs := (greatL m N g i).map V.int) (el_is (el_lcL (a := p) (xs := rf ts) (fun k => (colF m N g k i).isSome) (fun k => ov (colF m N g k i)) (ev_var rfl) (.of hT3.1) (by rw [hlen]; omega) (fun _ => rfl) (fun k x H4 e4 hx => ?_) (fun k x H4 e4 hx _ => ?_)) ?_) fun sm H4 nsm e4 hsm => ?_
      · obtain ⟨t, ht, rfl⟩ := rf_get' hx
        exact et_is (et_notN (ev_rowi (ev_var rfl) (.of (e4 _ _ (hT3.2.2 k t ht))) (ev_var rfl) hi')) ov_not
      · obtain ⟨t, ht, rfl⟩ := rf_get' hx
        exact ev_rowi (ev_var rfl) (.of (e4 _ _ (hT3.2.2 k t ht))) (ev_var rfl) hi'
      · rw [hlen, given_some]
        rfl
      · refine s_app (e4 _ _ hf) (ev_var rfl) (ev_maxOr (fun H5 _ => ev_var rfl) hsm (greatL_max m N g i)) (by rw [row_len]; omega) fun H5 e5 => ⟨_, _, _, rfl, Ex.mut ((e3.trans e4).trans e5) nfd, ?_⟩
        rw [upd_same, row_more]
    · rintro σ H3 ⟨v4, v5, v6, rfl, e3, hf⟩
      rw [show ((N : Int)).toNat = N by omega] at hf
      exact s_ret (ev_var rfl) fun H4 e4 => q fd H4 (e1.trans (e3.trans e4)) nfd0 (e4 _ _ hf)

/-! ### first_walk -/
theorem rgc_down {k : Nat} (h : k ≤ 1000) : RgC (k : Int) 0 (-1) k := by
  have := RgC.neg (i := (k : Int)) (j := 0) (by omega) (by omega) (by omega) (by omega)
  rwa [show ((k : Int) - 0).toNat = k by omega] at this
theorem fw_next {m : Up.Wt} {N g k a d : Nat} (h : (List.range N).find? (stepOk m N g k a) = some d) : fwF m N g (k + 1) a = d :: fwF m N g k d := by
  show (match (List.range N).find? (stepOk m N g k a) with | none => [] | some c => c :: fwF m N g k c) = _
  rw [h]
def spFirst (c : Ad) : Sp := fun vs H Q _ => ∃ (a dx w r p : Addr) (rs ts : List Addr) (N n : Nat) (m : Up.Wt) (g b k : Nat) (x : Int), vs = [.ref a, .ref p, nv b, nv k] ∧ ArrAt c H a dx w r rs N m ∧ N ≤ 9 ∧ TabAt H p N (colF m N g) n ts ∧ k < n ∧ n ≤ 100 ∧ b < N ∧ g < N ∧ colF m N g k b = some x ∧
  RL (nodes (b :: fwF m N g k b)) H Q
theorem head_filter {p : Nat → Bool} {l : List Nat} {d : Nat} (h : l.find? p = some d) : ∃ r, l.filter p = d :: r := by
  have := List.head?_filter (p := p) (l := l)
  rw [h] at this
  cases hf : l.filter p with
  | nil => rw [hf] at this; cases this
  | cons z r =>
    rw [hf] at this
    cases this
    exact ⟨r, rfl⟩
abbrev s_Arr_first_walk : Stmt := inClass (topS 1) 6
theorem sc_Arr_first_walk : FnScope ["self", "sums", "begin", "many", "found", "left", "here", "total", "row", "steps", "node"] ["self", "sums", "begin", "many"] (defScope s_Arr_first_walk) := ⟨rfl, rfl, rfl, by decide +kernel, rfl, by decide +kernel, by decide +kernel⟩
theorem ok_first_walk (T : Txt K mg c) (D : DefM K c.Arr "first_walk" "Arrows.first_walk" s_Arr_first_walk ["self", "sums", "begin", "many"]) : Met P w K mg base CX0 1 c.Arr "first_walk" (spFirst c) := by
  refine met0 D T.arr sc_Arr_first_walk (fun vs H Q E h => ?_) (fun f cdv A outer s H vs Q E hr h => ?_)
  · obtain ⟨a, dx, w, r, p, rs, ts, N, n, m, g, b, k, x, rfl, _⟩ := h
    rfl
  · obtain ⟨a, dx, w, r, p, rs, ts, N, n, m, g, b, k, x, rfl, h, h9, hT, hk, hn, hb, hg, hx, q⟩ := h
    refine ⟨_, (pss_cons (ps_set (i := 4) sc_Arr_first_walk.nd rfl (.inl rfl) (pe_lst (pa_cons (pv 2) pa_nil))) (pss_cons (ps_for PassesOwn.never rfl (pi_range3 (by rfl) T.range (pa_cons (pv 3) (pa_cons pe_int (pa_cons (pe_un un_neg pe_int) pa_nil)))) (pg_name (i := 5) sc_Arr_first_walk.nd rfl (.inl rfl)) (pss_cons (ps_set (i := 6) sc_Arr_first_walk.nd rfl (.inl rfl) (pe_ix (ixL (K := K) rfl) (pv 4) (pe_un un_neg pe_int) (fun _ _ => rfl))) (pss_cons (ps_set (i := 7) sc_Arr_first_walk.nd rfl (.inl rfl) (pe_ix (ixL (K := K) rfl) (pe_ix (ixL (K := K) rfl) (pv 1) (pv 5) (fun _ _ => rfl)) (pv 6) (fun _ _ => rfl))) (pss_cons (ps_set (i := 8) sc_Arr_first_walk.nd rfl (.inl rfl) (pe_ix (ixL (K := K) rfl) (pe_f (K := K) rfl (pv 0) rfl) (pv 6) (fun _ _ => rfl))) (pss_cons (ps_set (i := 9) sc_Arr_first_walk.nd rfl (.inl rfl) (pe_lst pa_nil)) (pss_cons (ps_for PassesOwn.never rfl (pi_range1 (by rfl) T.range (pa_cons (pe_f (K := K) rfl (pv 0) rfl) pa_nil)) (pg_name (i := 10) sc_Arr_first_walk.nd rfl (.inl rfl)) (pss_one (ps_if (PW.pt (pw_and (pt_cmp (pc_notN (pe_ix (ixL (K := K) rfl) (pv 8) (pv 10) (fun _ _ => rfl)))) (pw_and1 (pt_cmp (pc_notN (pe_ix (ixL (K := K) rfl) (pe_ix (ixL (K := K) rfl) (pv 1) (pe_op op_sub (pv 5) pe_int) (fun _ _ => rfl)) (pv 10) (fun _ _ => rfl))))))) (pss_one (ps_if (pt_cmpR op_eq (pe_op op_add (pe_ix (ixL (K := K) rfl) (pv 8) (pv 10) (fun _ _ => rfl)) (pe_ix (ixL (K := K) rfl) (pe_ix (ixL (K := K) rfl) (pv 1) (pe_op op_sub (pv 5) pe_int) (fun _ _ => rfl)) (pv 10) (fun _ _ => rfl))) (pv 7) (nomark _)) (pss_one (ps_expr (pe_bm PySem.F.plainAttrs_list PySem.F.slot_list_append PySem.F.type_list_append mt_append (pv 9) (pa_cons (pv 10) pa_nil)))) pss_nil)) pss_nil))) (pss_one (ps_expr (pe_bm PySem.F.plainAttrs_list PySem.F.slot_list_append PySem.F.type_list_append mt_append (pv 4) (pa_cons (pe_ix (ixL (K := K) rfl) (pv 9) pe_int (fun _ _ => rfl)) pa_nil)))))))))) (pss_one (ps_ret (pv 4))))), ?_⟩
    refine q_asgL (xs := [nv b]) (el_lst (ea_cons (ev_var rfl) ea_nil) (by show 1 ≤ 100000; decide)) fun fd H1 nfd e1 hfd => ?_
    refine ⟨_, rfl, 1, rfl, (k : Int), 0, -1, k, rfl, rgc_down (by omega), for_rangeC (lo := (k : Int)) (c := -1) (n := k) (fun i σ H2 => ∃ v5 v6 v7 v8 v9 v10 pre cc y, σ = [some (.ref a), some (.ref p), some (nv b), some (nv k), some (.ref fd), v5, v6, v7, v8, v9, v10] ∧ Ex H H2 ∧ H2 fd = some (.lst (nodes (pre ++ [cc]))) ∧
      pre.length = i ∧ cc < N ∧ b :: fwF m N g k b = pre ++ cc :: fwF m N g (k - i) cc ∧ colF m N g (k - i) cc = some y) ⟨none, none, none, none, none, none, [], b, x, rfl, e1, hfd, rfl, hb, rfl, hx⟩ ?_ ?_⟩
    · rintro i σ H2 hi ⟨v5, v6, v7, v8, v9, v10, pre, cc, y, rfl, e2, hf, hpl, hcc, hsp, hy⟩
      have el : (k : Int) + (i : Nat) * -1 = ((k - i : Nat) : Int) := by omega
      rw [el]
      obtain ⟨l, hl⟩ : ∃ l, k - i = l + 1 := ⟨k - i - 1, by omega⟩
      rw [hl] at hy hsp ⊢
      obtain ⟨d, hd, hdN, hds⟩ := Up.find_some' hg hcc hy
      have hT2 := hT.same e2
      have h2 := h.same e2
      have hlast : (nodes (pre ++ [cc]))[(nodes (pre ++ [cc])).length - 1]? = some (nv cc) := by simp
      show tSeq _ _ _ _ _
      refine q_asg (v := nv cc) (ev_op (ev_var rfl) (ev_un ev_c ru_neg) (rv_ixL (.of hf) (atI_back hlast))) fun H3 e3 => ?_
      refine q_asg (v := .int y) (ev_is (ev_tab (ev_var rfl) (hT2.same e3) (ev_var rfl) (ev_var rfl) (by omega) hcc) (by rw [hy]; rfl)) fun H4 e4 => ?_
      have e34 := e3.trans e4
      obtain ⟨rp, hrp, hrow⟩ := (h2.same e34).at hcc
      refine q_asg (v := .ref rp) (ev_op (ev_fld (ev_var rfl) (h2.same e34).me T.arr T.arr_rows (arF_rows ..)) (ev_var rfl) (rv_ixL (.of (h2.same e34).rows) (atI_nat (rf_get hrp)))) fun H5 e5 => ?_
      refine q_asgL (xs := []) (el_lst ea_nil (Nat.zero_le _)) fun sp H6 nsp e6 hsp6 => ?_
      have e36 := e34.trans (e5.trans e6)
      have nsp0 : H sp = none := fresh_back (e2.trans (e34.trans e5)) nsp
      have nfs : fd ≠ sp := ne_of_none (e5 _ _ (e34 _ _ hf)) nsp
      have hrow6 := (e5.trans e6) _ _ hrow
      refine q_forR1 (n := (N : Int)) (ea_cons (ev_many T (ev_var rfl) (h2.same e36)) ea_nil) ⟨by omega, by omega⟩ (fun j σ H7 => ∃ v10, σ = [some (.ref a), some (.ref p), some (nv b), some (nv k), some (.ref fd), some (nv (l + 1)), some (nv cc), some (.int y), some (.ref rp), some (.ref sp), v10] ∧ Ex H H7 ∧ H7 fd = some (.lst (nodes (pre ++ [cc]))) ∧ H7 rp = some (.lst (row N (m cc))) ∧
        H7 sp = some (.lst (nodes ((List.range j).filter (stepOk m N g l cc))))) (fun H7 e7 => ⟨v10, rfl, e2.trans (e36.trans e7), e7 _ _ (e36 _ _ hf), e7 _ _ hrow6, e7 _ _ hsp6⟩) ?_ ?_
      · rintro j σ H7 hj ⟨v10', rfl, e7, hf7, hr7, hs7⟩
        have hj' : j < N := by omega
        have hT7 := hT.same e7
        have tb : ∀ H8, Ex H7 H8 → Ev (tOp (rIxL K) (tOp (rIxL K) (tVar 1) (tOp (rI0 fun i j => .int (i - j)) (tVar 5) (tC (.int 1)))) (tVar 10)) [some (.ref a), some (.ref p), some (nv b), some (nv k), some (.ref fd), some (nv (l + 1)), some (nv cc), some (.int y), some (.ref rp), some (.ref sp), some (nv j)] H8 (ov (colF m N g l j)) := fun H8 e8 =>
          ev_tab (ev_var rfl) (hT7.same e8) (ev_is (ev_op (ev_var rfl) ev_c rv_I0) (by show V.int (((l + 1 : Nat) : Int) - 1) = V.int (l : Int); congr 1; omega)) (ev_var rfl) (by omega) hj'
        have rw8 : ∀ H8, Ex H7 H8 → Ev (tOp (rIxL K) (tVar 8) (tVar 10)) [some (.ref a), some (.ref p), some (nv b), some (nv k), some (.ref fd), some (nv (l + 1)), some (nv cc), some (.int y), some (.ref rp), some (.ref sp), some (nv j)] H8 (ov (m cc j)) := fun H8 e8 => ev_rowi (ev_var rfl) (.of (e8 _ _ hr7)) (ev_var rfl) hj'
        have stay : stepOk m N g l cc j = false → ∀ H8, Ex H7 H8 → ∃ v10, [some (V.ref a), some (.ref p), some (nv b), some (nv k), some (.ref fd), some (nv (l + 1)), some (nv cc), some (.int y), some (.ref rp), some (.ref sp), some (nv j)] = [some (.ref a), some (.ref p), some (nv b), some (nv k), some (.ref fd), some (nv (l + 1)), some (nv cc), some (.int y), some (.ref rp), some (.ref sp), v10] ∧ Ex H H8 ∧ H8 fd = some (.lst (nodes (pre ++ [cc]))) ∧ H8 rp = some (.lst (row N (m cc))) ∧
            H8 sp = some (.lst (nodes ((List.range (j + 1)).filter (stepOk m N g l cc)))) := fun hno H8 e8 => ⟨_, rfl, e7.trans e8, e8 _ _ hf7, e8 _ _ hr7, by
              rw [List.range_succ, List.filter_append, List.filter_cons_of_neg (by simp [hno]), List.filter_nil, List.append_nil]
              exact e8 _ _ hs7⟩
        refine s_when (b := (m cc j).isSome && (colF m N g l j).isSome) (et_and (et_is (et_notN (rw8 H7 (Ex.refl _))) ov_not) fun _ => et_is (et_notN (tb H7 (Ex.refl _))) ov_not) (fun hb1 H8 e8 => ?_) (fun hb1 H8 e8 => ?_)
        · rw [Bool.and_eq_true] at hb1
          obtain ⟨u, hu⟩ := Option.isSome_iff_exists.mp hb1.1
          obtain ⟨v, hv⟩ := Option.isSome_iff_exists.mp hb1.2
          have hst : stepOk m N g l cc j = decide (u + v = y) := by
            rw [Bool.eq_iff_iff, Up.stepOk_iff, decide_eq_true_iff]
            constructor
            · rintro ⟨u', v', f1, f2, f3⟩
              rw [hu] at f1
              rw [hv] at f2
              rw [hy] at f3
              cases f1
              cases f2
              exact (Option.some.inj f3).symm
            · intro e
              exact ⟨u, v, hu, hv, by rw [hy, e]⟩
          refine s_when (b := decide (V.int (u + v) = V.int y)) (et_test (ev_op (ev_op (ev_is (rw8 H8 e8) (by rw [hu]; rfl)) (ev_is (tb H8 e8) (by rw [hv]; rfl)) rv_I0) (ev_var rfl) (rv_eq rfl))) (fun hb2 H9 e9 => ?_) (fun hb2 H9 e9 => ?_)
          · have hyes : stepOk m N g l cc j = true := by rw [hst]; exact decide_eq_true (V.int.inj (of_decide_eq_true hb2))
            refine s_app (v := nv j) (e9 _ _ (e8 _ _ hs7)) (ev_var rfl) (ev_var rfl) (by
              have := List.length_filter_le (stepOk m N g l cc) (List.range j)
              rw [List.length_map]
              rw [List.length_range] at this
              omega) fun H10 e10 => ⟨_, rfl, Ex.mut ((e7.trans e8).trans (e9.trans e10)) nsp0, ?_, ?_, ?_⟩
            · rw [upd_ne nfs]
              exact e10 _ _ (e9 _ _ (e8 _ _ hf7))
            · rw [upd_ne (show rp ≠ sp from ne_of_none (e5 _ _ hrow) nsp)]
              exact e10 _ _ (e9 _ _ (e8 _ _ hr7))
            · rw [upd_same, List.range_succ, List.filter_append, List.filter_cons_of_pos hyes, List.filter_nil]
              simp [nodes]
          · exact stay (by rw [hst]; exact decide_eq_false fun z => of_decide_eq_false hb2 (by rw [z])) H9 (e8.trans e9)
        · refine stay ?_ H8 e8
          unfold stepOk
          cases hu : m cc j with
          | none => rfl
          | some u =>
            cases hv : colF m N g l j with
            | none => rfl
            | some v => rw [hu, hv] at hb1; cases hb1
      · rintro σ H7 ⟨v10', rfl, e7, hf7, hr7, hs7⟩
        rw [show ((N : Int)).toNat = N by omega] at hs7
        obtain ⟨rest, hrest⟩ := head_filter hd
        rw [hrest] at hs7
        refine s_app (v := nv d) hf7 (ev_var rfl) (ev_op (ev_var rfl) ev_c (rv_ixL (.of hs7) (atI_nat (j := 0) rfl))) (by rw [List.length_map, List.length_append, hpl]; show i + 1 < 100000; omega) fun H8 e8 => ?_
        obtain ⟨u, v, s1, s2, s3⟩ := Up.stepOk_iff.mp hds
        have hl2 : k - (i + 1) = l := by omega
        refine ⟨_, _, _, _, _, _, pre ++ [cc], d, v, rfl, Ex.mut (e7.trans e8) nfd, ?_, by simp [hpl], hdN, ?_, by rw [hl2]; exact s2⟩
        · rw [upd_same]
          simp [nodes]
        · rw [hl2, hsp, fw_next hd]
          simp
    · rintro σ H2 ⟨v5, v6, v7, v8, v9, v10, pre, cc, y, rfl, e2, hf, hpl, hcc, hsp, hy⟩
      refine s_ret (ev_var rfl) fun H3 e3 => q fd H3 (e2.trans e3) nfd ?_
      rw [e3 _ _ hf, hsp, Nat.sub_self]
      rfl
end
end Uw
/-! W9: arrows: has_ring, earliest, latest, ring. -/
namespace Uw
open PySem PySem.Spec PyProof.Rows L2 Evl
open Vbwbai (State Op Link size opAt numbers more plus)
open Up (colF stepOk fwF greatF RingFree iterF zeros first0 growF ringP diag)

section
variable {P : Program} {w : World} {K : PySem.W.Frag} {mg : Str → Option Value} {base : Heap} {c : Ad}
theorem el_grown {σ : L2.St} {H : Hp} {ta tv : TE} {a dx w r v : Addr} {rs : List Addr} {N : Nat} {m : Up.Wt} {f : Nat → Option Int} (ha : Ev ta σ H (.ref a)) (h : ArrAt c H a dx w r rs N m) (h9 : N ≤ 9) (hv : Ev tv σ H (.ref v)) (hr : H v = some (.lst (row N f))) :
    EvL (tMeth c.Arr "grown" (spGrown K c) [] E0 ta (tCons tv tNil)) σ H (row N (growF m N f)) :=
  el_meth ha h.me (arF_no _ _ _ (by decide +kernel) (by decide +kernel) (by decide +kernel)) (ea_cons hv ea_nil) fun H1 e1 Q q E => ⟨a, dx, w, r, v, rs, N, m, f, rfl, h.same e1, h9, .of (e1 _ _ hr), fun p H2 e2 n hp => q p H2 n e2 hp⟩
/-! ### has_ring -/
def spHasRing (c : Ad) : Sp := fun vs H Q _ => ∃ (a dx w r : Addr) (rs : List Addr) (N : Nat) (m : Up.Wt), vs = [.ref a] ∧ ArrAt c H a dx w r rs N m ∧ N ≤ 9 ∧ ∀ b : Bool, (b = true ↔ ¬ RingFree m N) → RV' (.bl b) H Q
abbrev s_Arr_has_ring : Stmt := inClass (topS 1) 10
theorem sc_Arr_has_ring : FnScope ["self", "sums", "turn"] ["self"] (defScope s_Arr_has_ring) := ⟨rfl, rfl, rfl, by decide +kernel, rfl, by decide +kernel, by decide +kernel⟩
theorem fix_dec (m : Up.Wt) (N : Nat) : (!decide ((List.range N).map (growF m N (iterF m N zeros N)) = (List.range N).map (iterF m N zeros N))) = true ↔ ¬ RingFree m N := by
  rw [← Up.fix_free]
  simp only [Bool.not_eq_true', decide_eq_false_iff_not]
  refine not_congr ⟨fun h v hv => ?_, fun h => List.map_congr_left fun v hv => h v (List.mem_range.mp hv)⟩
  have h1 : ((List.range N).map (growF m N (iterF m N zeros N)))[v]? = ((List.range N).map (iterF m N zeros N))[v]? := by rw [h]
  rw [List.getElem?_map, List.getElem?_map, List.getElem?_range hv] at h1
  exact Option.some.inj h1
theorem ok_has_ring (T : Txt K mg c) (D : DefM K c.Arr "has_ring" "Arrows.has_ring" s_Arr_has_ring ["self"]) (M_Arr_grown : Met P w K mg base CX0 1 c.Arr "grown" (spGrown K c)) : Met P w K mg base CX0 2 c.Arr "has_ring" (spHasRing c) := by
  refine met0 D T.arr sc_Arr_has_ring (fun vs H Q E h => ?_) (fun f cdv A outer s H vs Q E hr h => ?_)
  · obtain ⟨a, dx, w, r, rs, N, m, rfl, _⟩ := h
    rfl
  · obtain ⟨a, dx, w, r, rs, N, m, rfl, h, h9, q⟩ := h
    refine ⟨_, (pss_cons (ps_set (i := 1) sc_Arr_has_ring.nd rfl (.inl rfl) (pe_op op_rep (pe_lst (pa_cons pe_int pa_nil)) (pe_f (K := K) rfl (pv 0) rfl))) (pss_cons (ps_for PassesOwn.never rfl (pi_range1 (by rfl) T.range (pa_cons (pe_f (K := K) rfl (pv 0) rfl) pa_nil)) (pg_name (i := 2) sc_Arr_has_ring.nd rfl (.inl rfl)) (pss_one (ps_set (i := 1) sc_Arr_has_ring.nd rfl (.inl rfl) (pe_mt M_Arr_grown hr (by decide) pass0 (pv 0) (pa_cons (pv 1) pa_nil))))) (pss_one (ps_ret (pe_cmpR (op_neD hr.units) (pe_mt M_Arr_grown hr (by decide) pass0 (pv 0) (pa_cons (pv 1) pa_nil)) (pv 1) (nomark _)))))), ?_⟩
    refine q_asgL (xs := row N zeros) (el_is (el_rep (k := (N : Int)) (el_lst (ea_cons ev_c ea_nil) (by show 1 ≤ 100000; decide)) (ev_many T (ev_var rfl) h) ⟨by omega, by omega⟩ (by show 1 ≤ 10; decide)) (by rw [rep_flat, row_const]; rfl)) fun p H1 np e1 hp => ?_
    refine q_forR1 (n := (N : Int)) (ea_cons (ev_many T (ev_var rfl) (h.same e1)) ea_nil) ⟨by omega, by omega⟩ (fun k σ H2 => ∃ v2 p, σ = [some (.ref a), some (.ref p), v2] ∧ Ex H H2 ∧ H2 p = some (.lst (row N (iterF m N zeros k))))
      (fun H2 e2 => ⟨none, p, rfl, e1.trans e2, e2 _ _ hp⟩) ?_ ?_
    · rintro k σ H2 hk ⟨v2, p, rfl, e2, hp⟩
      exact s_asgL (el_grown (ev_var rfl) (h.same e2) h9 (ev_var rfl) hp) fun p' H3 np' e3 hp' => ⟨_, p', rfl, e2.trans e3, hp'⟩
    · rintro σ H2 ⟨v2, p, rfl, e2, hp⟩
      rw [show ((N : Int)).toNat = N by omega] at hp
      refine (el_grown (ev_var rfl) (h.same e2) h9 (ev_var rfl) hp) H2 (Ex.refl _) _ fun p' H3 np' e3 hp' => ⟨_, rfl, ?_⟩
      refine ⟨.list (((List.range N).map (growF m N (iterF m N zeros N))).map oD), .list (((List.range N).map (iterF m N zeros N)).map oD), .lst (.of hp') (dp_row _), .lst (.of (e3 _ _ hp)) (dp_row _), oDs_shaped _, oDs_shaped _, ?_⟩
      rw [oDl_eqv]
      exact q _ (fix_dec m N) H3 (e2.trans e3)

/-! ### earliest -/
def earL (m : Up.Wt) (N : Nat) : List V := (((List.range N).map (iterF m N first0 N)).drop 1).map ov
def spEarliest (c : Ad) : Sp := fun vs H Q _ => ∃ (a dx w r : Addr) (rs : List Addr) (N : Nat) (m : Up.Wt), vs = [.ref a] ∧ ArrAt c H a dx w r rs N m ∧ (0 < N ∧ N ≤ 9) ∧ RL (earL m N) H Q
abbrev s_Arr_earliest : Stmt := inClass (topS 1) 11
theorem sc_Arr_earliest : FnScope ["self", "sums", "turn"] ["self"] (defScope s_Arr_earliest) := ⟨rfl, rfl, rfl, by decide +kernel, rfl, by decide +kernel, by decide +kernel⟩
theorem ok_arr_earliest (T : Txt K mg c) (D : DefM K c.Arr "earliest" "Arrows.earliest" s_Arr_earliest ["self"]) (M_Arr_grown : Met P w K mg base CX0 1 c.Arr "grown" (spGrown K c)) : Met P w K mg base CX0 2 c.Arr "earliest" (spEarliest c) := by
  refine met0 D T.arr sc_Arr_earliest (fun vs H Q E h => ?_) (fun f cdv A outer s H vs Q E hr h => ?_)
  · obtain ⟨a, dx, w, r, rs, N, m, rfl, _⟩ := h
    rfl
  · obtain ⟨a, dx, w, r, rs, N, m, rfl, h, h9, q⟩ := h
    refine ⟨_, (pss_cons (ps_set (i := 1) sc_Arr_earliest.nd rfl (.inl rfl) (pe_op op_cat (pe_lst (pa_cons pe_int pa_nil)) (pe_op op_rep (pe_lst (pa_cons pe_non pa_nil)) (pe_op op_sub (pe_f (K := K) rfl (pv 0) rfl) pe_int)))) (pss_cons (ps_for PassesOwn.never rfl (pi_range1 (by rfl) T.range (pa_cons (pe_f (K := K) rfl (pv 0) rfl) pa_nil)) (pg_name (i := 2) sc_Arr_earliest.nd rfl (.inl rfl)) (pss_one (ps_set (i := 1) sc_Arr_earliest.nd rfl (.inl rfl) (pe_mt M_Arr_grown hr (by decide) pass0 (pv 0) (pa_cons (pv 1) pa_nil))))) (pss_one (ps_ret (pe_slice sl_list (pv 1) (po_some pe_int) po_none))))), ?_⟩
    refine q_asgP (ep_cat (xs := [.int 0]) (ys := List.replicate (N - 1) .non) (ep_L (el_lst (ea_cons ev_c ea_nil) (by show 1 ≤ 100000; decide)))
      (ep_L (el_is (el_rep (k := (N : Int) - 1) (el_lst (ea_cons ev_c ea_nil) (by show 1 ≤ 100000; decide)) (ev_op (ev_many T (ev_var rfl) h) ev_c rv_I0) ⟨by omega, by omega⟩ (by show 1 ≤ 10; decide)) (by rw [rep_flat, show ((N : Int) - 1).toNat = N - 1 by omega])))
      (fun x H1 _ p => newL_is p) (fun x H1 _ p => newL_is p) (by rw [List.length_replicate]; exact few (by show 1 + _ ≤ _; omega))) fun v H1 e1 ⟨p, ev, np, hp⟩ => ?_
    subst ev
    rw [← row_first h9.1] at hp
    refine q_forR1 (n := (N : Int)) (ea_cons (ev_many T (ev_var rfl) (h.same e1)) ea_nil) ⟨by omega, by omega⟩ (fun k σ H2 => ∃ v2 p, σ = [some (.ref a), some (.ref p), v2] ∧ Ex H H2 ∧ H2 p = some (.lst (row N (iterF m N first0 k))))
      (fun H2 e2 => ⟨none, p, rfl, e1.trans e2, e2 _ _ hp⟩) ?_ ?_
    · rintro k σ H2 hk ⟨v2, p, rfl, e2, hp⟩
      exact s_asgL (el_grown (ev_var rfl) (h.same e2) h9.2 (ev_var rfl) hp) fun p' H3 np' e3 hp' => ⟨_, p', rfl, e2.trans e3, hp'⟩
    · rintro σ H2 ⟨v2, p, rfl, e2, hp⟩
      rw [show ((N : Int)).toNat = N by omega] at hp
      refine s_retL (el_sl (ev_var rfl) (eo_some ev_c) eo_none (.of hp)) fun p' H3 np' e3 hp' => q p' H3 (e2.trans e3) (fresh_back e2 np') ?_
      rw [hp']
      congr 2
      rw [show (1 : Int) = ((1 : Nat) : Int) from rfl, cut_drop]
      unfold earL row
      rw [List.map_drop]

/-! ### latest -/
def spLatest (c : Ad) : Sp := fun vs H Q _ => ∃ (a dx w r : Addr) (rs : List Addr) (m : Up.Wt) (s : State) (z : Nat → Int), vs = [.ref a] ∧ ArrAt c H a dx w r rs (size s + 1) m ∧ size s ≤ 8 ∧ WorksAt c H w s ∧ (∀ i, 0 < i → i < size s + 1 → greatF m (size s + 1) 0 i = some (z i)) ∧
  RL ((numbers s).map fun i => .int (0 - z i)) H Q
abbrev s_Arr_latest : Stmt := inClass (topS 1) 12
theorem sc_Arr_latest : FnScope ["self", "sums", "node"] ["self"] (defScope s_Arr_latest) := ⟨rfl, rfl, rfl, by decide +kernel, rfl, by decide +kernel, by decide +kernel⟩
theorem ok_arr_latest (T : Txt K mg c) (D : DefM K c.Arr "latest" "Arrows.latest" s_Arr_latest ["self"]) (M_Arr_greatest_to : Met P w K mg base CX0 3 c.Arr "greatest_to" (spGreatest K c)) (M_Wk_numbers : Met P w K mg base CX0 1 c.Wk "numbers" (spNumbers c)) : Met P w K mg base CX0 4 c.Arr "latest" (spLatest c) := by
  refine met0 D T.arr sc_Arr_latest (fun vs H Q E h => ?_) (fun f cdv A outer s H vs Q E hr h => ?_)
  · obtain ⟨a, dx, w, r, rs, m, s, z, rfl, _⟩ := h
    rfl
  · obtain ⟨a, dx, w, r, rs, m, s, z, rfl, h, h8, ⟨dw, g, o, l, f', os, ls, fs, hw⟩, hz, q⟩ := h
    refine ⟨_, (pss_cons (ps_set (i := 1) sc_Arr_latest.nd rfl (.inr rfl) (pe_mt M_Arr_greatest_to hr (by decide) pass0 (pv 0) (pa_cons pe_int pa_nil))) (pss_one (ps_ret (pe_lc (own := [("node", 2)]) rfl sc_Arr_latest.nd (pi_list (pe_mt0 M_Wk_numbers hr (by decide) pass0 (pe_f (K := K) rfl (pv 0) rfl))) (blkOk_by (own := [("node", 2)]) (N := ["self", "sums", "node"]) (sc := defScope s_Arr_latest) (by decide +kernel)) (fun _ _ _ _ _ => (pg_name (i := 2) sc_Arr_latest.nd rfl (.inl rfl))) (fun _ _ _ _ _ => pts_nil) (fun _ _ _ _ _ => (pe_op op_sub pe_int (pe_ix (ixL (K := K) rfl) (pv 1) (pv 2) (fun _ _ => rfl)))))))), ?_⟩
    refine q_asgL (xs := row (size s + 1) (greatF m (size s + 1) 0)) (el_meth (ev_var rfl) h.me (arF_no _ _ _ (by decide +kernel) (by decide +kernel) (by decide +kernel)) (ea_cons ev_c ea_nil) fun H1 e1 Q q E => ⟨a, dx, w, r, rs, size s + 1, m, 0, rfl, h.same e1, by omega, fun p H2 e2 n hp => q p H2 n e2 hp⟩) fun p H1 np e1 hp => ?_
    have hw1 := hw.same e1
    refine s_retL (el_lcNL (xs := numsV s) (fun _ => true) (fun k => V.int (0 - z (k + 1))) (el_numbers (ev_fld (ev_var rfl) (h.same e1).me T.arr T.arr_works (arF_works ..)) hw1 h8) (by rw [nums_len]; omega) (fun _ => rfl) (fun k x H2 e2 hx => fun H3 e3 Q q => q H3 (Ex.refl _)) (fun k x H2 e2 hx _ => ?_)) fun p' H2 np' e2 hp' => ?_
    · obtain ⟨rfl, hk⟩ := nums_get hx
      exact ev_op ev_c (ev_is (ev_rowi (ev_var rfl) (.of (e2 _ _ hp)) (ev_var rfl) (by omega)) (by rw [hz (k + 1) (by omega) (by omega)]; rfl)) rv_I0
    · refine q p' H2 (e1.trans e2) (fresh_back e1 np') ?_
      rw [hp', given_true, nums_len]
      unfold numbers
      rw [List.map_map]
      rfl
end
end Uw
/-! W10: arrows: ring, chain. -/
namespace Uw
open PySem PySem.Spec PyProof.Rows L2 Evl
open Vbwbai (State Op Link size opAt numbers more plus)
open Up (colF stepOk fwF greatF RingFree iterF zeros first0 growF ringP diag)

theorem given_congr {n : Nat} {f : Nat → Bool} {v v' : Nat → V} (h : ∀ k, f k = true → v k = v' k) : given n f v = given n f v' := by
  unfold given
  exact List.map_congr_left fun k hk => h k (List.mem_filter.mp hk).2
theorem ringP_stay {m : Up.Wt} {N k : Nat} {r : List Nat} (h : ringP m N k = some r) : ∀ n, k ≤ n → ringP m N n = some r
  | 0, hn => by
    obtain rfl : k = 0 := by omega
    exact h
  | n + 1, hn => by
    by_cases e : k = n + 1
    · subst e
      exact h
    · rw [Up.ringP_succ, ringP_stay h n (by omega)]
/-- the numbers above 0 -/
def aboveF (o : Option Int) : Option Int := o.filter fun u => decide (0 < u)
def aboveL (f : Nat → Option Int) (N : Nat) : List Int := (List.range N).filterMap fun a => aboveF (f a)
theorem mem_above {f : Nat → Option Int} {N : Nat} {x : Int} : x ∈ aboveL f N ↔ 0 < x ∧ ∃ a, a < N ∧ f a = some x := by
  unfold aboveL aboveF
  rw [List.mem_filterMap]
  constructor
  · rintro ⟨a, ha, h⟩
    rw [Option.filter_eq_some_iff] at h
    exact ⟨of_decide_eq_true h.2, a, List.mem_range.mp ha, h.1⟩
  · rintro ⟨h0, a, ha, h⟩
    exact ⟨a, List.mem_range.mpr ha, Option.filter_eq_some_iff.mpr ⟨h, decide_eq_true h0⟩⟩
theorem flat_ov (o : Option Int) : flatV (ov o) = true := by cases o <;> rfl
theorem flat_row (N : Nat) (f : Nat → Option Int) : (row N f).all flatV = true := by
  unfold row
  rw [List.all_map]
  exact List.all_eq_true.mpr fun o _ => flat_ov o
theorem eqV_ov (o : Option Int) (x : Int) : eqV (ov o) (.int x) = decide (o = some x) := by
  cases o with
  | none => rfl
  | some y =>
    show (y == x) = _
    rw [Bool.eq_iff_iff]
    simp
/-- rows.index(x) -/
theorem ev_index {K : PySem.W.Frag} {σ : L2.St} {H : Hp} {ta tx : TE} {p : Addr} {N j : Nat} {f : Nat → Option Int} {x : Int} (ha : Ev ta σ H (.ref p)) (h : SqL K H p (row N f)) (hx : Ev tx σ H (.int x)) (hj : j < N) (e : f j = some x) (hf : ∀ a, a < j → f a ≠ some x) :
    Ev (tBM K "list" (rIndex K) ta (tCons tx tNil)) σ H (nv j) := fun H1 e1 Q q => by
  refine ha H1 e1 _ fun H2 e2 => ⟨.inl ⟨rfl, _, ex_l (e1.trans e2) h⟩, hx H2 (e1.trans e2) _ fun H3 e3 => ?_⟩
  refine ⟨p, row N f, .int x, j, .int x, rfl, rfl, ex_l ((e1.trans e2).trans e3) h, rfl, flat_row N f, by rw [row_get hj, e]; rfl, by show (x == x) = true; simp, fun a z ha hz => ?_, q H3 (e2.trans e3)⟩
  have haN : a < N := by omega
  rw [row_get haN] at hz
  cases hz
  rw [eqV_ov]
  exact decide_eq_false (hf a ha)
theorem row_ints {N : Nat} (f : Nat → Option Int) (g : Nat → Int) (h : ∀ i, i < N → f i = some (g i)) : row N f = ((List.range N).map g).map V.int := by
  unfold row
  rw [List.map_map, List.map_map]
  refine List.map_congr_left fun i hi => ?_
  show ov (f i) = V.int (g i)
  rw [h i (List.mem_range.mp hi)]
  rfl
section
variable {P : Program} {w : World} {K : PySem.W.Frag} {mg : Str → Option Value} {base : Heap} {c : Ad}
def spRing (c : Ad) : Sp := fun vs H Q _ => ∃ (a dx w r : Addr) (rs : List Addr) (N : Nat) (m : Up.Wt), vs = [.ref a] ∧ ArrAt c H a dx w r rs N m ∧ N ≤ 9 ∧ (ringP m N N = none → RV' .non H Q) ∧ ∀ l, ringP m N N = some l → RL (nodes l) H Q
abbrev s_Arr_ring : Stmt := inClass (topS 1) 7
theorem sc_Arr_ring : FnScope ["self", "tables", "many", "sums", "above", "node", "one"] ["self"] (defScope s_Arr_ring) := ⟨rfl, rfl, rfl, by decide +kernel, rfl, by decide +kernel, by decide +kernel⟩
theorem ok_ring (T : Txt K mg c) (D : DefM K c.Arr "ring" "Arrows.ring" s_Arr_ring ["self"]) (M_Arr_sums_to : Met P w K mg base CX0 2 c.Arr "sums_to" (spSumsTo K c)) (M_Arr_first_walk : Met P w K mg base CX0 1 c.Arr "first_walk" (spFirst c)) : Met P w K mg base CX0 3 c.Arr "ring" (spRing c) := by
  refine met0 D T.arr sc_Arr_ring (fun vs H Q E h => ?_) (fun f cdv A outer s H vs Q E hr h => ?_)
  · obtain ⟨a, dx, w, r, rs, N, m, rfl, _⟩ := h
    rfl
  · obtain ⟨a, dx, w, r, rs, N, m, rfl, h, h9, qn, qs⟩ := h
    refine ⟨_, (pss_cons (ps_set (i := 1) sc_Arr_ring.nd rfl (.inr rfl) (pe_lc (own := [("node", 5)]) rfl sc_Arr_ring.nd (pi_range1 (by rfl) T.range (pa_cons (pe_f (K := K) rfl (pv 0) rfl) pa_nil)) (blkOk_by (own := [("node", 5)]) (N := ["self", "tables", "many", "sums", "above", "node", "one"]) (sc := defScope s_Arr_ring) (by decide +kernel)) (fun _ _ _ _ _ => (pg_name (i := 5) sc_Arr_ring.nd rfl (.inl rfl))) (fun _ _ _ _ _ => pts_nil) (fun _ _ _ _ _ => (pe_mt M_Arr_sums_to hr (by decide) pass0 (pv 0) (pa_cons (pv 5) (pa_cons (pe_f (K := K) rfl (pv 0) rfl) pa_nil)))))) (pss_cons (ps_for PassesOwn.never rfl (pi_range2 (by rfl) T.range (pa_cons pe_int (pa_cons (pe_op op_add (pe_f (K := K) rfl (pv 0) rfl) pe_int) pa_nil))) (pg_name (i := 2) sc_Arr_ring.nd rfl (.inr rfl)) (pss_cons (ps_setLc (i := 3) (own := [("node", 5)]) rfl sc_Arr_ring.nd rfl rfl (sw_true rfl rfl rfl (by decide +kernel)) (pi_range1 (by rfl) T.range (pa_cons (pe_f (K := K) rfl (pv 0) rfl) pa_nil)) (blkOk_by (own := [("node", 5)]) (N := ["self", "tables", "many", "sums", "above", "node", "one"]) (sc := defScope s_Arr_ring) (by decide +kernel)) (fun _ _ _ _ _ => (pg_name (i := 5) sc_Arr_ring.nd rfl (.inl rfl))) (fun _ _ _ _ _ => pts_nil) (fun _ _ _ _ _ => (pe_ix (ixL (K := K) rfl) (pe_ix (ixL (K := K) rfl) (pe_ix (ixL (K := K) rfl) (pv 1) (pv 5) (fun _ _ => rfl)) (pv 2) (fun _ _ => rfl)) (pv 5) (fun _ _ => rfl)))) (pss_cons (ps_setLc (i := 4) (own := [("one", 6)]) rfl sc_Arr_ring.nd rfl rfl (sw_true rfl rfl rfl (by decide +kernel)) (pi_list (pv 3)) (blkOk_by (own := [("one", 6)]) (N := ["self", "tables", "many", "sums", "above", "node", "one"]) (sc := defScope s_Arr_ring) (by decide +kernel)) (fun _ _ _ _ _ => (pg_name (i := 6) sc_Arr_ring.nd rfl (.inl rfl))) (fun _ _ _ _ _ => (pts_one (PW.pt (pw_and (pt_cmp (pc_notN (pv 6))) (pw_and1 (pt_cmpR op_gt (pv 6) pe_int (nomark _))))))) (fun _ _ _ _ _ => (pv 6))) (pss_one (ps_if (pt_cmpR (op_neE hr.units0) (pv 4) (pe_lst pa_nil) (nomark _)) (pss_cons (ps_set (i := 5) sc_Arr_ring.nd rfl (.inl rfl) (pe_bm PySem.F.plainAttrs_list PySem.F.slot_list_index PySem.F.type_list_index mt_index (pv 3) (pa_cons (pe_callB (cr_max rfl) (by rfl) T.max (by decide +kernel) (pa_cons (pv 4) pa_nil)) pa_nil))) (pss_one (ps_ret (pe_mt M_Arr_first_walk hr (by decide) pass0 (pv 0) (pa_cons (pe_ix (ixL (K := K) rfl) (pv 1) (pv 5) (fun _ _ => rfl)) (pa_cons (pv 5) (pa_cons (pv 2) pa_nil))))))) pss_nil))))) (pss_one (ps_ret pe_non)))), ?_⟩
    -- tables
    refine (ev_many T (ev_var rfl) h) H (Ex.refl _) _ fun H1 e1 => ⟨(N : Int), rfl, by omega, by omega, fun tb ntb => ?_⟩
    have ntb0 : H tb = none := fresh_back e1 ntb
    rw [show ((N : Int)).toNat = N by omega]
    refine lc_range (lo := 0) (n := N) (fun i H2 => ∃ bs, Ex H H2 ∧ H2 tb = some (.lst (rf bs)) ∧ bs.length = i ∧ ∀ (j : Nat) t, bs[j]? = some t → tb ≠ t ∧ ∃ ts, TabAt H2 t N (colF m N j) (N + 1) ts ∧ tb ∉ ts)
      ⟨[], e1.trans (Ex.new ntb), upd_same, rfl, fun j t hj => by simp at hj⟩ ?_ ?_
    · rintro i H2 hi ⟨bs, e2, hB, hl, hA⟩
      have h2 := h.same e2
      refine ⟨rfl, ?_⟩
      refine ⟨_, rfl, a, dx, _, rfl, h2.me, arF_no _ _ _ (by decide +kernel) (by decide +kernel) (by decide +kernel), _, rfl, ?_⟩
      refine (ev_many T (ev_var rfl) h2) H2 (Ex.refl _) _ fun H3 e3 => ?_
      rw [Int.zero_add]
      refine ⟨a, dx, w, r, rs, N, m, i, N, rfl, h2.same e3, h9, h9, fun p H4 ts e4 np nts hT => ?_⟩
      have e24 := e3.trans e4
      have hB4 := e24 _ _ hB
      have ntp : tb ≠ p := fun z => by
        have := e3 _ _ hB
        rw [z, np] at this
        cases this
      have ntt : tb ∉ ts := fun z => by
        have := e3 _ _ hB
        rw [nts tb z] at this
        cases this
      refine ⟨rf bs, hB4, by rw [List.length_map, hl]; exact few' (by omega), bs ++ [p], fun b o hb => ?_, by rw [upd_same]; simp [rf], by simp [hl], fun j t hj => ?_⟩
      · rw [upd_ne (ne_of_none hb ntb0)]
        exact e24 _ _ (e2 _ _ hb)
      · have keep : ∀ {F : Nat → Nat → Option Int} {t : Addr} {us : List Addr}, tb ≠ t → tb ∉ us → TabAt H4 t N F (N + 1) us → TabAt (upd H4 tb (.lst (rf bs ++ [.ref p]))) t N F (N + 1) us := fun {F t us} n1 n2 hT => ⟨by rw [upd_ne n1.symm]; exact hT.1, hT.2.1, fun k u hu => by
          rw [upd_ne (show u ≠ tb from fun z => n2 (by rw [← z]; exact List.mem_of_getElem? hu))]
          exact hT.2.2 k u hu⟩
        by_cases hji : j < bs.length
        · rw [List.getElem?_append_left hji] at hj
          obtain ⟨n1, us, hT', n2⟩ := hA j t hj
          exact ⟨n1, us, keep n1 n2 (hT'.same e24), n2⟩
        · have hji' : j = bs.length := by
            have := (List.getElem?_eq_some_iff.mp hj).1
            simp at this
            omega
          subst hji'
          rw [List.getElem?_append_right (Nat.le_refl _), Nat.sub_self] at hj
          cases hj
          rw [hl]
          exact ⟨ntp, ts, keep ntp ntt hT, ntt⟩
    · rintro H2 ⟨bs, e2, hB, hl, hA⟩
      -- for many in range(1, self.many + 1)
      have tab : ∀ {j : Nat}, j < N → ∃ t ts, bs[j]? = some t ∧ TabAt H2 t N (colF m N j) (N + 1) ts := fun {j} hj => by
        have hj' : j < bs.length := by omega
        obtain ⟨_, ts, hT, _⟩ := hA j _ (List.getElem?_eq_getElem hj')
        exact ⟨_, ts, List.getElem?_eq_getElem hj', hT⟩
      refine q_forR2 (lo := 1) (n := (N : Int) + 1) (ea_cons ev_c (ea_cons (ev_op (ev_many T (ev_var rfl) (h.same e2)) ev_c rv_I0) ea_nil)) ⟨by omega, by omega, by omega, by omega⟩
        (fun k σ H3 => ∃ v2 v3 v4 v5 v6, σ = [some (.ref a), some (.ref tb), v2, v3, v4, v5, v6] ∧ Ex H2 H3 ∧ ringP m N k = none) (fun H3 e3 => ⟨none, none, none, none, none, rfl, e3, rfl⟩) ?_ ?_
      · rintro k σ H3 hk ⟨v2, v3, v4, v5, v6, rfl, e3, hn⟩
        have hkN : k < N := by omega
        have ek : V.int (1 + (k : Int)) = nv (k + 1) := by
          show V.int (1 + (k : Int)) = V.int ((k + 1 : Nat) : Int)
          congr 1
          omega
        rw [ek]
        have h3 := (h.same e2).same e3
        -- sums
        refine q_asgL (xs := row N (diag m N (k + 1))) (el_is (el_lcR1 (n := (N : Int)) (fun _ => true) (fun i => ov (diag m N (k + 1) i)) (ea_cons (ev_many T (ev_var rfl) h3) ea_nil) ⟨by omega, by omega⟩ (fun _ => rfl) (fun i H4 _ _ => fun H5 e5 Q q => q H5 (Ex.refl _)) (fun i H4 e4 hi _ => ?_)) ?_) fun sm H4 nsm e4 hsm => ?_
        · have hi' : i < N := by omega
          obtain ⟨t, ts, ht, hT⟩ := tab hi'
          have hT4 := hT.same (e3.trans e4)
          exact ev_tab (N := N) (n := N + 1) (k := k + 1) (i := i) (F := colF m N i) (ts := ts) (ev_op (ev_var rfl) (ev_var rfl) (rv_ixL (.of (e4 _ _ (e3 _ _ hB))) (atI_nat (rf_get ht)))) hT4 (ev_var rfl) (ev_var rfl) (by omega) hi'
        · rw [given_true, show ((N : Int)).toNat = N by omega]
          unfold row
          rw [List.map_map]
          rfl
        -- above
        refine q_asgL (xs := (aboveL (diag m N (k + 1)) N).map V.int) (el_is (el_lcL (a := sm) (xs := row N (diag m N (k + 1))) (fun i => (aboveF (diag m N (k + 1) i)).isSome) (fun i => ov (diag m N (k + 1) i)) (ev_var rfl) (.of hsm) (by rw [row_len]; omega) (fun _ => rfl) (fun i x H5 e5 hx => ?_) (fun i x H5 e5 hx _ => ?_)) ?_) fun ab H5 nab e5 hab => ?_
        · have hi' : i < N := by
            have := (List.getElem?_eq_some_iff.mp hx).1
            rw [row_len] at this
            exact this
          rw [row_get hi'] at hx
          cases hx
          cases ed : diag m N (k + 1) i with
          | none => exact et_is (et_and (a := false) (b := false) (et_notN (ev_var (v := .non) rfl)) fun z => nomatch z) rfl
          | some u =>
            refine et_is (et_and (a := true) (b := decide (0 < u)) (et_notN (ev_var (v := .int u) rfl)) fun _ => et_test (ev_op (ev_var (v := .int u) rfl) ev_c rv_I0)) ?_
            unfold aboveF
            by_cases c : 0 < u <;> simp [Option.filter, c]
        · have hi' : i < N := by
            have := (List.getElem?_eq_some_iff.mp hx).1
            rw [row_len] at this
            exact this
          rw [row_get hi'] at hx
          cases hx
          exact ev_var rfl
        · rw [row_len]
          refine (given_congr fun i hi => ?_).trans (given_some N fun i => aboveF (diag m N (k + 1) i))
          obtain ⟨u, hu⟩ := Option.isSome_iff_exists.mp hi
          rw [hu]
          unfold aboveF at hu
          rw [(Option.filter_eq_some_iff.mp hu).1]
        have e35 := e4.trans e5
        refine s_when (b := !((aboveL (diag m N (k + 1)) N).map V.int).isEmpty) (et_neE (ev_var rfl) (.of hab)) (fun hb H6 e6 => ?_) (fun hb H6 e6 => ?_)
        · rcases Up.pick_cases (diag m N (k + 1)) N with hno | ⟨j, x, hj, hx0, ex, hle, hfi⟩
          · exfalso
            have : aboveL (diag m N (k + 1)) N = [] := List.eq_nil_iff_forall_not_mem.mpr fun y hy => by
              obtain ⟨h0, b, hb', eb⟩ := mem_above.mp hy
              have := hno b hb' y eb
              omega
            rw [this] at hb
            cases hb
          · have hxm : x ∈ aboveL (diag m N (k + 1)) N := mem_above.mpr ⟨hx0, j, hj, ex⟩
            have hring : ringP m N N = some (j :: fwF m N j (k + 1) j) := by
              refine ringP_stay (k := k + 1) ?_ N (by omega)
              rw [Up.ringP_succ, hn]
              show Option.map _ _ = _
              rw [Up.pick_first hj hx0 ex hle hfi]
              rfl
            refine q_asg (v := nv j) (ev_index (x := x) (ev_var rfl) (.of (e6 _ _ (e5 _ _ hsm))) (ev_max (ev_var rfl) (.of (e6 _ _ hab)) (List.length_pos_of_mem hxm) fun y hy hle' => ?_) hj ex hfi) fun H7 e7 => ?_
            · obtain ⟨_, b, hb', eb⟩ := mem_above.mp hy
              have h1 := hle b hb' y eb
              have h2 := hle' x hxm
              omega
            · obtain ⟨t, ts, ht, hT⟩ := tab hj
              have e27 := ((e3.trans e35).trans e6).trans e7
              have hT7 := hT.same e27
              refine s_retL (el_meth (vs := [.ref t, nv j, nv (k + 1)]) (xs := nodes (j :: fwF m N j (k + 1) j)) (ev_var rfl) ((h.same e2).same e27).me (arF_no _ _ _ (by decide +kernel) (by decide +kernel) (by decide +kernel))
                (ea_cons (ev_op (ev_var rfl) (ev_var rfl) (rv_ixL (.of (e27 _ _ hB)) (atI_nat (rf_get ht)))) (ea_cons (ev_var rfl) (ea_cons (ev_var rfl) ea_nil)))
                fun H8 e8 Q q E => ⟨a, dx, w, r, t, rs, ts, N, N + 1, m, j, j, k + 1, x, rfl, ((h.same e2).same e27).same e8, h9, hT7.same e8, by omega, by omega, hj, hj, ex, fun p H9 e9 np hp => q p H9 np e9 hp⟩) fun p H8 np e8 hp => ?_
              exact qs _ hring p H8 ((e2.trans e27).trans e8) (fresh_back (e2.trans e27) np) hp
        · refine ⟨_, _, _, _, _, rfl, (e3.trans e35).trans e6, ?_⟩
          rw [Up.ringP_succ, hn]
          show Option.map _ _ = _
          rw [Up.pick_none fun b hb' u eu => ?_]
          · rfl
          · apply Classical.byContradiction
            intro hu
            have : u ∈ aboveL (diag m N (k + 1)) N := mem_above.mpr ⟨by omega, b, List.mem_range.mp hb', eu⟩
            cases hL : aboveL (diag m N (k + 1)) N with
            | nil => rw [hL] at this; cases this
            | cons y r => rw [hL] at hb; cases hb
      · rintro σ H3 ⟨v2, v3, v4, v5, v6, rfl, e3, hn⟩
        rw [show ((N : Int) + 1 - 1).toNat = N by omega] at hn
        exact s_ret (v := .non) ev_c fun H4 e4 => qn hn H4 ((e2.trans e3).trans e4)
end
end Uw
/-! W11: arrows: chain, end_by, how they are laid. -/
namespace Uw
open PySem PySem.Spec PyProof.Rows L2 Evl
open Vbwbai (State Op Link Arrow size opAt numbers more plus best arrows opArrows linkArrows orderArrow at_ lastOp)
open Up (colF stepOk fwF greatF RingFree iterF zeros first0 growF mA TmA OkDs Good endAr)

theorem first_ix {α : Type} [DecidableEq α] : ∀ {l : List α} {x : α}, x ∈ l → ∃ j : Nat, l[j]? = some x ∧ ∀ i : Nat, i < j → l[i]? ≠ some x
  | [], _, h => nomatch h
  | y :: l, x, h => by
    by_cases e : y = x
    · exact ⟨0, by simp [e], fun i hi => absurd hi (Nat.not_lt_zero _)⟩
    · rcases List.mem_cons.mp h with h | h
      · exact absurd h.symm e
      · obtain ⟨j, h1, h2⟩ := first_ix h
        refine ⟨j + 1, h1, fun i hi => ?_⟩
        cases i with
        | zero => intro z; exact e (Option.some.inj z)
        | succ i => exact h2 i (by omega)
theorem least_nat {p : Nat → Prop} : ∀ n, p n → ∃ j, j ≤ n ∧ p j ∧ ∀ i, i < j → ¬ p i := by
  intro n
  induction n using Nat.strongRecOn with
  | _ n ih =>
    intro h
    by_cases c : ∃ i, i < n ∧ p i
    · obtain ⟨i, hi, hp⟩ := c
      obtain ⟨j, h1, h2⟩ := ih i hi hp
      exact ⟨j, by omega, h2⟩
    · exact ⟨n, Nat.le_refl _, h, fun i hi hp => c ⟨i, hi, hp⟩⟩
section
variable {P : Program} {w : World} {K : PySem.W.Frag} {mg : Str → Option Value} {base : Heap} {c : Ad}
theorem times_cons {s : State} {ds : List (Nat × Nat)} (g : Good s) (hd : OkDs s ds) (rf : RingFree (mA s ds) (size s + 1)) : TmA s ds = 0 :: (TmA s ds).drop 1 := by
  have h1 := Up.TmA_zero g hd rf
  have h2 := Up.TmA_len (s := s) (ds := ds)
  cases e : TmA s ds with
  | nil => rw [e] at h2; cases h2
  | cons x r =>
    rw [e] at h1
    have : x = 0 := h1
    rw [this]
    rfl
theorem earL_int {s : State} {ds : List (Nat × Nat)} (g : Good s) (hd : OkDs s ds) (rf : RingFree (mA s ds) (size s + 1)) : earL (mA s ds) (size s + 1) = ((TmA s ds).drop 1).map V.int := by
  unfold earL
  rw [Up.earl_list g hd rf, List.map_map]
  rfl
theorem tail_len {s : State} {ds : List (Nat × Nat)} : ((TmA s ds).drop 1).length = size s := by
  rw [List.length_drop, Up.TmA_len]
  rfl
/-- a.earliest() -/
theorem el_earliest {σ : L2.St} {H : Hp} {ta : TE} {a dx w r : Addr} {rs : List Addr} {s : State} {ds : List (Nat × Nat)} (ha : Ev ta σ H (.ref a)) (h : ArrAt c H a dx w r rs (size s + 1) (mA s ds)) (g : Good s) (hd : OkDs s ds) (rf : RingFree (mA s ds) (size s + 1)) :
    EvL (tMeth c.Arr "earliest" (spEarliest c) [] E0 ta tNil) σ H (((TmA s ds).drop 1).map V.int) := by
  rw [← earL_int g hd rf]
  have := g.ops
  exact el_meth ha h.me (arF_no _ _ _ (by decide +kernel) (by decide +kernel) (by decide +kernel)) ea_nil fun H1 e1 Q q E => ⟨a, dx, w, r, rs, size s + 1, mA s ds, rfl, h.same e1, ⟨by omega, by show s.ops.length + 1 ≤ 9; omega⟩, fun p H2 e2 n hp => q p H2 n e2 hp⟩
def spChain (c : Ad) : Sp := fun vs H Q _ => ∃ (a dx w r : Addr) (rs : List Addr) (s : State) (ds : List (Nat × Nat)), vs = [.ref a] ∧ ArrAt c H a dx w r rs (size s + 1) (mA s ds) ∧ Good s ∧ OkDs s ds ∧ RingFree (mA s ds) (size s + 1) ∧ 0 < size s ∧ WorksAt c H w s ∧
  RL (nodes (Vbwbai.chain s ds (TmA s ds))) H Q
abbrev s_Arr_chain : Stmt := inClass (topS 1) 13
theorem sc_Arr_chain : FnScope ["self", "begins", "ends", "last", "sums", "many", "begin", "one", "row"] ["self"] (defScope s_Arr_chain) := ⟨rfl, rfl, rfl, by decide +kernel, rfl, by decide +kernel, by decide +kernel⟩
theorem ok_arr_chain (T : Txt K mg c) (D : DefM K c.Arr "chain" "Arrows.chain" s_Arr_chain ["self"]) (M_Arr_earliest : Met P w K mg base CX0 2 c.Arr "earliest" (spEarliest c)) (M_Arr_sums_to : Met P w K mg base CX0 2 c.Arr "sums_to" (spSumsTo K c)) (M_Arr_first_walk : Met P w K mg base CX0 1 c.Arr "first_walk" (spFirst c)) : Met P w K mg base CX0 3 c.Arr "chain" (spChain c) := by
  refine met0 D T.arr sc_Arr_chain (fun vs H Q E h => ?_) (fun f cdv A outer s H vs Q E hr h => ?_)
  · obtain ⟨a, dx, w, r, rs, s, ds, rfl, _⟩ := h
    rfl
  · obtain ⟨a, dx, w, r, rs, s, ds, rfl, h, gd, hd, hrf, hn, hw, q⟩ := h
    refine ⟨_, (pss_cons (ps_set (i := 1) sc_Arr_chain.nd rfl (.inl rfl) (pe_mt0 M_Arr_earliest hr (by decide) pass0 (pv 0))) (pss_cons (ps_setLc (i := 2) (g := gTup K 2 (gCons (gName 6) (gCons (gName 7) gNil))) (own := [("begin", 6), ("one", 7)]) rfl sc_Arr_chain.nd rfl rfl (sw_true rfl rfl rfl (by decide +kernel)) (pi_zip (by rfl) T.zip (pa_cons (pv 1) (pa_cons (pe_f (K := K) rfl (pe_f (K := K) rfl (pv 0) rfl) rfl) pa_nil))) (blkOk_by (own := [("begin", 6), ("one", 7)]) (N := ["self", "begins", "ends", "last", "sums", "many", "begin", "one", "row"]) (sc := defScope s_Arr_chain) (by decide +kernel)) (fun _ _ _ _ _ => (pg_t (K := K) rfl rfl (pgs_cons (pg_name (i := 6) sc_Arr_chain.nd rfl (.inl rfl)) (pgs_cons (pg_name (i := 7) sc_Arr_chain.nd rfl (.inl rfl)) pgs_nil)))) (fun _ _ _ _ _ => pts_nil) (fun _ _ _ _ _ => (pe_op op_add (pv 6) (pe_f (K := K) rfl (pv 7) rfl)))) (pss_cons (ps_set (i := 3) sc_Arr_chain.nd rfl (.inl rfl) (pe_op op_add (pe_bm PySem.F.plainAttrs_list PySem.F.slot_list_index PySem.F.type_list_index mt_index (pv 2) (pa_cons (pe_callB (cr_max rfl) (by rfl) T.max (by decide +kernel) (pa_cons (pv 2) pa_nil)) pa_nil)) pe_int)) (pss_cons (ps_set (i := 4) sc_Arr_chain.nd rfl (.inl rfl) (pe_mt M_Arr_sums_to hr (by decide) pass0 (pv 0) (pa_cons (pv 3) (pa_cons (pe_f (K := K) rfl (pv 0) rfl) pa_nil)))) (pss_cons (ps_set (i := 5) sc_Arr_chain.nd rfl (.inl rfl) (pe_bm PySem.F.plainAttrs_list PySem.F.slot_list_index PySem.F.type_list_index mt_index (pe_lc (own := [("row", 8)]) rfl sc_Arr_chain.nd (pi_list (pv 4)) (blkOk_by (own := [("row", 8)]) (N := ["self", "begins", "ends", "last", "sums", "many", "begin", "one", "row"]) (sc := defScope s_Arr_chain) (by decide +kernel)) (fun _ _ _ _ _ => (pg_name (i := 8) sc_Arr_chain.nd rfl (.inl rfl))) (fun _ _ _ _ _ => pts_nil) (fun _ _ _ _ _ => (pe_ix (ixL (K := K) rfl) (pv 8) pe_int (fun _ _ => rfl)))) (pa_cons (pe_ix (ixL (K := K) rfl) (pv 1) (pe_op op_sub (pv 3) pe_int) (fun _ _ => rfl)) pa_nil))) (pss_one (ps_ret (pe_mt M_Arr_first_walk hr (by decide) pass0 (pv 0) (pa_cons (pv 4) (pa_cons pe_int (pa_cons (pv 5) pa_nil))))))))))), ?_⟩
    have g8 : size s ≤ 8 := gd.ops
    have et := times_cons gd hd hrf
    have hB := tail_len (s := s) (ds := ds)
    have en := Up.ends_nonneg gd hd
    have hl0 := Up.lastOp_some (t := TmA s ds) hn en
    have hen : Up.ends s (TmA s ds) = (List.range (size s)).map fun i => Vbwbai.ended s (TmA s ds) (i + 1) := by
      unfold Up.ends numbers
      rw [List.map_map]
      rfl
    have hrow : (Up.ends s (TmA s ds)).map V.int = row (size s) fun i => some (Vbwbai.ended s (TmA s ds) (i + 1)) := by
      rw [row_ints _ (fun i => Vbwbai.ended s (TmA s ds) (i + 1)) (fun i _ => rfl), hen]
    refine q_asgL (el_earliest (ev_var rfl) h gd hd hrf) fun b H1 nb e1 hb => ?_
    obtain ⟨dw, g, o, l, f', os, ls, fs, hw0⟩ := hw
    have hw1 := hw0.same e1
    have h1 := h.same e1
    refine q_asgL (el_ends T hw1 g8 (ep_val (ev_var rfl)) (fun x H2 e2 p => ⟨b, p, .of (e2 _ _ hb)⟩) (ev_fld (ev_fld (ev_var rfl) h1.me T.arr T.arr_works (arF_works ..)) hw1.me T.wk T.wk_operations (wkF_operations ..)) hB (fun _ _ => rfl) (fun _ _ => rfl) (fun _ _ => rfl)) fun en' H2 nen e2 hen' => ?_
    rw [← et] at hen'
    -- the last one
    obtain ⟨M, hM, hMle⟩ : ∃ M, M ∈ Up.ends s (TmA s ds) ∧ ∀ y ∈ Up.ends s (TmA s ds), y ≤ M := by
      have hf := Up.foldl_max (Up.ends s (TmA s ds)) 0
      rcases hf.1 with z | z
      · obtain ⟨x, hx⟩ : ∃ x, x ∈ Up.ends s (TmA s ds) := ⟨Vbwbai.ended s (TmA s ds) 1, by rw [hen]; exact List.mem_map.mpr ⟨0, List.mem_range.mpr hn, rfl⟩⟩
        have h1 := en x hx
        have h2 := hf.2.2 x hx
        have : x = (Up.ends s (TmA s ds)).foldl max 0 := by omega
        exact ⟨_, this ▸ hx, hf.2.2⟩
      · exact ⟨_, z, hf.2.2⟩
    obtain ⟨j, hj, hjf⟩ := first_ix hM
    obtain ⟨hlast, hjs⟩ := Up.lastOp_of hM hMle en hj hjf
    have hget : ∀ i, i < size s → (Up.ends s (TmA s ds))[i]? = some (Vbwbai.ended s (TmA s ds) (i + 1)) := fun i hi => by
      rw [hen, List.getElem?_map, List.getElem?_range hi]
      rfl
    refine q_asg (v := nv (j + 1)) (ev_is (ev_op (ev_index (N := size s) (f := fun i => some (Vbwbai.ended s (TmA s ds) (i + 1))) (x := M) (j := j) (ev_var rfl) (.of (hrow ▸ hen')) (ev_max (ev_var rfl) (.of hen') (List.length_pos_of_mem hM) fun y hy hle => ?_) hjs ?_ fun i hi => ?_) ev_c rv_I0) rfl) fun H3 e3 => ?_
    · have h1 := hMle y hy
      have h2 := hle M hM
      omega
    · rw [← hget j hjs]
      exact hj
    · show some _ ≠ some M
      rw [← hget i (by omega)]
      exact hjf i hi
    rw [← hlast]
    have e13 := (e1.trans e2).trans e3
    have h3 := h.same e13
    refine q_asgP (ep_sums (ev_var rfl) h3 (by omega) (by omega) (ev_var rfl) (ev_many T (ev_var rfl) h3)) fun v H4 e4 ⟨p, ts, ev, hT⟩ => ?_
    subst ev
    have hlen : (rf ts).length = size s + 1 + 1 := by rw [List.length_map, hT.2.1]
    obtain ⟨n, hn1, hn2⟩ := Up.chain_is gd hd hrf hl0.2
    obtain ⟨k, hk1, hk2, hk3⟩ := least_nat (p := fun n => colF (mA s ds) (size s + 1) (lastOp s (TmA s ds)) n 0 = some (at_ (TmA s ds) (lastOp s (TmA s ds)))) n hn2
    have hBj : (((TmA s ds).drop 1).map V.int)[j]? = some (.int (at_ (TmA s ds) (lastOp s (TmA s ds)))) := by
      rw [List.getElem?_map, List.getElem?_drop]
      have hlt : 1 + j < (TmA s ds).length := by rw [Up.TmA_len]; omega
      have : (TmA s ds)[1 + j]? = some (at_ (TmA s ds) (lastOp s (TmA s ds))) := by
        rw [hlast]
        unfold at_
        rw [List.getD_eq_getElem?_getD, show j + 1 = 1 + j by omega, List.getElem?_eq_getElem hlt]
        rfl
      rw [this]
      rfl
    refine q_asg (v := nv k) (fun H5 e5 Q q => (el_lcL (a := p) (xs := rf ts) (fun _ => true) (fun n => ov (colF (mA s ds) (size s + 1) (lastOp s (TmA s ds)) n 0)) (ev_var rfl) (.of hT.1) (by rw [hlen]; omega) (fun _ => rfl) (fun n x H4 _ _ => fun H5 e5 Q q => q H5 (Ex.refl _)) (fun n x H6 e6 hx _ => ?_)) H5 e5 _ fun lp H6 nlp e6 hlp => ⟨.inl ⟨rfl, _, .of hlp⟩, (ev_op (ev_var rfl) (ev_op (ev_var rfl) ev_c rv_I0) (rv_ixL (.of ((e2.trans e3).trans e4 |>.trans e5 |>.trans e6 |> fun e => e _ _ hb)) (at_of (by show ((lastOp s (TmA s ds) : Nat) : Int) - 1 = ((j : Nat) : Int); omega) hBj))) H6 (Ex.refl _) _ fun H7 e7 => ?_⟩) fun H5 e5 => ?_
    · obtain ⟨t, ht, rfl⟩ := rf_get' hx
      exact ev_rowi (ev_var rfl) (.of (e6 _ _ (hT.2.2 n t ht))) ev_c (by omega)
    · have hlp7 : H7 lp = some (.lst (row (size s + 1 + 1) fun n => colF (mA s ds) (size s + 1) (lastOp s (TmA s ds)) n 0)) := by
        rw [e7 _ _ hlp, given_true, hlen]
        unfold row
        rw [List.map_map]
        rfl
      refine ⟨lp, _, .int (at_ (TmA s ds) (lastOp s (TmA s ds))), k, ov (colF (mA s ds) (size s + 1) (lastOp s (TmA s ds)) k 0), rfl, rfl, .of hlp7, rfl, flat_row _ _, row_get (by omega), by rw [eqV_ov, hk2]; exact decide_eq_true rfl, fun i z hi hz => ?_, q H7 (e6.trans e7)⟩
      rw [row_get (by omega)] at hz
      cases hz
      rw [eqV_ov]
      exact decide_eq_false (hk3 i hi)
    · have e15 := (e13.trans e4).trans e5
      refine s_retL (el_meth (vs := [.ref p, nv 0, nv k]) (ev_var rfl) (h.same e15).me (arF_no _ _ _ (by decide +kernel) (by decide +kernel) (by decide +kernel)) (ea_cons (ev_var rfl) (ea_cons ev_c (ea_cons (ev_var rfl) ea_nil)))
        fun H6 e6 Q q E => ⟨a, dx, w, r, p, rs, ts, size s + 1, size s + 1 + 1, mA s ds, lastOp s (TmA s ds), 0, k, _, rfl, (h.same e15).same e6, by omega, (hT.same e5).same e6, by omega, by omega, by omega, hl0.2, hk2, fun p H9 e9 np hp => q p H9 np e9 hp⟩) fun p' H6 np e6 hp => ?_
      refine q p' H6 (e15.trans e6) (fresh_back e15 np) ?_
      rw [hp, Up.chain_of gd hd hl0.1 hl0.2 (by omega) hk2 hk3]
end
end Uw
/-! W12: arrows: end_by, how they are laid. -/
namespace Uw
open PySem PySem.Spec PyProof.Rows L2 Evl
open Vbwbai (State Op Link Arrow size opAt numbers more plus best arrows opArrows linkArrows orderArrow at_)
open Up (OkDs Good endAr mA TmA)

/-- arrows es, laid over H0 -/
structure AB (c : Ad) (H0 H : Hp) (a dx w r : Addr) (rs : List Addr) (s : State) (es : List Arrow) : Prop where
  same : Ex H0 H
  new : ∀ b ∈ rs, H0 b = none
  arr : ArrAt c H a dx w r rs (size s + 1) (best es)
theorem AB.ext {c : Ad} {H0 H H' : Hp} {a dx w r : Addr} {rs : List Addr} {s : State} {es : List Arrow} (h : AB c H0 H a dx w r rs s es) (e : Ex H H') : AB c H0 H' a dx w r rs s es := ⟨h.same.trans e, h.new, h.arr.same e⟩
section
variable {P : Program} {w : World} {K : PySem.W.Frag} {mg : Str → Option Value} {base : Heap} {c : Ad}
theorem s_put {D : Ends} {σ : L2.St} {H0 H : Hp} {ta ti tj tx : TE} {a dx w r : Addr} {rs : List Addr} {s : State} {es : List Arrow} {i j : Nat} {x : Int} (h : AB c H0 H a dx w r rs s es) (ha : Ev ta σ H (.ref a)) (hi : Ev ti σ H (nv i)) (hj : Ev tj σ H (nv j)) (hx : Ev tx σ H (.int x)) (li : i < size s + 1) (lj : j < size s + 1)
    (k : ∀ H', SB rs H H' → AB c H0 H' a dx w r rs s (es ++ [⟨i, j, x⟩]) → D.nx σ H') : tDrop (tMeth c.Arr "put" (spPut c) [] E0 ta (tCons ti (tCons tj (tCons tx tNil)))) D σ H :=
  ha H (Ex.refl _) _ fun H1 e1 => ⟨a, dx, _, rfl, (h.arr.same e1).me, arF_no _ _ _ (by decide +kernel) (by decide +kernel) (by decide +kernel), (ea_cons hi (ea_cons hj (ea_cons hx ea_nil))) H1 e1 _ fun H2 e2 => by
    rw [List.append_nil]
    exact ⟨a, dx, w, r, rs, size s + 1, best es, i, j, x, rfl, h.arr.same (e1.trans e2), li, lj, fun H' sb h' => k H' ((SB.of (e1.trans e2)).trans sb) ⟨SB.same (h.same.trans (e1.trans e2)) sb h.new, h.new, h'.congr fun i' j' _ _ => by
      unfold putW
      rw [Up.best_snoc]
      by_cases q : i' = i ∧ j' = j
      · obtain ⟨rfl, rfl⟩ := q
        rw [if_pos ⟨rfl, rfl⟩, if_pos ⟨rfl, rfl⟩]
      · rw [if_neg q, if_neg (fun z => q ⟨z.1.symm, z.2.symm⟩), Up.more_none]⟩⟩⟩
theorem q_put {D : Ends} {tz : TS} {σ : L2.St} {H0 H : Hp} {ta ti tj tx : TE} {a dx w r : Addr} {rs : List Addr} {s : State} {es : List Arrow} {i j : Nat} {x : Int} (h : AB c H0 H a dx w r rs s es) (ha : Ev ta σ H (.ref a)) (hi : Ev ti σ H (nv i)) (hj : Ev tj σ H (nv j)) (hx : Ev tx σ H (.int x)) (li : i < size s + 1) (lj : j < size s + 1)
    (k : ∀ H', SB rs H H' → AB c H0 H' a dx w r rs s (es ++ [⟨i, j, x⟩]) → tz D σ H') : tSeq (tDrop (tMeth c.Arr "put" (spPut c) [] E0 ta (tCons ti (tCons tj (tCons tx tNil))))) tz D σ H :=
  s_put (D := { D with nx := tz D }) h ha hi hj hx li lj k
/-- a list that the arrows do not hold stands -/
theorem kept {H H' : Hp} {rs : List Addr} {p : Addr} {o : HO} (sb : SB rs H H') (hn : p ∉ rs) (h : H p = some o) : H' p = some o := sb p o hn h
/-- works.operation(i) -/
theorem ep_oper {σ : L2.St} {H : Hp} {ta ti : TE} {a dx g o l f : Addr} {os ls fs : List Addr} {s : State} {i : Nat} (ha : Ev ta σ H (.ref a)) (h : WkAt c H a dx g o l f os ls fs s) (hi : Ev ti σ H (nv i)) (li : 0 < i ∧ i < size s + 1) :
    EvP (tMeth c.Wk "operation" (spOperation c) [] E0 ta (tCons ti tNil)) σ H (fun v H1 => ∃ p d, v = .ref p ∧ H1 p = some (.ins c.Op d (opF (opAt s i)))) :=
  ep_meth ha h.me (wkF_no _ _ _ _ (by decide +kernel) (by decide +kernel) (by decide +kernel) (by decide +kernel)) (ea_cons hi ea_nil)
    fun H1 e1 Q q E => ⟨a, s, i, rfl, ⟨dx, g, o, l, f, os, ls, fs, h.same e1⟩, li, fun p H2 e2 ⟨d, hp⟩ => q _ _ e2 ⟨p, d, rfl, hp⟩⟩
theorem ev_wdist {σ : L2.St} {H : Hp} {ta ti : TE} {a dx g o l f : Addr} {os ls fs : List Addr} {s : State} {i : Nat} (ha : Ev ta σ H (.ref a)) (h : WkAt c H a dx g o l f os ls fs s) (gd : Good s) (hi : Ev ti σ H (nv i)) (li : 0 < i ∧ i < size s + 1) :
    Ev (tMeth c.Wk "distance" (spDistance c) [] E0 ta (tCons ti tNil)) σ H (.int (distI s i)) :=
  ev_meth ha h.me (wkF_no _ _ _ _ (by decide +kernel) (by decide +kernel) (by decide +kernel) (by decide +kernel)) (ea_cons hi ea_nil)
    fun H1 e1 Q q E => ⟨a, s, i, rfl, ⟨dx, g, o, l, f, os, ls, fs, h.same e1⟩, gd, li, q⟩
/-! ### end_by -/
def spEndBy (c : Ad) : Sp := fun vs H Q _ => ∃ (a dx w r : Addr) (rs : List Addr) (s : State) (es : List Arrow) (mi : Int) (H0 : Hp), vs = [.ref a, .int mi] ∧ AB c H0 H a dx w r rs s es ∧ WorksAt c H0 w s ∧ size s ≤ 8 ∧ ∀ H', SB rs H H' → AB c H0 H' a dx w r rs s (es ++ endAr s mi) → Q .non H'
abbrev s_Arr_end_by : Stmt := inClass (topS 1) 2
theorem sc_Arr_end_by : FnScope ["self", "minute", "node"] ["self", "minute"] (defScope s_Arr_end_by) := ⟨rfl, rfl, rfl, by decide +kernel, rfl, by decide +kernel, by decide +kernel⟩
theorem ok_end_by (T : Txt K mg c) (D : DefM K c.Arr "end_by" "Arrows.end_by" s_Arr_end_by ["self", "minute"]) (M_Arr_put : Met P w K mg base CX0 1 c.Arr "put" (spPut c)) (M_Wk_numbers : Met P w K mg base CX0 1 c.Wk "numbers" (spNumbers c)) (M_Wk_operation : Met P w K mg base CX0 1 c.Wk "operation" (spOperation c)) : Met P w K mg base CX0 2 c.Arr "end_by" (spEndBy c) := by
  refine met0 D T.arr sc_Arr_end_by (fun vs H Q E h => ?_) (fun f cdv A outer s H vs Q E hr h => ?_)
  · obtain ⟨a, dx, w, r, rs, s, es, mi, H0, rfl, _⟩ := h
    rfl
  · obtain ⟨a, dx, w, r, rs, s, es, mi, H0, rfl, h, ⟨dw, g, o, l, f', os, ls, fs, hw⟩, h8, q⟩ := h
    refine ⟨_, (pss_one (ps_for PassesOwn.never rfl (pi_list (pe_mt0 M_Wk_numbers hr (by decide) pass0 (pe_f (K := K) rfl (pv 0) rfl))) (pg_name (i := 2) sc_Arr_end_by.nd rfl (.inl rfl)) (pss_one (ps_expr (pe_mt M_Arr_put hr (by decide) pass0 (pv 0) (pa_cons (pv 2) (pa_cons pe_int (pa_cons (pe_op op_sub (pe_f (K := K) rfl (pe_mt M_Wk_operation hr (by decide) pass0 (pe_f (K := K) rfl (pv 0) rfl) (pa_cons (pv 2) pa_nil)) rfl) (pv 1)) pa_nil)))))))), ?_⟩
    refine s_forNL (el_numbers (ev_fld (ev_var rfl) h.arr.me T.arr T.arr_works (arF_works ..)) (hw.same h.same) h8) (fun p i σ H1 => ∃ v, σ = [some (.ref a), some (.int mi), v] ∧ SB rs H H1 ∧ H1 p = some (.lst (numsV s)) ∧ p ∉ rs ∧ AB c H0 H1 a dx w r rs s (es ++ (endAr s mi).take i))
      (fun p H1 np e1 hp => ⟨none, rfl, SB.of e1, hp, fun z => ?_, by rw [List.take_zero, List.append_nil]; exact h.ext e1⟩) (fun p i σ H1 _ ⟨_, _, _, hp, _⟩ => .of hp) ?_ ?_
    · obtain ⟨i, hi⟩ := List.getElem?_of_mem z
      have := h.arr.row i p hi
      rw [np] at this
      cases this
    · rintro p i x σ H1 hx ⟨v, rfl, sb, hp, npr, h1⟩
      obtain ⟨rfl, hi⟩ := nums_get hx
      have hw1 := hw.same h1.same
      show tDrop _ _ _ _
      refine s_put h1 (ev_var rfl) (ev_var rfl) (ev_c (v := nv 0)) (ev_op (ev_fldP (ep_oper (i := i + 1) (ev_fld (ev_var rfl) h1.arr.me T.arr T.arr_works (arF_works ..)) hw1 (ev_var rfl) ⟨by omega, by omega⟩) fun x H2 e2 ⟨p, d, e, hp⟩ => ⟨p, c.Op, d, _, e, hp, T.op, T.op_minutes, opF_minutes _⟩) (ev_var rfl) rv_I0) (by omega) (by omega) fun H2 sb2 h2 => ⟨_, rfl, sb.trans sb2, sb2 p _ npr hp, npr, ?_⟩
      have hk : (endAr s mi)[i]? = some ⟨i + 1, 0, Vbwbai.int (opAt s (i + 1)).long - mi⟩ := by
        unfold endAr
        rw [List.getElem?_map]
        have := Up.numbers_get (s := s) (v := i + 1) (by omega) (by omega)
        rw [Nat.add_sub_cancel] at this
        rw [this]
        rfl
      rw [take_more hk, ← List.append_assoc]
      exact h2
    · rintro p σ H1 ⟨v, rfl, sb, hp, npr, h1⟩
      rw [nums_len, List.take_of_length_le (by simp [endAr, numbers])] at h1
      exact q H1 sb h1
/-! ### the rows at first -/
theorem el_rows {σ : L2.St} {H : Hp} {ta tb : TE} {j : Nat} {vs : List Nat} {N : Nat} (h9 : N ≤ 9) (hw : ∀ x, wipe ((wipe σ vs).set j (some x)) vs = wipe σ vs) (ha : Ev ta σ H (nv N)) (hb : ∀ x H1, Ex H H1 → Ev tb ((wipe σ vs).set j (some x)) H1 (nv N)) :
    EvP (tLc (iRng1 (tCons ta tNil)) (gName j) tYes (tOp rRep (tLst (tCons (tC .non) tNil)) tb) vs) σ H (fun v H2 => ∃ p rs, v = .ref p ∧ H p = none ∧ (∀ b ∈ rs, H b = none) ∧ rs.Nodup ∧ rs.length = N ∧ H2 p = some (.lst (rf rs)) ∧ ∀ (i : Nat) q, rs[i]? = some q → H2 q = some (.lst (row N fun _ => none))) := fun H0 e0 Q q => by
  have hE : EvA (tCons ta tNil) σ H [nv N] := ea_cons ha ea_nil
  unfold tLc iRng1
  refine hE H0 e0 _ fun H1 e1 => ⟨(N : Int), rfl, by omega, by omega, fun tb' ntb => ?_⟩
  rw [show ((N : Int)).toNat = N by omega]
  have e01 := e0.trans e1
  refine lc_range (lo := 0) (n := N) (fun i H2 => ∃ bs, Ex H1 H2 ∧ H2 tb' = some (.lst (rf bs)) ∧ bs.length = i ∧ bs.Nodup ∧ (∀ b ∈ bs, H b = none) ∧ tb' ∉ bs ∧ ∀ (k : Nat) t, bs[k]? = some t → H2 t = some (.lst (row N fun _ => none)))
    ⟨[], Ex.new ntb, upd_same, rfl, List.nodup_nil, fun b hb => by simp at hb, by simp, fun j t hj => by simp at hj⟩ ?_ ?_
  · rintro i H2 hi ⟨bs, e2, hB, hl, hnd, hfr, hnt, hA⟩
    refine ⟨hw _, ?_⟩
    refine (el_is (el_rep (k := (N : Int)) (el_lst (ea_cons ev_c ea_nil) (by show 1 ≤ 100000; decide)) (hb _ H2 (e01.trans e2)) ⟨by omega, by omega⟩ (by show 1 ≤ 10; decide)) (show _ = row N fun _ => none by rw [rep_flat, row_const]; rfl)) H2 (Ex.refl _) _ fun p H3 np e3 hp => ?_
    have hB3 := e3 _ _ hB
    have npt : tb' ≠ p := ne_of_none hB np
    have npm : p ∉ bs := fun z => by
      obtain ⟨k, hk⟩ := List.getElem?_of_mem z
      have := hA k p hk
      rw [np] at this
      cases this
    refine ⟨rf bs, hB3, by rw [List.length_map, hl]; exact few' (by omega), bs ++ [p], fun b o hb => ?_, by rw [upd_same]; simp [rf], by simp [hl], ?_, ?_, ?_, ?_⟩
    · rw [upd_ne (ne_of_none hb ntb)]
      exact e3 _ _ (e2 _ _ hb)
    · exact List.nodup_append.mpr ⟨hnd, by simp, fun a ha b hb z => by
        rw [List.mem_singleton] at hb
        subst hb
        exact npm (z ▸ ha)⟩
    · intro b hb
      rcases List.mem_append.mp hb with hb | hb
      · exact hfr b hb
      · rw [List.mem_singleton] at hb
        subst hb
        exact fresh_back (e01.trans e2) np
    · intro hb
      rcases List.mem_append.mp hb with hb | hb
      · exact hnt hb
      · exact npt (List.mem_singleton.mp hb)
    · intro k t hk
      by_cases c : k < bs.length
      · rw [List.getElem?_append_left c] at hk
        rw [upd_ne (show t ≠ tb' from fun z => hnt (by rw [← z]; exact List.mem_of_getElem? hk))]
        exact e3 _ _ (hA k t hk)
      · have hk' : k = bs.length := by
          have := (List.getElem?_eq_some_iff.mp hk).1
          simp at this
          omega
        subst hk'
        rw [List.getElem?_append_right (Nat.le_refl _), Nat.sub_self] at hk
        cases hk
        rw [upd_ne npt.symm]
        exact hp
  · rintro H2 ⟨bs, e2, hB, hl, hnd, hfr, hnt, hA⟩
    exact q _ H2 (e1.trans e2) ⟨tb', bs, rfl, fresh_back e01 ntb, hfr, hnd, hl, hB, hA⟩
/-! ### without an empty instance -/
def rm (H : Hp) (a : Addr) : Hp := fun b => if b = a then none else H b
theorem rm_le {H : Hp} {a : Addr} : Ex (rm H a) H := fun b o e => by
  unfold rm at e
  by_cases q : b = a
  · rw [if_pos q] at e; cases e
  · rwa [if_neg q] at e
theorem rm_of {H : Hp} {a b : Addr} {o u : HO} (ha : H a = some u) (hb : H b = some o) (n : o ≠ u) : rm H a b = some o := by
  unfold rm
  rw [if_neg fun z => n (by subst z; rw [ha] at hb; exact (Option.some.inj hb).symm)]
  exact hb
theorem rm_sb {H H' : Hp} {a : Addr} (e : Ex (rm H a) H') : SB [a] H H' := fun b o n h => e b o (by
  unfold rm
  rw [if_neg fun z => n (List.mem_singleton.mpr z)]
  exact h)
theorem WkAt.rm {H : Hp} {x C d a dx g o l f : Addr} {os ls fs : List Addr} {s : State} (h : WkAt c H a dx g o l f os ls fs s) (hx : H x = some (.ins C d [])) : WkAt c (Uw.rm H x) a dx g o l f os ls fs s where
  me := rm_of hx h.me (by intro z; cases z)
  gaps := rm_of hx h.gaps (by intro z; cases z)
  ops := rm_of hx h.ops (by intro z; cases z)
  opA := h.opA.mono fun a o _ ⟨d, r⟩ => ⟨d, rm_of hx r (by intro z; cases z)⟩
  links := rm_of hx h.links (by intro z; cases z)
  lkA := h.lkA.mono fun a o _ ⟨d, r⟩ => ⟨d, rm_of hx r (by intro z; cases z)⟩
  fixed := rm_of hx h.fixed (by intro z; cases z)
  fxA := h.fxA.mono fun a o _ r => rm_of hx r (by intro z; cases z)
theorem PairsAt.rm {H : Hp} {x C d a : Addr} {ps : List (Nat × Nat)} (h : PairsAt H a ps) (hx : H x = some (.ins C d [])) : PairsAt (Uw.rm H x) a ps := by
  obtain ⟨as, e, A⟩ := h
  exact ⟨as, rm_of hx e (by intro z; cases z), A.mono fun a p _ r => rm_of hx (show H a = _ from r) (by intro z; cases z)⟩
end
end Uw
/-! W13: arrows: how they are laid. -/
namespace Uw
open PySem PySem.Spec PyProof.Rows L2 Evl
open Vbwbai (State Op Link Arrow size opAt numbers more plus best arrows opArrows linkArrows orderArrow at_)
open Up (OkDs Good endAr mA TmA)

/-- the arrows of an operation, of a link -/
def opAr (s : State) (i : Nat) : List Arrow := ⟨0, i, Vbwbai.int (opAt s i).release⟩ :: (match (opAt s i).due with
  | none => []
  | some d => [⟨i, 0, Vbwbai.int (opAt s i).long - Vbwbai.int d⟩])
def lkAr (l : Link) : List Arrow := ⟨l.i, l.j, l.least⟩ :: (match l.most with
  | none => []
  | some m => [⟨l.j, l.i, -m⟩])
section
variable {P : Program} {w : World} {K : PySem.W.Frag} {mg : Str → Option Value} {base : Heap} {c : Ad}
theorem q_fld {D : Ends} {tz : TS} {σ : L2.St} {H : Hp} {ta tb : TE} {a C dx : Addr} {fs : List (Str × V)} {f : Str} {v : V} (hv : Ev tb σ H v) (h : Ev ta σ H (.ref a)) (ho : H a = some (.ins C dx fs)) (cl : Cls K C) (n : NoAttr K C f) (l : fs.length < 1000) (k : ∀ H1, Ex H H1 → tz D σ (upd H1 a (.ins C dx (putF f v fs)))) : tSeq (sFld K ta tb f) tz D σ H :=
  s_fld (D := { D with nx := tz D }) hv h ho cl n l k
theorem q_fldP {D : Ends} {tz : TS} {σ : L2.St} {H : Hp} {ta tb : TE} {a C dx : Addr} {fs : List (Str × V)} {f : Str} {P : V → Hp → Prop} (hv : EvP tb σ H P) (h : Ev ta σ H (.ref a)) (ho : H a = some (.ins C dx fs)) (cl : Cls K C) (n : NoAttr K C f) (l : fs.length < 1000) (k : ∀ v H1 H2, Ex H H1 → Ex H1 H2 → P v H1 → tz D σ (upd H2 a (.ins C dx (putF f v fs)))) : tSeq (sFld K ta tb f) tz D σ H :=
  hv H (Ex.refl _) _ fun v H1 e1 p => h H1 e1 _ fun H2 e2 => ⟨a, C, dx, fs, rfl, e2 _ _ (e1 _ _ ho), cl, n, l, k v H1 H2 e1 e2 p⟩
theorem g_pair {i j : Nat} {t : Addr} {p : Nat × Nat} {H : Hp} {σ : L2.St} {R : L2.St → Hp → Prop} (h : PairAt H t p) (k : R ((σ.set i (some (nv p.1))).set j (some (nv p.2))) H) : gTup K 2 (gCons (gName i) (gCons (gName j) gNil)) (.ref t) σ H R :=
  ⟨t, _, rfl, .inl (.inl h), rfl, _, _, rfl, _, _, rfl, rfl, k⟩
theorem AB.out {H0 H : Hp} {a dx w r q : Addr} {rs : List Addr} {s : State} {es : List Arrow} {o : HO} (h : AB c H0 H a dx w r rs s es) (hq : H q = some o) (n : ∀ l, o ≠ .lst l) : q ∉ rs := fun z => by
  obtain ⟨i, hi⟩ := List.getElem?_of_mem z
  have := h.arr.row i q hi
  rw [hq] at this
  exact n _ (Option.some.inj this)
theorem AB.fresh {H0 H H1 : Hp} {a dx w r q : Addr} {rs : List Addr} {s : State} {es : List Arrow} (h : AB c H0 H a dx w r rs s es) (hq : H q = none) : q ∉ rs := fun z => by
  obtain ⟨i, hi⟩ := List.getElem?_of_mem z
  have := h.arr.row i q hi
  rw [hq] at this
  cases this
def spArrI (c : Ad) : Sp := fun vs H Q _ => ∃ (a dx w o : Addr) (s : State) (ds : List (Nat × Nat)), vs = [.ref a, .ref w, .ref o] ∧ H a = some (.ins c.Arr dx []) ∧ WorksAt c H w s ∧ Good s ∧ PairsAt H o ds ∧ OkDs s ds ∧ ∀ H' r rs, AB c (rm H a) H' a dx w r rs s (arrows s ds) → Q .non H'
abbrev s_Arr___init__ : Stmt := inClass (topS 1) 0
theorem sc_Arr___init__ : FnScope ["self", "works", "orders", "node", "link", "one", "first", "second"] ["self", "works", "orders"] (defScope s_Arr___init__) := ⟨rfl, rfl, rfl, by decide +kernel, rfl, by decide +kernel, by decide +kernel⟩
theorem ok_arr_init (T : Txt K mg c) (D : DefI K mg "Arrows" c.Arr "Arrows.__init__" s_Arr___init__ ["self", "works", "orders"]) (M_Arr_put : Met P w K mg base CX0 1 c.Arr "put" (spPut c)) (M_Wk_numbers : Met P w K mg base CX0 1 c.Wk "numbers" (spNumbers c)) (M_Wk_operation : Met P w K mg base CX0 1 c.Wk "operation" (spOperation c)) (M_Wk_distance : Met P w K mg base CX0 2 c.Wk "distance" (spDistance c)) :
    Mak P w K mg base CX0 3 "Arrows" c.Arr (spArrI c) := by
  refine mak0 D sc_Arr___init__ (fun vs H Q E h => ?_) (fun f cdv A outer s H vs Q E hr h => ?_)
  · obtain ⟨a, dx, w, o, s, ds, rfl, _⟩ := h
    rfl
  · obtain ⟨a, dx, w, o, s, ds, rfl, hA, ⟨dw, g, oo, l, f', os, ls, fs, hw⟩, gd, hP, hd, q⟩ := h
    refine ⟨_, (pss_cons (ps_fld (pv 0) (pv 1) rfl) (pss_cons (ps_fld (pv 0) (pe_op op_add (pe_callB (lenR (K := K) rfl) (by rfl) T.len (by decide +kernel) (pa_cons (pe_f (K := K) rfl (pv 1) rfl) pa_nil)) pe_int) rfl) (pss_cons (ps_fld (pv 0) (pe_lc (own := [("node", 3)]) rfl sc_Arr___init__.nd (pi_range1 (by rfl) T.range (pa_cons (pe_f (K := K) rfl (pv 0) rfl) pa_nil)) (blkOk_by (own := [("node", 3)]) (N := ["self", "works", "orders", "node", "link", "one", "first", "second"]) (sc := defScope s_Arr___init__) (by decide +kernel)) (fun _ _ _ _ _ => (pg_name (i := 3) sc_Arr___init__.nd rfl (.inl rfl))) (fun _ _ _ _ _ => pts_nil) (fun _ _ _ _ _ => (pe_op op_rep (pe_lst (pa_cons pe_non pa_nil)) (pe_f (K := K) rfl (pv 0) rfl)))) rfl) (pss_cons (ps_for PassesOwn.never rfl (pi_list (pe_mt0 M_Wk_numbers hr (by decide) pass0 (pv 1))) (pg_name (i := 3) sc_Arr___init__.nd rfl (.inl rfl)) (pss_cons (ps_set (i := 5) sc_Arr___init__.nd rfl (.inl rfl) (pe_mt M_Wk_operation hr (by decide) pass0 (pv 1) (pa_cons (pv 3) pa_nil))) (pss_cons (ps_expr (pe_mt M_Arr_put hr (by decide) pass0 (pv 0) (pa_cons pe_int (pa_cons (pv 3) (pa_cons (pe_f (K := K) rfl (pv 5) rfl) pa_nil))))) (pss_one (ps_if (pt_cmpR op_ge (pe_f (K := K) rfl (pv 5) rfl) pe_int (nomark _)) (pss_one (ps_expr (pe_mt M_Arr_put hr (by decide) pass0 (pv 0) (pa_cons (pv 3) (pa_cons pe_int (pa_cons (pe_op op_sub (pe_f (K := K) rfl (pv 5) rfl) (pe_f (K := K) rfl (pv 5) rfl)) pa_nil)))))) pss_nil))))) (pss_cons (ps_for PassesOwn.never rfl (pi_list (pe_f (K := K) rfl (pv 1) rfl)) (pg_name (i := 4) sc_Arr___init__.nd rfl (.inl rfl)) (pss_cons (ps_expr (pe_mt M_Arr_put hr (by decide) pass0 (pv 0) (pa_cons (pe_f (K := K) rfl (pv 4) rfl) (pa_cons (pe_f (K := K) rfl (pv 4) rfl) (pa_cons (pe_f (K := K) rfl (pv 4) rfl) pa_nil))))) (pss_one (ps_if (pt_cmp (pc_notN (pe_f (K := K) rfl (pv 4) rfl))) (pss_one (ps_expr (pe_mt M_Arr_put hr (by decide) pass0 (pv 0) (pa_cons (pe_f (K := K) rfl (pv 4) rfl) (pa_cons (pe_f (K := K) rfl (pv 4) rfl) (pa_cons (pe_op op_sub pe_int (pe_f (K := K) rfl (pv 4) rfl)) pa_nil)))))) pss_nil)))) (pss_one (ps_for PassesOwn.never rfl (pi_list (pv 2)) (pg_t (K := K) rfl rfl (pgs_cons (pg_name (i := 6) sc_Arr___init__.nd rfl (.inl rfl)) (pgs_cons (pg_name (i := 7) sc_Arr___init__.nd rfl (.inl rfl)) pgs_nil))) (pss_one (ps_expr (pe_mt M_Arr_put hr (by decide) pass0 (pv 0) (pa_cons (pv 6) (pa_cons (pv 7) (pa_cons (pe_mt M_Wk_distance hr (by decide) pass0 (pv 1) (pa_cons (pv 6) pa_nil)) pa_nil))))))))))))), ?_⟩
    have g8 : size s ≤ 8 := gd.ops
    have na : rm H a a = none := if_pos rfl
    have hw0 := hw.rm hA
    have hP0 := hP.rm hA
    have hol : (rf os).length = size s := by simp [hw.opA.1, size]
    refine q_fld (v := .ref w) (ev_var rfl) (ev_var rfl) hA T.arr T.arr_works (Nat.zero_lt_succ _) fun H1 e1 => ?_
    have s1 : Ex (rm H a) (upd H1 a (.ins c.Arr dx (putF "works" (.ref w) []))) := same_mut (rm_le.trans e1) na
    have hw1 := hw0.same s1
    generalize hH1 : upd H1 a (.ins c.Arr dx (putF "works" (.ref w) [])) = H1' at s1 hw1 ⊢
    have ha1 : H1' a = some (.ins c.Arr dx [("works", .ref w)]) := by rw [← hH1, upd_same]; rfl
    refine q_fld (v := nv (size s + 1)) (ev_is (ev_op (ev_lenL (ev_fld (ev_var rfl) hw1.me T.wk T.wk_operations (wkF_operations ..)) hw1.ops) ev_c rv_I0) (by rw [hol]; rfl)) (ev_var rfl) ha1 T.arr T.arr_many (by show 1 < 1000; decide) fun H2 e2 => ?_
    have s2 : Ex (rm H a) (upd H2 a (.ins c.Arr dx (putF "many" (nv (size s + 1)) [("works", .ref w)]))) := same_mut (s1.trans e2) na
    generalize hH2 : upd H2 a (.ins c.Arr dx (putF "many" (nv (size s + 1)) [("works", .ref w)])) = H2' at s2 ⊢
    have ha2 : H2' a = some (.ins c.Arr dx [("works", .ref w), ("many", nv (size s + 1))]) := by rw [← hH2, upd_same, put_past (by decide +kernel)]; rfl
    refine q_fldP (el_rows (N := size s + 1) (by omega) (fun _ => rfl) (ev_fld (ev_var rfl) ha2 T.arr T.arr_many ((lk_past (by decide +kernel)).trans lk_here)) fun x H3 e3 => ev_fld (ev_var rfl) (e3 _ _ ha2) T.arr T.arr_many ((lk_past (by decide +kernel)).trans lk_here)) (ev_var rfl) ha2 T.arr T.arr_rows (by show 2 < 1000; decide) fun v H3 H4 e3 e4 hv => ?_
    obtain ⟨r, rs, rfl, nr, nrs, hnd, hlen, hr3, hrow3⟩ := hv
    have ha4 := (e3.trans e4) _ _ ha2
    have hAB : AB c (rm H a) (upd H4 a (.ins c.Arr dx (putF "rows" (.ref r) [("works", .ref w), ("many", nv (size s + 1))]))) a dx w r rs s [] := ⟨same_mut ((s2.trans e3).trans e4) na, fun b hb => fresh_back s2 (nrs b hb), by rw [upd_same, put_past (by decide +kernel), put_past (by decide +kernel)]; rfl,
      by rw [upd_ne (ne_of (e4 _ _ hr3) ha4 (by intro z; cases z))]; exact e4 _ _ hr3, hnd, hlen, fun i p hp => by
        have := e4 _ _ (hrow3 i p hp)
        rw [upd_ne (ne_of this ha4 (by intro z; cases z)), this]
        exact congrArg (fun l => some (HO.lst l)) (row_congr fun j _ => (Up.best_nil i j).symm)⟩
    generalize upd H4 a (.ins c.Arr dx (putF "rows" (.ref r) [("works", .ref w), ("many", nv (size s + 1))])) = H5 at hAB ⊢
    -- operations
    refine q_forNLn (el_numbers (ev_var rfl) (hw0.same hAB.same) g8) (fun p k σ H' => ∃ v3 v5, σ = [some (.ref a), some (.ref w), some (.ref o), v3, none, v5, none, none] ∧ AB c (rm H a) H' a dx w r rs s (((numbers s).take k).flatMap (opAr s)) ∧ H' p = some (.lst (numsV s)) ∧ p ∉ rs)
      (fun p H' np e' hp => ⟨none, none, rfl, hAB.ext e', hp, hAB.fresh (H1 := H) np⟩) (fun p i σ H' _ ⟨_, _, _, _, hp, _⟩ => .of hp) ?_ ?_
    · rintro p i x σ H' hx ⟨v3, v5, rfl, h, hp, npr⟩
      obtain ⟨rfl, hi⟩ := nums_get hx
      refine q_asgP (ep_oper (i := i + 1) (ev_var rfl) (hw0.same h.same) (ev_var rfl) ⟨by omega, by omega⟩) fun v H6 e6 ⟨oa, d, ev, hoa⟩ => ?_
      subst ev
      have h6 := h.ext e6
      refine q_put h6 (ev_var rfl) (ev_c (v := nv 0)) (ev_var rfl) (ev_fld (ev_var rfl) hoa T.op T.op_release (opF_release _)) (by omega) (by omega) fun H7 sb7 h7 => ?_
      have hoa7 := kept sb7 (h6.out hoa (by intro l z; cases z)) hoa
      have hp7 := kept sb7 npr (e6 _ _ hp)
      have ek : (numbers s)[i]? = some (i + 1) := Up.numbers_get (v := i + 1) (by omega) (by omega)
      have et : ((numbers s).take (i + 1)).flatMap (opAr s) = ((numbers s).take i).flatMap (opAr s) ++ opAr s (i + 1) := by
        rw [take_more ek, List.flatMap_append]
        simp
      rw [et]
      refine s_when (b := decide (0 ≤ dueI (opAt s (i + 1)).due)) (et_test (ev_op (ev_fld (ev_var rfl) hoa7 T.op T.op_due (opF_due _)) ev_c rv_I0)) (fun hb H8 e8 => ?_) (fun hb H8 e8 => ?_)
      · cases ed : (opAt s (i + 1)).due with
        | none =>
          rw [ed] at hb
          exact absurd (of_decide_eq_true hb) (by decide)
        | some d' =>
          have h8 := h7.ext e8
          refine s_put h8 (ev_var rfl) (ev_var rfl) (ev_c (v := nv 0)) (ev_op (ev_fld (ev_var rfl) (e8 _ _ hoa7) T.op T.op_minutes (opF_minutes _)) (ev_fld (ev_var rfl) (e8 _ _ hoa7) T.op T.op_due (by rw [opF_due, ed]; try rfl)) rv_I0) (by omega) (by omega) fun H9 sb9 h9 => ⟨_, _, rfl, ?_, kept sb9 npr (e8 _ _ hp7), npr⟩
          unfold opAr
          rw [ed]
          rw [List.append_assoc] at h9
          exact h9
      · refine ⟨_, _, rfl, ?_, e8 _ _ hp7, npr⟩
        have : (opAt s (i + 1)).due = none := by
          cases ed : (opAt s (i + 1)).due with
          | none => rfl
          | some d' =>
            rw [ed] at hb
            exact absurd (Int.natCast_nonneg d') (of_decide_eq_false hb)
        unfold opAr
        rw [this]
        exact h7.ext e8
    · rintro p σ H' ⟨v3, v5, rfl, h, _, _⟩
      rw [nums_len, List.take_of_length_le (by simp [numbers])] at h
      change AB c (rm H a) H' a dx w r rs s (opArrows s) at h
      -- links
      refine q_forLn (a := l) (xs := rf ls) (ev_fld (ev_var rfl) (hw0.same h.same).me T.wk T.wk_links (wkF_links ..)) (.of (hw0.same h.same).links) (fun k σ H' => ∃ v3 v4 v5, σ = [some (.ref a), some (.ref w), some (.ref o), v3, v4, v5, none, none] ∧ AB c (rm H a) H' a dx w r rs s (opArrows s ++ (s.links.take k).flatMap lkAr))
        (fun H' e' => ⟨_, _, _, rfl, by rw [List.take_zero]; show AB _ _ _ _ _ _ _ _ _ (_ ++ []); rw [List.append_nil]; exact h.ext e'⟩) (fun i σ H' _ ⟨_, _, _, _, h⟩ => .of (hw0.same h.same).links) ?_ ?_
      · rintro i x σ H' hx ⟨v3, v4, v5, rfl, h⟩
        obtain ⟨t, ht, rfl⟩ := rf_get' hx
        obtain ⟨lk, elk, dl, hlk0⟩ := hw0.lkA.at' ht
        have hlk := h.same _ _ hlk0
        obtain ⟨g1, g2⟩ := gd.links lk (List.mem_of_getElem? elk)
        have et : (s.links.take (i + 1)).flatMap lkAr = (s.links.take i).flatMap lkAr ++ lkAr lk := by
          rw [take_more elk, List.flatMap_append]
          simp
        rw [et, ← List.append_assoc]
        show tSeq _ _ _ _ _
        refine q_put h (ev_var rfl) (ev_fld (ev_var rfl) hlk T.lk T.lk_first (lkF_first _)) (ev_fld (ev_var rfl) hlk T.lk T.lk_second (lkF_second _)) (ev_fld (ev_var rfl) hlk T.lk T.lk_least (lkF_least _)) (by omega) (by omega) fun H7 sb7 h7 => ?_
        have hlk7 := h7.same _ _ hlk0
        refine s_when (et_notN (ev_fld (ev_var rfl) hlk7 T.lk T.lk_most (lkF_most _))) (fun hb H8 e8 => ?_) (fun hb H8 e8 => ?_)
        · cases em : lk.most with
          | none => rw [em] at hb; cases hb
          | some m =>
            have h8 := h7.ext e8
            have hlk8 := e8 _ _ hlk7
            refine s_put h8 (ev_var rfl) (ev_fld (ev_var rfl) hlk8 T.lk T.lk_second (lkF_second _)) (ev_fld (ev_var rfl) hlk8 T.lk T.lk_first (lkF_first _)) (ev_op ev_c (ev_fld (ev_var rfl) hlk8 T.lk T.lk_most (by rw [lkF_most, em]; rfl)) rv_I0) (by omega) (by omega) fun H9 sb9 h9 => ⟨_, _, _, rfl, ?_⟩
            unfold lkAr
            rw [em]
            rw [List.append_assoc, Int.zero_sub] at h9
            exact h9
        · refine ⟨_, _, _, rfl, ?_⟩
          cases em : lk.most with
          | some m => rw [em] at hb; cases hb
          | none =>
            unfold lkAr
            rw [em]
            exact h7.ext e8
      · rintro σ H' ⟨v3, v4, v5, rfl, h⟩
        rw [List.length_map, hw.lkA.1, List.take_length] at h
        change AB c (rm H a) H' a dx w r rs s (opArrows s ++ linkArrows s) at h
        -- orders
        obtain ⟨as, hp0, hPA⟩ := hP0
        refine s_forL (a := o) (xs := rf as) (ev_var rfl) (.of (h.same _ _ hp0)) (fun k σ H' => ∃ v3 v4 v5 v6 v7, σ = [some (.ref a), some (.ref w), some (.ref o), v3, v4, v5, v6, v7] ∧ AB c (rm H a) H' a dx w r rs s (opArrows s ++ linkArrows s ++ (ds.take k).map (orderArrow s)))
          (fun H' e' => ⟨_, _, _, _, _, rfl, by rw [List.take_zero]; show AB _ _ _ _ _ _ _ _ _ (_ ++ []); rw [List.append_nil]; exact h.ext e'⟩) (fun i σ H' _ ⟨_, _, _, _, _, _, h⟩ => .of (h.same _ _ hp0)) ?_ ?_
        · rintro i x σ H' hx ⟨v3, v4, v5, v6, v7, rfl, h⟩
          obtain ⟨t, ht, rfl⟩ := rf_get' hx
          obtain ⟨p, ep, hp⟩ := hPA.at' ht
          have hpm := hd p (List.mem_of_getElem? ep)
          refine g_pair (h.same _ _ hp) ?_
          refine s_put h (ev_var rfl) (ev_var rfl) (ev_var rfl) (ev_wdist (ev_var rfl) (hw0.same h.same) gd (ev_var rfl) hpm.1) (by omega) (by omega) fun H9 sb9 h9 => ⟨_, _, _, _, _, rfl, ?_⟩
          rw [take_more ep, List.map_append, ← List.append_assoc]
          exact h9
        · rintro σ H' ⟨v3, v4, v5, v6, v7, rfl, h⟩
          rw [List.length_map, hPA.1, List.take_length, List.append_assoc] at h
          exact q H' r rs h
/-- Arrows(works, orders) -/
theorem ep_arrows {σ : L2.St} {H : Hp} {tw to : TE} {w : Addr} {s : State} {ds : List (Nat × Nat)} (hw : Ev tw σ H (.ref w)) (W : WorksAt c H w s) (gd : Good s) (ho : EvP to σ H (fun v H1 => ∃ p, v = .ref p ∧ PairsAt H1 p ds)) (hd : OkDs s ds) :
    EvP (tMake c.Arr (spArrI c) [] E0 (tCons tw (tCons to tNil))) σ H (fun v H2 => ∃ a dx r rs, v = .ref a ∧ H a = none ∧ AB c H H2 a dx w r rs s (arrows s ds)) := fun H0 e0 Q q => by
  unfold tMake
  refine hw H0 e0 _ fun H1 e1 => ho H1 (e0.trans e1) _ fun v H2 e2 ⟨p, ev, hp⟩ => ?_
  subst ev
  show ∀ x dx, H2 x = none → H2 dx = none → dx ≠ x → _
  intro x dx nx ndx nxd
  have e02 := (e0.trans e1).trans e2
  have ex : Ex H2 (upd (upd H2 dx (.own x)) x (.ins c.Arr dx [])) := fun b o e => by
    rw [upd_ne (ne_of_none e nx), upd_ne (ne_of_none e ndx)]
    exact e
  refine ⟨x, dx, w, p, s, ds, rfl, upd_same, W.same (e02.trans ex), gd, hp.same ex, hd, fun H' r rs h => ⟨rfl, ?_⟩⟩
  have e2r : Ex H2 (rm (upd (upd H2 dx (.own x)) x (.ins c.Arr dx [])) x) := fun b o e => by
    unfold rm
    rw [if_neg (ne_of_none e nx)]
    exact ex b o e
  refine q _ H' (((e1.trans e2).trans e2r).trans h.same) ⟨x, dx, r, rs, rfl, fresh_back e02 nx, (e02.trans e2r).trans h.same, fun b hb => fresh_back (e02.trans e2r) (h.new b hb), h.arr⟩
end
end Uw
/-! W14: how the other objects are laid; all ways; a leaf. -/
namespace Uw
open PySem PySem.Spec PyProof.Rows L2 Evl
open Vbwbai (State Op Link Arrow size opAt numbers more plus best arrows opArrows linkArrows orderArrow at_)
open Up (OkDs Good endAr mA TmA both waysP lexW)

section
variable {P : Program} {w : World} {K : PySem.W.Frag} {mg : Str → Option Value} {base : Heap} {c : Ad}
theorem sb_fld {a : Addr} {H H1 H2 : Hp} {o : HO} (h : SB [a] H H1) (e : Ex H1 H2) : SB [a] H (upd H2 a o) := (h.trans (SB.of e)).trans (SB.upd (List.mem_singleton.mpr rfl))
/-- what a new object's making promises, and what it gives -/
def IniQ (a : Addr) (o : HO) (H : Hp) (Q : VK) : Prop := ∀ H', SB [a] H H' → H' a = some o → Q .non H'
theorem make_ex {H H' : Hp} {x dx C : Addr} (nx : H x = none) (ndx : H dx = none) (sb : SB [x] (upd (upd H dx (.own x)) x (.ins C dx [])) H') : Ex H H' := fun b o e => sb b o (fun z => ne_of_none e nx (List.mem_singleton.mp z)) (by
  rw [upd_ne (ne_of_none e nx), upd_ne (ne_of_none e ndx)]
  exact e)
theorem make_ex0 {H : Hp} {x dx C : Addr} (nx : H x = none) (ndx : H dx = none) : Ex H (upd (upd H dx (.own x)) x (.ins C dx [])) := fun b o e => by
  rw [upd_ne (ne_of_none e nx), upd_ne (ne_of_none e ndx)]
  exact e
def spOpI (c : Ad) : Sp := fun vs H Q _ => ∃ (a dx : Addr) (x1 x2 x3 x4 : V), vs = [.ref a, x1, x2, x3, x4] ∧ H a = some (.ins c.Op dx []) ∧ IniQ a (.ins c.Op dx [("unit", x1), ("minutes", x2), ("release", x3), ("due", x4)]) H Q
abbrev s_Op___init__ : Stmt := inClass (topS 3) 0
theorem sc_Op___init__ : FnScope ["self", "unit", "minutes", "release", "due"] ["self", "unit", "minutes", "release", "due"] (defScope s_Op___init__) := ⟨rfl, rfl, rfl, by decide +kernel, rfl, by decide +kernel, by decide +kernel⟩
theorem ok_op_init (T : Txt K mg c) (D : DefI K mg "Operation" c.Op "Operation.__init__" s_Op___init__ ["self", "unit", "minutes", "release", "due"]) : Mak P w K mg base CX0 1 "Operation" c.Op (spOpI c) := by
  refine mak0 D sc_Op___init__ (fun vs H Q E h => ?_) (fun f cdv A outer s H vs Q E hr h => ?_)
  · obtain ⟨a, dx, x1, x2, x3, x4, rfl, _⟩ := h
    rfl
  · obtain ⟨a, dx, x1, x2, x3, x4, rfl, hA, q⟩ := h
    refine ⟨_, (pss_cons (ps_fld (pv 0) (pv 1) rfl) (pss_cons (ps_fld (pv 0) (pv 2) rfl) (pss_cons (ps_fld (pv 0) (pv 3) rfl) (pss_one (ps_fld (pv 0) (pv 4) rfl))))), ?_⟩
    refine q_fld (ev_var rfl) (ev_var rfl) hA T.op T.op_unit (by show 0 < 1000; decide) fun H1 e1 => ?_
    refine q_fld (ev_var rfl) (ev_var rfl) upd_same T.op T.op_minutes (by show 1 < 1000; decide) fun H2 e2 => ?_
    rw [show putF "minutes" x2 (putF "unit" x1 []) = ([("unit", x1), ("minutes", x2)] : List (Str × V)) from put_past (by decide +kernel)]
    refine q_fld (ev_var rfl) (ev_var rfl) upd_same T.op T.op_release (by show 2 < 1000; decide) fun H3 e3 => ?_
    rw [show putF "release" x3 [("unit", x1), ("minutes", x2)] = ([("unit", x1), ("minutes", x2), ("release", x3)] : List (Str × V)) from (put_past (by decide +kernel)).trans (congrArg _ (put_past (by decide +kernel)))]
    refine s_fld (ev_var rfl) (ev_var rfl) upd_same T.op T.op_due (by show 3 < 1000; decide) fun H4 e4 => ?_
    rw [show putF "due" x4 [("unit", x1), ("minutes", x2), ("release", x3)] = ([("unit", x1), ("minutes", x2), ("release", x3), ("due", x4)] : List (Str × V)) from (put_past (by decide +kernel)).trans (congrArg _ ((put_past (by decide +kernel)).trans (congrArg _ (put_past (by decide +kernel)))))]
    exact q _ (sb_fld (sb_fld (sb_fld (sb_fld (SB.refl _ _) e1) e2) e3) e4) upd_same
def spLkI (c : Ad) : Sp := fun vs H Q _ => ∃ (a dx : Addr) (x1 x2 x3 x4 : V), vs = [.ref a, x1, x2, x3, x4] ∧ H a = some (.ins c.Lk dx []) ∧ IniQ a (.ins c.Lk dx [("first", x1), ("second", x2), ("least", x3), ("most", x4)]) H Q
abbrev s_Lk___init__ : Stmt := inClass (topS 4) 0
theorem sc_Lk___init__ : FnScope ["self", "first", "second", "least", "most"] ["self", "first", "second", "least", "most"] (defScope s_Lk___init__) := ⟨rfl, rfl, rfl, by decide +kernel, rfl, by decide +kernel, by decide +kernel⟩
theorem ok_lk_init (T : Txt K mg c) (D : DefI K mg "Link" c.Lk "Link.__init__" s_Lk___init__ ["self", "first", "second", "least", "most"]) : Mak P w K mg base CX0 1 "Link" c.Lk (spLkI c) := by
  refine mak0 D sc_Lk___init__ (fun vs H Q E h => ?_) (fun f cdv A outer s H vs Q E hr h => ?_)
  · obtain ⟨a, dx, x1, x2, x3, x4, rfl, _⟩ := h
    rfl
  · obtain ⟨a, dx, x1, x2, x3, x4, rfl, hA, q⟩ := h
    refine ⟨_, (pss_cons (ps_fld (pv 0) (pv 1) rfl) (pss_cons (ps_fld (pv 0) (pv 2) rfl) (pss_cons (ps_fld (pv 0) (pv 3) rfl) (pss_one (ps_fld (pv 0) (pv 4) rfl))))), ?_⟩
    refine q_fld (ev_var rfl) (ev_var rfl) hA T.lk T.lk_first (by show 0 < 1000; decide) fun H1 e1 => ?_
    refine q_fld (ev_var rfl) (ev_var rfl) upd_same T.lk T.lk_second (by show 1 < 1000; decide) fun H2 e2 => ?_
    rw [show putF "second" x2 (putF "first" x1 []) = ([("first", x1), ("second", x2)] : List (Str × V)) from put_past (by decide +kernel)]
    refine q_fld (ev_var rfl) (ev_var rfl) upd_same T.lk T.lk_least (by show 2 < 1000; decide) fun H3 e3 => ?_
    rw [show putF "least" x3 [("first", x1), ("second", x2)] = ([("first", x1), ("second", x2), ("least", x3)] : List (Str × V)) from (put_past (by decide +kernel)).trans (congrArg _ (put_past (by decide +kernel)))]
    refine s_fld (ev_var rfl) (ev_var rfl) upd_same T.lk T.lk_most (by show 3 < 1000; decide) fun H4 e4 => ?_
    rw [show putF "most" x4 [("first", x1), ("second", x2), ("least", x3)] = ([("first", x1), ("second", x2), ("least", x3), ("most", x4)] : List (Str × V)) from (put_past (by decide +kernel)).trans (congrArg _ ((put_past (by decide +kernel)).trans (congrArg _ (put_past (by decide +kernel)))))]
    exact q _ (sb_fld (sb_fld (sb_fld (sb_fld (SB.refl _ _) e1) e2) e3) e4) upd_same
def spPlI (c : Ad) : Sp := fun vs H Q _ => ∃ (a dx : Addr) (x1 x2 x3 : V), vs = [.ref a, x1, x2, x3] ∧ H a = some (.ins c.Pl dx []) ∧ IniQ a (.ins c.Pl dx [("end", x1), ("begins", x2), ("orders", x3)]) H Q
abbrev s_Pl___init__ : Stmt := inClass (topS 11) 0
theorem sc_Pl___init__ : FnScope ["self", "end", "begins", "orders"] ["self", "end", "begins", "orders"] (defScope s_Pl___init__) := ⟨rfl, rfl, rfl, by decide +kernel, rfl, by decide +kernel, by decide +kernel⟩
theorem ok_pl_init (T : Txt K mg c) (D : DefI K mg "Plan" c.Pl "Plan.__init__" s_Pl___init__ ["self", "end", "begins", "orders"]) : Mak P w K mg base CX0 1 "Plan" c.Pl (spPlI c) := by
  refine mak0 D sc_Pl___init__ (fun vs H Q E h => ?_) (fun f cdv A outer s H vs Q E hr h => ?_)
  · obtain ⟨a, dx, x1, x2, x3, rfl, _⟩ := h
    rfl
  · obtain ⟨a, dx, x1, x2, x3, rfl, hA, q⟩ := h
    refine ⟨_, (pss_cons (ps_fld (pv 0) (pv 1) rfl) (pss_cons (ps_fld (pv 0) (pv 2) rfl) (pss_one (ps_fld (pv 0) (pv 3) rfl)))), ?_⟩
    refine q_fld (ev_var rfl) (ev_var rfl) hA T.pl T.pl_end (by show 0 < 1000; decide) fun H1 e1 => ?_
    refine q_fld (ev_var rfl) (ev_var rfl) upd_same T.pl T.pl_begins (by show 1 < 1000; decide) fun H2 e2 => ?_
    rw [show putF "begins" x2 (putF "end" x1 []) = ([("end", x1), ("begins", x2)] : List (Str × V)) from put_past (by decide +kernel)]
    refine s_fld (ev_var rfl) (ev_var rfl) upd_same T.pl T.pl_orders (by show 2 < 1000; decide) fun H3 e3 => ?_
    rw [show putF "orders" x3 [("end", x1), ("begins", x2)] = ([("end", x1), ("begins", x2), ("orders", x3)] : List (Str × V)) from (put_past (by decide +kernel)).trans (congrArg _ (put_past (by decide +kernel)))]
    exact q _ (sb_fld (sb_fld (sb_fld (SB.refl _ _) e1) e2) e3) upd_same
def rdF (w : Addr) (mi : Int) (g : Addr) (at' : Nat) : List (Str × V) := [("works", .ref w), ("minute", .int mi), ("given", .ref g), ("at", nv at')]
def spRdI (c : Ad) : Sp := fun vs H Q _ => ∃ (a dx w g : Addr) (mi : Int), vs = [.ref a, .ref w, .int mi, .ref g] ∧ H a = some (.ins c.Rd dx []) ∧ IniQ a (.ins c.Rd dx (rdF w mi g 0)) H Q
abbrev s_Rd___init__ : Stmt := inClass (topS 15) 0
theorem sc_Rd___init__ : FnScope ["self", "works", "minute", "numbers"] ["self", "works", "minute", "numbers"] (defScope s_Rd___init__) := ⟨rfl, rfl, rfl, by decide +kernel, rfl, by decide +kernel, by decide +kernel⟩
theorem ok_rd_init (T : Txt K mg c) (D : DefI K mg "Reader" c.Rd "Reader.__init__" s_Rd___init__ ["self", "works", "minute", "numbers"]) : Mak P w K mg base CX0 1 "Reader" c.Rd (spRdI c) := by
  refine mak0 D sc_Rd___init__ (fun vs H Q E h => ?_) (fun f cdv A outer s H vs Q E hr h => ?_)
  · obtain ⟨a, dx, x1, x3, x2, rfl, _⟩ := h
    rfl
  · obtain ⟨a, dx, x1, x3, x2, rfl, hA, q⟩ := h
    refine ⟨_, (pss_cons (ps_fld (pv 0) (pv 1) rfl) (pss_cons (ps_fld (pv 0) (pv 2) rfl) (pss_cons (ps_fld (pv 0) (pv 3) rfl) (pss_one (ps_fld (pv 0) pe_int rfl))))), ?_⟩
    refine q_fld (v := .ref x1) (ev_var rfl) (ev_var rfl) hA T.rd T.rd_works (by show 0 < 1000; decide) fun H1 e1 => ?_
    refine q_fld (v := .int x2) (ev_var rfl) (ev_var rfl) upd_same T.rd T.rd_minute (by show 1 < 1000; decide) fun H2 e2 => ?_
    rw [show putF "minute" (.int x2) (putF "works" (.ref x1) []) = ([("works", .ref x1), ("minute", .int x2)] : List (Str × V)) from put_past (by decide +kernel)]
    refine q_fld (v := .ref x3) (ev_var rfl) (ev_var rfl) upd_same T.rd T.rd_given (by show 2 < 1000; decide) fun H3 e3 => ?_
    rw [show putF "given" (.ref x3) [("works", .ref x1), ("minute", .int x2)] = ([("works", .ref x1), ("minute", .int x2), ("given", .ref x3)] : List (Str × V)) from (put_past (by decide +kernel)).trans (congrArg _ (put_past (by decide +kernel)))]
    refine s_fld (v := nv 0) ev_c (ev_var rfl) upd_same T.rd T.rd_at (by show 3 < 1000; decide) fun H4 e4 => ?_
    rw [show putF "at" (nv 0) [("works", .ref x1), ("minute", .int x2), ("given", .ref x3)] = rdF x1 x2 x3 0 from (put_past (by decide +kernel)).trans (congrArg _ ((put_past (by decide +kernel)).trans (congrArg _ (put_past (by decide +kernel)))))]
    exact q _ (sb_fld (sb_fld (sb_fld (sb_fld (SB.refl _ _) e1) e2) e3) e4) upd_same
/-- Works(gaps): three new lists -/
def spWkI (c : Ad) : Sp := fun vs H Q _ => ∃ (a dx g : Addr), vs = [.ref a, .ref g] ∧ H a = some (.ins c.Wk dx []) ∧ ∀ H' o l f, SB [a] H H' → H' a = some (.ins c.Wk dx (wkF g o l f)) → H o = none → H l = none → H f = none → o ≠ l → o ≠ f → l ≠ f → H' o = some (.lst []) → H' l = some (.lst []) → H' f = some (.lst []) → Q .non H'
abbrev s_Wk___init__ : Stmt := inClass (topS 5) 0
theorem sc_Wk___init__ : FnScope ["self", "gaps"] ["self", "gaps"] (defScope s_Wk___init__) := ⟨rfl, rfl, rfl, by decide +kernel, rfl, by decide +kernel, by decide +kernel⟩
theorem s_fldL {D : Ends} {σ : L2.St} {H : Hp} {ta tb : TE} {a C dx : Addr} {fs : List (Str × V)} {f : Str} {xs : List V} (hv : EvL tb σ H xs) (h : Ev ta σ H (.ref a)) (ho : H a = some (.ins C dx fs)) (cl : Cls K C) (n : NoAttr K C f) (l : fs.length < 1000) (k : ∀ p H1, Ex H H1 → H p = none → H1 p = some (.lst xs) → D.nx σ (upd H1 a (.ins C dx (putF f (.ref p) fs)))) : sFld K ta tb f D σ H :=
  hv H (Ex.refl _) _ fun p H1 np e1 hp => h H1 e1 _ fun H2 e2 => ⟨a, C, dx, fs, rfl, e2 _ _ (e1 _ _ ho), cl, n, l, k p H2 (e1.trans e2) np (e2 _ _ hp)⟩
theorem q_fldL {D : Ends} {tz : TS} {σ : L2.St} {H : Hp} {ta tb : TE} {a C dx : Addr} {fs : List (Str × V)} {f : Str} {xs : List V} (hv : EvL tb σ H xs) (h : Ev ta σ H (.ref a)) (ho : H a = some (.ins C dx fs)) (cl : Cls K C) (n : NoAttr K C f) (l : fs.length < 1000) (k : ∀ p H1, Ex H H1 → H p = none → H1 p = some (.lst xs) → tz D σ (upd H1 a (.ins C dx (putF f (.ref p) fs)))) : tSeq (sFld K ta tb f) tz D σ H :=
  s_fldL (D := { D with nx := tz D }) hv h ho cl n l k
theorem ok_wk_init (T : Txt K mg c) (D : DefI K mg "Works" c.Wk "Works.__init__" s_Wk___init__ ["self", "gaps"]) : Mak P w K mg base CX0 1 "Works" c.Wk (spWkI c) := by
  refine mak0 D sc_Wk___init__ (fun vs H Q E h => ?_) (fun f cdv A outer s H vs Q E hr h => ?_)
  · obtain ⟨a, dx, g, rfl, _⟩ := h
    rfl
  · obtain ⟨a, dx, g, rfl, hA, q⟩ := h
    refine ⟨_, (pss_cons (ps_fld (pv 0) (pv 1) rfl) (pss_cons (ps_fld (pv 0) (pe_lst pa_nil) rfl) (pss_cons (ps_fld (pv 0) (pe_lst pa_nil) rfl) (pss_one (ps_fld (pv 0) (pe_lst pa_nil) rfl))))), ?_⟩
    have back : ∀ {H1 H2 : Hp} {p : Addr}, SB [a] H H1 → Ex H1 H2 → H1 p = none → (∃ o, H1 a = some o) → H p = none := fun {H1 H2 p} sb e np ⟨o, ha⟩ => by
      cases e : H p with
      | none => rfl
      | some o' =>
        have := sb p o' (fun z => by rw [List.mem_singleton.mp z, ha] at np; cases np) e
        rw [np] at this
        cases this
    refine q_fld (v := .ref g) (ev_var rfl) (ev_var rfl) hA T.wk T.wk_gaps (by show 0 < 1000; decide) fun H1 e1 => ?_
    refine q_fldL (xs := []) (el_lst ea_nil (Nat.zero_le _)) (ev_var rfl) upd_same T.wk T.wk_operations (by show 1 < 1000; decide) fun o H2 e2 no ho => ?_
    rw [show putF "operations" (.ref o) (putF "gaps" (.ref g) []) = ([("gaps", .ref g), ("operations", .ref o)] : List (Str × V)) from put_past (by decide +kernel)]
    have sb1 : SB [a] H (upd H1 a (.ins c.Wk dx (putF "gaps" (.ref g) []))) := sb_fld (SB.refl _ _) e1
    have ao : o ≠ a := fun z => by rw [z, upd_same] at no; cases no
    have sb2 := sb_fld (o := .ins c.Wk dx [("gaps", .ref g), ("operations", .ref o)]) sb1 e2
    have no0 := back sb1 e2 no ⟨_, upd_same⟩
    refine q_fldL (xs := []) (el_lst ea_nil (Nat.zero_le _)) (ev_var rfl) upd_same T.wk T.wk_links (by show 2 < 1000; decide) fun l H3 e3 nl hl => ?_
    rw [show putF "links" (.ref l) [("gaps", .ref g), ("operations", .ref o)] = ([("gaps", .ref g), ("operations", .ref o), ("links", .ref l)] : List (Str × V)) from (put_past (by decide +kernel)).trans (congrArg _ (put_past (by decide +kernel)))]
    have al : l ≠ a := fun z => by rw [z, upd_same] at nl; cases nl
    have ho2 : (upd H2 a (.ins c.Wk dx [("gaps", .ref g), ("operations", .ref o)])) o = some (.lst []) := by rw [upd_ne ao]; exact ho
    have nl0 := back sb2 e3 nl ⟨_, upd_same⟩
    have ol : o ≠ l := ne_of_none ho2 nl
    have ho3 := e3 _ _ ho2
    have sb3 := sb_fld (o := .ins c.Wk dx [("gaps", .ref g), ("operations", .ref o), ("links", .ref l)]) sb2 e3
    refine s_fldL (xs := []) (el_lst ea_nil (Nat.zero_le _)) (ev_var rfl) upd_same T.wk T.wk_fixed (by show 3 < 1000; decide) fun f' H4 e4 nf hf => ?_
    rw [show putF "fixed" (.ref f') [("gaps", .ref g), ("operations", .ref o), ("links", .ref l)] = wkF g o l f' from (put_past (by decide +kernel)).trans (congrArg _ ((put_past (by decide +kernel)).trans (congrArg _ (put_past (by decide +kernel)))))]
    have af : f' ≠ a := fun z => by rw [z, upd_same] at nf; cases nf
    have ho3' : (upd H3 a (.ins c.Wk dx [("gaps", .ref g), ("operations", .ref o), ("links", .ref l)])) o = some (.lst []) := by rw [upd_ne ao]; exact ho3
    have hl3' : (upd H3 a (.ins c.Wk dx [("gaps", .ref g), ("operations", .ref o), ("links", .ref l)])) l = some (.lst []) := by rw [upd_ne al]; exact hl
    have nf0 := back sb3 e4 nf ⟨_, upd_same⟩
    exact q _ o l f' (sb_fld sb3 e4) upd_same no0 nl0 nf0 ol (ne_of_none ho3' nf) (ne_of_none hl3' nf) (by rw [upd_ne ao]; exact e4 _ _ ho3') (by rw [upd_ne al]; exact e4 _ _ hl3') (by rw [upd_ne af]; exact hf)
def dkF (w : Addr) : List (Str × V) := [("works", .ref w)]
def spDkI (c : Ad) : Sp := fun vs H Q _ => ∃ (a dx : Addr), vs = [.ref a] ∧ H a = some (.ins c.Dk dx []) ∧ ∀ H' w R, SB [a] H H' → H' a = some (.ins c.Dk dx (dkF w)) → WorksR c H' w ⟨[], [], [], []⟩ R → (∀ b ∈ a :: R, b ≠ a → H b = none) → a ∉ R → Q .non H'
abbrev s_Dk___init__ : Stmt := inClass (topS 27) 0
theorem sc_Dk___init__ : FnScope ["self"] ["self"] (defScope s_Dk___init__) := ⟨rfl, rfl, rfl, by decide +kernel, rfl, by decide +kernel, by decide +kernel⟩
theorem ok_dk_init (T : Txt K mg c) (D : DefI K mg "Desk" c.Dk "Desk.__init__" s_Dk___init__ ["self"]) (K_Wk : Mak P w K mg base CX0 1 "Works" c.Wk (spWkI c)) : Mak P w K mg base CX0 3 "Desk" c.Dk (spDkI c) := by
  refine mak0 D sc_Dk___init__ (fun vs H Q E h => ?_) (fun f cdv A outer s H vs Q E hr h => ?_)
  · obtain ⟨a, dx, rfl, _⟩ := h
    rfl
  · obtain ⟨a, dx, rfl, hA, q⟩ := h
    refine ⟨_, (pss_one (ps_fld (pv 0) (pe_mk K_Wk hr (by decide) pass0 (by rfl) (pa_cons (pe_lst pa_nil) pa_nil)) rfl)), ?_⟩
    unfold sFld tMake
    refine (el_lst ea_nil (Nat.zero_le _)) H (Ex.refl _) _ fun g H1 ng e1 hg => ?_
    intro x d nx nd nxd
    have e2 := make_ex0 (C := c.Wk) nx nd
    refine ⟨x, d, g, rfl, upd_same, fun H' o l f sb hx no nl nf ol of lf ho hl hf => ⟨rfl, ?_⟩⟩
    have e3 := make_ex nx nd sb
    have e13 := e1.trans e3
    have hA3 := e13 _ _ hA
    refine ⟨_, rfl, a, c.Dk, dx, [], rfl, hA3, T.dk, T.dk_works, by show 0 < 1000; decide, ?_⟩
    have fb : ∀ {b : Addr}, (upd (upd H1 d (.own x)) x (.ins c.Wk d [])) b = none → H b = none := fun h => fresh_back (e1.trans e2) h
    have na : ∀ {b : Addr}, H b = none → b ≠ a := fun h z => by rw [z, hA] at h; cases h
    refine q _ x [o, l, f, g] ((SB.of e13).trans (SB.upd (List.mem_singleton.mpr rfl))) upd_same ⟨d, g, o, l, f, [], [], [], ⟨?_, ?_, ?_, All2.nil, ?_, All2.nil, ?_, All2.nil⟩, rfl, ol, of, lf, ?_⟩ ?_ ?_
    · rw [upd_ne (na (fresh_back e1 nx))]; exact hx
    · rw [upd_ne (na ng)]; exact e3 _ _ hg
    · rw [upd_ne (na (fb no))]; exact ho
    · rw [upd_ne (na (fb nl))]; exact hl
    · rw [upd_ne (na (fb nf))]; exact hf
    · have hg2 := e2 _ _ hg
      intro z
      rcases List.mem_cons.mp z with z | z
      · rw [z, no] at hg2; cases hg2
      rcases List.mem_cons.mp z with z | z
      · rw [z, nl] at hg2; cases hg2
      · rw [List.mem_singleton.mp z, nf] at hg2; cases hg2
    · intro b hb nb
      rcases List.mem_cons.mp hb with z | z
      · exact absurd z nb
      rcases List.mem_cons.mp z with z | z
      · rw [z]; exact fb no
      rcases List.mem_cons.mp z with z | z
      · rw [z]; exact fb nl
      rcases List.mem_cons.mp z with z | z
      · rw [z]; exact fb nf
      · rw [List.mem_singleton.mp z]; exact ng
    · intro z
      rcases List.mem_cons.mp z with z | z
      · exact na (fb no) z.symm
      rcases List.mem_cons.mp z with z | z
      · exact na (fb nl) z.symm
      rcases List.mem_cons.mp z with z | z
      · exact na (fb nf) z.symm
      · exact na ng (List.mem_singleton.mp z).symm
end
end Uw
/-! W15: all ways; a leaf; the plan told. -/
namespace Uw
open PySem PySem.Spec PyProof.Rows L2 Evl
open Vbwbai (State Op Link Arrow size opAt numbers more plus best arrows opArrows linkArrows orderArrow at_ earliest endOf open_)
open Up (OkDs Good endAr mA TmA both waysP lexW RingFree PlanR planFold planOf better)

section
variable {P : Program} {w : World} {K : PySem.W.Frag} {mg : Str → Option Value} {base : Heap} {c : Ad}
theorem PairsAt.upd {H : Hp} {l a : Addr} {xs ys : List V} {ps : List (Nat × Nat)} (h : PairsAt H a ps) (hl : H l = some (.lst xs)) (n : a ≠ l) : PairsAt (L2.upd H l (.lst ys)) a ps := by
  obtain ⟨as, e, A⟩ := h
  exact ⟨as, by rw [upd_ne n]; exact e, A.mono fun b p _ r => by
    have r' : H b = some (.tup (pairV p)) := r
    show L2.upd H l _ b = _
    rw [upd_ne (ne_of r' hl (by intro z; cases z))]
    exact r'⟩
theorem s_appP {D : Ends} {σ : L2.St} {H : Hp} {ta te : TE} {l : Addr} {xs : List V} {P : V → Hp → Prop} (hl : H l = some (.lst xs)) (ha : Ev ta σ H (.ref l)) (h : EvP te σ H P) (hz : xs.length < 100000) (k : ∀ v H1, Ex H H1 → P v H1 → D.nx σ (upd H1 l (.lst (xs ++ [v])))) :
    tDrop (tBM K "list" rAppend ta (tCons te tNil)) D σ H := ha H (Ex.refl H) _ fun H1 e1 =>
  ⟨Or.inl ⟨rfl, xs, sq_of (e1 l _ hl)⟩, h H1 e1 _ fun v H2 e2 p => ⟨l, xs, v, rfl, rfl, e2 l _ (e1 l _ hl), sz_lt hz, k v H2 (e1.trans e2) p⟩⟩
theorem q_appP {D : Ends} {tz : TS} {σ : L2.St} {H : Hp} {ta te : TE} {l : Addr} {xs : List V} {P : V → Hp → Prop} (hl : H l = some (.lst xs)) (ha : Ev ta σ H (.ref l)) (h : EvP te σ H P) (hz : xs.length < 100000) (k : ∀ v H1, Ex H H1 → P v H1 → tz D σ (upd H1 l (.lst (xs ++ [v])))) :
    tSeq (tDrop (tBM K "list" rAppend ta (tCons te tNil))) tz D σ H := s_appP (D := { D with nx := tz D }) hl ha h hz k
theorem ep_lstU {σ : L2.St} {H : Hp} {te : TE} {xs : List V} (h : EvU te σ H xs) : EvP (tLst (tCons te tNil)) σ H (fun v H2 => ∃ p t, v = .ref p ∧ H p = none ∧ H2 p = some (.lst [.ref t]) ∧ H2 t = some (.tup xs)) := fun H0 e0 Q q =>
  h H0 e0 _ fun t H1 nt e1 ht => ⟨by show 1 ≤ sizeLine; decide, fun p np => q _ _ (e1.trans (Ex.new np)) ⟨p, t, rfl, fresh_back (e0.trans e1) np, upd_same, by rw [upd_ne (ne_of_none ht np)]; exact ht⟩⟩
/-- [(i, j)] -/
theorem ep_pair1 {σ : L2.St} {H : Hp} {tf ts : TE} {i j : Nat} (hf : Ev tf σ H (nv i)) (hs : Ev ts σ H (nv j)) : EvP (tLst (tCons (tTup (tCons tf (tCons ts tNil))) tNil)) σ H (fun v H2 => ∃ p t, v = .ref p ∧ H p = none ∧ H2 p = some (.lst [.ref t]) ∧ PairAt H2 t (i, j)) :=
  ep_lstU (eu_tup (ea_cons hf (ea_cons hs ea_nil)) (by show 2 ≤ 100000; decide))
/-- ps + [(i, j)] -/
theorem ep_snoc {σ : L2.St} {H : Hp} {tw tf ts : TE} {q : Addr} {i j : Nat} {ps : List (Nat × Nat)} (hw : Ev tw σ H (.ref q)) (hq : PairsAt H q ps) (hf : Ev tf σ H (nv i)) (hs : Ev ts σ H (nv j)) (hl : ps.length ≤ 1000) :
    EvP (tOp rCat tw (tLst (tCons (tTup (tCons tf (tCons ts tNil))) tNil))) σ H (fun v H2 => ∃ p, v = .ref p ∧ H p = none ∧ PairsAt H2 p (ps ++ [(i, j)])) := by
  refine ep_op (ep_val hw) (ep_pair1 hf hs) fun x y H1 H2 e1 e2 px ⟨p', t, ey, _, hp', ht⟩ Q k => ?_
  subst px
  subst ey
  have hq2 := hq.same (e1.trans e2)
  obtain ⟨as, ha, A⟩ := hq2
  refine ⟨q, p', rf as, [.ref t], rfl, rfl, ha, hp', few (by rw [List.length_map, A.1]; show _ + 1 ≤ _; omega), fun n hn => k _ _ (Ex.new hn) ⟨n, rfl, fresh_back (e1.trans e2) hn, as ++ [t], by rw [upd_same]; simp [rf], ?_⟩⟩
  refine (A.mono fun b p _ r => ?_).snoc ?_
  · exact Ex.new hn _ _ r
  · exact Ex.new hn _ _ ht
def WaysAt (H : Hp) (p : Addr) (F : List (List (Nat × Nat))) : Prop := ∃ as, H p = some (.lst (rf as)) ∧ All2 (PairsAt H) as F
theorem WaysAt.same {H H' : Hp} {p : Addr} {F : List (List (Nat × Nat))} (h : WaysAt H p F) (e : Ex H H') : WaysAt H' p F := by
  obtain ⟨as, h1, A⟩ := h
  exact ⟨as, e _ _ h1, A.mono fun a ps _ r => r.same e⟩
def waysF (ps : List (Nat × Nat)) (F : List (List (Nat × Nat))) : List (List (Nat × Nat)) := ps.foldl (fun F p => F.flatMap (both p)) F
theorem ways_len (ps : List (Nat × Nat)) : (waysP ps).length = 2 ^ ps.length := by rw [Up.ways_lex, Up.lexW_len]
theorem ways_each {ps : List (Nat × Nat)} {w : List (Nat × Nat)} (h : w ∈ waysP ps) : w.length = ps.length := by
  rw [Up.ways_lex] at h
  induction ps generalizing w with
  | nil =>
    rw [List.mem_singleton.mp h]
  | cons p r ih =>
    rcases List.mem_append.mp h with h | h
    · obtain ⟨v, hv, rfl⟩ := List.mem_map.mp h
      simp [ih hv]
    · obtain ⟨v, hv, rfl⟩ := List.mem_map.mp h
      simp [ih hv]
theorem pow_few {n : Nat} (h : n ≤ 8) : 2 ^ n ≤ 256 := Nat.le_trans (Nat.pow_le_pow_right (by decide) h) (by decide)
theorem both_len (p : Nat × Nat) : ∀ F : List (List (Nat × Nat)), (F.flatMap (both p)).length = 2 * F.length
  | [] => rfl
  | w :: F => by
    rw [List.flatMap_cons, List.length_append, both_len p F, List.length_cons]
    show 2 + _ = _
    omega
theorem grow {H H4 : Hp} {lp n : Addr} {bs : List Addr} {F : List (List (Nat × Nat))} {w : List (Nat × Nat)} (hA : All2 (PairsAt H) bs F) (hl : H lp = some (.lst (rf bs))) (nl : lp ∉ bs) (e : Ex H H4) (nn : H n = none) (hn : PairsAt H4 n w) :
    All2 (PairsAt (L2.upd H4 lp (.lst (rf bs ++ [.ref n])))) (bs ++ [n]) (F ++ [w]) ∧ lp ∉ bs ++ [n] ∧ (L2.upd H4 lp (.lst (rf bs ++ [.ref n]))) lp = some (.lst (rf (bs ++ [n]))) := by
  have hl4 := e _ _ hl
  have nlp : n ≠ lp := fun z => by rw [z, hl] at nn; cases nn
  refine ⟨(hA.mono fun a p ha r => (r.same e).upd hl4 fun z => nl (z ▸ ha)).snoc (hn.upd hl4 nlp), fun z => ?_, by rw [upd_same]; simp [rf]⟩
  rcases List.mem_append.mp z with z | z
  · exact nl z
  · exact nlp (List.mem_singleton.mp z).symm
/-- xs + ys -/
theorem ep_catPairs {σ : L2.St} {H : Hp} {tx ty : TE} {a b : Addr} {xs ys : List (Nat × Nat)} (hx : Ev tx σ H (.ref a)) (ha : PairsAt H a xs) (hy : Ev ty σ H (.ref b)) (hb : PairsAt H b ys) (hl : xs.length + ys.length ≤ 1000) : EvP (tOp rCat tx ty) σ H (fun v H1 => ∃ p, v = .ref p ∧ PairsAt H1 p (xs ++ ys)) := by
  refine ep_op (ep_val hx) (ep_val hy) fun x y H1 H2 e1 e2 px py Q k => ?_
  subst px
  subst py
  obtain ⟨as, h1, A1⟩ := ha.same (e1.trans e2)
  obtain ⟨bs, h2, A2⟩ := hb.same (e1.trans e2)
  refine ⟨a, b, rf as, rf bs, rfl, rfl, h1, h2, few (by rw [List.length_map, List.length_map, A1.1, A2.1]; omega), fun n hn => k _ _ (Ex.new hn) ⟨n, rfl, as ++ bs, by rw [upd_same]; simp [rf], ?_⟩⟩
  exact (A1.mono fun b p _ r => Ex.new hn _ _ r).app (A2.mono fun b p _ r => Ex.new hn _ _ r)
def spAllWays : Sp := fun vs H Q _ => ∃ (a : Addr) (ps : List (Nat × Nat)), vs = [.ref a] ∧ PairsAt H a ps ∧ ps.length ≤ 8 ∧ ∀ p H', Ex H H' → WaysAt H' p (waysP ps) → Q (.ref p) H'
abbrev s_all_ways : Stmt := topS 10
theorem sc_all_ways : FnScope ["pairs", "found", "first", "second", "longer", "way"] ["pairs"] (defScope s_all_ways) := ⟨rfl, rfl, rfl, by decide +kernel, rfl, by decide +kernel, by decide +kernel⟩
theorem ok_all_ways (T : Txt K mg c) (D : DefG K mg "all_ways" s_all_ways ["pairs"]) : Cal P w K mg base CX0 1 "all_ways" spAllWays := by
  refine cal0 D sc_all_ways (fun vs H Q E h => ?_) (fun f cdv A outer s H vs Q E hr h => ?_)
  · obtain ⟨a, ps, rfl, _⟩ := h
    rfl
  · obtain ⟨a, ps, rfl, hP, h8, q⟩ := h
    refine ⟨_, (pss_cons (ps_set (i := 1) sc_all_ways.nd rfl (.inl rfl) (pe_lst (pa_cons (pe_lst pa_nil) pa_nil))) (pss_cons (ps_for PassesOwn.never rfl (pi_list (pv 0)) (pg_t (K := K) rfl rfl (pgs_cons (pg_name (i := 2) sc_all_ways.nd rfl (.inl rfl)) (pgs_cons (pg_name (i := 3) sc_all_ways.nd rfl (.inl rfl)) pgs_nil))) (pss_cons (ps_set (i := 4) sc_all_ways.nd rfl (.inl rfl) (pe_lst pa_nil)) (pss_cons (ps_for PassesOwn.never rfl (pi_list (pv 1)) (pg_name (i := 5) sc_all_ways.nd rfl (.inl rfl)) (pss_cons (ps_expr (pe_bm PySem.F.plainAttrs_list PySem.F.slot_list_append PySem.F.type_list_append mt_append (pv 4) (pa_cons (pe_op op_cat (pv 5) (pe_lst (pa_cons (pe_tup (pa_cons (pv 2) (pa_cons (pv 3) pa_nil))) pa_nil))) pa_nil))) (pss_one (ps_expr (pe_bm PySem.F.plainAttrs_list PySem.F.slot_list_append PySem.F.type_list_append mt_append (pv 4) (pa_cons (pe_op op_cat (pv 5) (pe_lst (pa_cons (pe_tup (pa_cons (pv 3) (pa_cons (pv 2) pa_nil))) pa_nil))) pa_nil)))))) (pss_one (ps_set (i := 1) sc_all_ways.nd rfl (.inl rfl) (pv 4)))))) (pss_one (ps_ret (pv 1))))), ?_⟩
    obtain ⟨as, ha, hA⟩ := hP
    refine q_asgP (ep_lst1 (el_lst ea_nil (Nat.zero_le _))) fun v H1 e1 ⟨p0, q0, ev, np, nq, ne, hp, hq⟩ => ?_
    subst ev
    refine q_forL (a := a) (xs := rf as) (ev_var rfl) (.of (e1 _ _ ha)) (fun k σ H' => ∃ p v2 v3 v4 v5, σ = [some (.ref a), some (.ref p), v2, v3, v4, v5] ∧ Ex H H' ∧ WaysAt H' p (waysP (ps.take k)))
      (fun H' e' => ⟨p0, none, none, none, none, rfl, e1.trans e', [q0], e' _ _ hp, All2.nil.snoc ⟨[], e' _ _ hq, All2.nil⟩⟩) (fun i σ H' _ ⟨_, _, _, _, _, _, e', _⟩ => .of (e' _ _ ha)) ?_ ?_
    · rintro i x σ Hs hx ⟨p, v2, v3, v4, v5, rfl, es, ws, hpw, hW⟩
      obtain ⟨t, ht, rfl⟩ := rf_get' hx
      obtain ⟨pr, epr, hpr⟩ := hA.at' ht
      have hF : (waysP (ps.take i)).length ≤ 256 := by
        rw [ways_len]
        exact pow_few (by rw [List.length_take]; omega)
      refine g_pair (es _ _ hpr) ?_
      refine q_asgL (xs := []) (el_lst ea_nil (Nat.zero_le _)) fun lp H2 nlp e2 hlp => ?_
      refine q_forLn (a := p) (xs := rf ws) (ev_var rfl) (.of (e2 _ _ hpw)) (fun k σ H3 => ∃ v5 bs, σ = [some (.ref a), some (.ref p), some (nv pr.1), some (nv pr.2), some (.ref lp), v5] ∧ Ex Hs H3 ∧ H3 lp = some (.lst (rf bs)) ∧ lp ∉ bs ∧ All2 (PairsAt H3) bs (((waysP (ps.take i)).take k).flatMap (both pr)))
        (fun H3 e3 => ⟨v5, [], rfl, e2.trans e3, e3 _ _ hlp, by simp, All2.nil⟩) (fun k σ H3 _ ⟨_, _, _, e3, _⟩ => .of (e3 _ _ hpw)) ?_ ?_
      · rintro k x σ H3 hx ⟨v5, bs, rfl, e3, hl3, nbs, hB⟩
        obtain ⟨u, hu, rfl⟩ := rf_get' hx
        obtain ⟨w', ew, hw'⟩ := hW.at' hu
        have wl : w'.length ≤ 8 := by
          rw [ways_each (List.mem_of_getElem? ew), List.length_take]
          omega
        have hk : k < (waysP (ps.take i)).length := (List.getElem?_eq_some_iff.mp ew).1
        have bl : bs.length ≤ 512 := by
          rw [hB.1, both_len, List.length_take]
          omega
        refine q_appP hl3 (ev_var rfl) (ep_snoc (ev_var rfl) (hw'.same e3) (ev_var rfl) (ev_var rfl) (by omega)) (by rw [List.length_map]; omega) fun v H4 e4 ⟨n, ev, nn, hn⟩ => ?_
        subst ev
        obtain ⟨g1, g2, g3⟩ := grow hB hl3 nbs e4 nn hn
        have e5 : Ex Hs (L2.upd H4 lp (.lst (rf bs ++ [.ref n]))) := Ex.mut (e3.trans e4) nlp
        generalize L2.upd H4 lp (.lst (rf bs ++ [.ref n])) = H5 at g1 g3 e5 ⊢
        refine s_appP g3 (ev_var rfl) (ep_snoc (ev_var rfl) (hw'.same e5) (ev_var rfl) (ev_var rfl) (by omega)) (by simp [rf]; omega) fun v H6 e6 ⟨n', ev, nn', hn'⟩ => ?_
        subst ev
        obtain ⟨g1', g2', g3'⟩ := grow g1 g3 g2 e6 nn' hn'
        refine ⟨_, _, rfl, Ex.mut (e5.trans e6) nlp, g3', g2', ?_⟩
        rw [take_more ew, List.flatMap_append]
        have : [w'].flatMap (both pr) = [w' ++ [pr]] ++ [w' ++ [(pr.2, pr.1)]] := by simp [both]
        rw [this, ← List.append_assoc]
        exact g1'
      · rintro σ H3 ⟨v5, bs, rfl, e3, hl3, nbs, hB⟩
        refine s_asg (ev_var rfl) fun H4 e4 => ⟨lp, _, _, _, _, rfl, (es.trans e3).trans e4, bs, e4 _ _ hl3, ?_⟩
        have : waysP (ps.take (i + 1)) = (waysP (ps.take i)).flatMap (both pr) := by
          unfold waysP
          rw [take_more epr, List.foldl_append]
          rfl
        rw [this]
        rw [List.length_map, hW.1, List.take_length] at hB
        exact hB.mono fun a ps _ r => r.same e4
    · rintro σ H' ⟨p, v2, v3, v4, v5, rfl, es, hW⟩
      rw [List.length_map, hA.1, List.take_length] at hW
      exact s_ret (ev_var rfl) fun H2 e2 => q p H2 (es.trans e2) (hW.same e2)
def leafV (ws : List Nat) : List V := nv 0 :: nv ws.length :: nodes ws
def spLeaf : Sp := fun vs H Q _ => ∃ (a : Addr) (ws : List Nat), vs = [.ref a] ∧ H a = some (.lst (nodes ws)) ∧ ws.length ≤ 100 ∧ RL (leafV ws) H Q
abbrev s_leaf : Stmt := topS 13
theorem sc_leaf : FnScope ["walk"] ["walk"] (defScope s_leaf) := ⟨rfl, rfl, rfl, by decide +kernel, rfl, by decide +kernel, by decide +kernel⟩
theorem ok_leaf (T : Txt K mg c) (D : DefG K mg "leaf" s_leaf ["walk"]) : Cal P w K mg base CX0 1 "leaf" spLeaf := by
  refine cal0 D sc_leaf (fun vs H Q E h => ?_) (fun f cdv A outer s H vs Q E hr h => ?_)
  · obtain ⟨a, ws, rfl, _⟩ := h
    rfl
  · obtain ⟨a, ws, rfl, ha, hl, q⟩ := h
    refine ⟨_, (pss_one (ps_ret (pe_op op_cat (pe_lst (pa_cons pe_int (pa_cons (pe_callB (lenR (K := K) rfl) (by rfl) T.len (by decide +kernel) (pa_cons (pv 0) pa_nil)) pa_nil))) (pv 0)))), ?_⟩
    refine s_retP (ep_cat (xs := [nv 0, nv ws.length]) (ys := nodes ws) (ep_L (el_lst (ea_cons ev_c (ea_cons (ev_is (ev_lenL (ev_var rfl) ha) (by rw [List.length_map])) ea_nil)) (by show 2 ≤ 100000; decide))) (ep_val (ev_var rfl)) (fun x H1 _ p => newL_is p) (fun x H1 e1 p => val_is ha e1 p) (by rw [List.length_map]; exact few (by show 2 + _ ≤ _; omega))) fun v H1 e1 ⟨p, ev, np, hp⟩ => ?_
    subst ev
    exact q p H1 e1 np hp

/-! ### the plan told -/
def plF (e : Int) (b q : Addr) : List (Str × V) := [("end", .int e), ("begins", .ref b), ("orders", .ref q)]
def PlanAt (c : Ad) (H : Hp) (p : Addr) (e : Int) (t : List Int) (w : List (Nat × Nat)) : Prop := ∃ dx b q, H p = some (.ins c.Pl dx (plF e b q)) ∧ H b = some (.lst ((t.drop 1).map V.int)) ∧ PairsAt H q w
theorem PlanAt.same {H H' : Hp} {p : Addr} {e : Int} {t : List Int} {w : List (Nat × Nat)} (h : PlanAt c H p e t w) (x : Ex H H') : PlanAt c H' p e t w := by
  obtain ⟨dx, b, q, h1, h2, h3⟩ := h
  exact ⟨dx, b, q, x _ _ h1, x _ _ h2, h3.same x⟩
/-- what the variable holds -/
def Found (c : Ad) (s : State) (H : Hp) (v : V) : Option PlanR → Prop
  | none => v = .non
  | some (e, t, ds) => ∃ p w, v = .ref p ∧ ds = s.fixed ++ w ∧ OkDs s w ∧ w.length ≤ 8 ∧ RingFree (mA s ds) (size s + 1) ∧ t = TmA s ds ∧ e = endOf s t ∧ PlanAt c H p e t w
theorem Found.same {s : State} {H H' : Hp} {v : V} {z : Option PlanR} (h : Found c s H v z) (x : Ex H H') : Found c s H' v z := by
  cases z with
  | none => exact h
  | some z =>
    obtain ⟨e, t, ds⟩ := z
    obtain ⟨p, w, h1, h2, h3, h4, h5, h6, h7, h8⟩ := h
    exact ⟨p, w, h1, h2, h3, h4, h5, h6, h7, h8.same x⟩
noncomputable def hasR (m : Up.Wt) (N : Nat) : Bool := @decide (¬ RingFree m N) (Classical.propDecidable _)
theorem hasR_iff (m : Up.Wt) (N : Nat) : hasR m N = true ↔ ¬ RingFree m N := by
  unfold hasR
  exact @decide_eq_true_iff _ (Classical.propDecidable _)
theorem hasR_no {m : Up.Wt} {N : Nat} : hasR m N = false ↔ RingFree m N := by
  have := hasR_iff m N
  cases h : hasR m N with
  | true =>
    rw [h] at this
    exact ⟨fun z => (nomatch z), fun r => absurd r (this.mp rfl)⟩
  | false =>
    rw [h] at this
    exact ⟨fun _ => Classical.byContradiction fun r => (nomatch this.mpr r), fun _ => rfl⟩
theorem ev_has {σ : L2.St} {H : Hp} {ta : TE} {a dx w r : Addr} {rs : List Addr} {N : Nat} {m : Up.Wt} (ha : Ev ta σ H (.ref a)) (h : ArrAt c H a dx w r rs N m) (h9 : N ≤ 9) : Ev (tMeth c.Arr "has_ring" (spHasRing c) [] E0 ta tNil) σ H (.bl (hasR m N)) :=
  ev_meth ha h.me (arF_no _ _ _ (by decide +kernel) (by decide +kernel) (by decide +kernel)) ea_nil fun H1 e1 Q q E => ⟨a, dx, w, r, rs, N, m, rfl, h.same e1, h9, fun b hb => by
    have : b = hasR m N := by rw [Bool.eq_iff_iff, hb, hasR_iff]
    subst this
    exact q⟩
theorem ev_endOf {σ : L2.St} {H : Hp} {ta tb : TE} {a : Addr} {s : State} {B : List Int} (ha : Ev ta σ H (.ref a)) (hw : WorksAt c H a s) (h8 : size s ≤ 8) (hb : EvP tb σ H (fun v H1 => ∃ b, v = .ref b ∧ SqL K H1 b (B.map V.int))) (hB : B.length = size s) : Ev (tMeth c.Wk "end_of" (spEndOf (K := K) c) [] E0 ta (tCons tb tNil)) σ H (.int (endOf s (0 :: B))) := fun H0 e0 Q q => by
  unfold tMeth
  obtain ⟨dw, g, o, l, f', os, ls, fs, hw⟩ := hw
  refine ha H0 e0 _ fun H1 e1 => ⟨a, dw, _, rfl, (hw.same (e0.trans e1)).me, wkF_no _ _ _ _ (by decide +kernel) (by decide +kernel) (by decide +kernel) (by decide +kernel), ?_⟩
  refine hb H1 (e0.trans e1) _ fun v H2 e2 ⟨b, ev, hS⟩ => ?_
  subst ev
  exact ⟨a, b, s, B, rfl, ⟨dw, g, o, l, f', os, ls, fs, hw.same ((e0.trans e1).trans e2)⟩, h8, hS, hB, fun H3 e3 => q H3 ((e1.trans e2).trans e3)⟩
theorem ep_mkPlan {σ : L2.St} {H : Hp} {t1 t2 t3 : TE} {e : Int} {b q : Addr} {t : List Int} {w : List (Nat × Nat)} (h1 : Ev t1 σ H (.int e)) (h2 : Ev t2 σ H (.ref b)) (hb : H b = some (.lst ((t.drop 1).map V.int))) (h3 : Ev t3 σ H (.ref q)) (hq : PairsAt H q w) :
    EvP (tMake c.Pl (spPlI c) [] E0 (tCons t1 (tCons t2 (tCons t3 tNil)))) σ H (fun v H2 => ∃ p, v = .ref p ∧ PlanAt c H2 p e t w) := fun H0 e0 Q k => by
  have hE : EvA (tCons t1 (tCons t2 (tCons t3 tNil))) σ H [.int e, .ref b, .ref q] := ea_cons h1 (ea_cons h2 (ea_cons h3 ea_nil))
  unfold tMake
  refine hE H0 e0 _ fun H1 e1 x dx nx ndx nxd => ⟨x, dx, .int e, .ref b, .ref q, rfl, upd_same, fun H' sb hx => ⟨rfl, ?_⟩⟩
  have ex := make_ex nx ndx sb
  exact k _ H' (e1.trans ex) ⟨x, rfl, dx, b, q, hx, ex _ _ (e1 _ _ (e0 _ _ hb)), hq.same ((e0.trans e1).trans ex)⟩
def spPlan (c : Ad) : Sp := fun vs H Q _ => ∃ (a : Addr) (s : State), vs = [.ref a] ∧ WorksAt c H a s ∧ Good s ∧ (open_ s).length ≤ 8 ∧ ∀ v H', Ex H H' → Found c s H' v (Vbwbai.bestPlan s) → Q v H'
abbrev s_plan_told : Stmt := topS 12
theorem sc_plan_told : FnScope ["works", "found", "way", "arrows", "begins", "end"] ["works"] (defScope s_plan_told) := ⟨rfl, rfl, rfl, by decide +kernel, rfl, by decide +kernel, by decide +kernel⟩
theorem ok_plan_told (T : Txt K mg c) (D : DefG K mg "plan_told" s_plan_told ["works"]) (C_all_ways : Cal P w K mg base CX0 1 "all_ways" spAllWays) (M_Wk_open_pairs : Met P w K mg base CX0 4 c.Wk "open_pairs" (spOpenPairs c)) (K_Arr : Mak P w K mg base CX0 3 "Arrows" c.Arr (spArrI c)) (M_Arr_has_ring : Met P w K mg base CX0 2 c.Arr "has_ring" (spHasRing c))
    (M_Arr_earliest : Met P w K mg base CX0 2 c.Arr "earliest" (spEarliest c)) (M_Wk_end_of : Met P w K mg base CX0 1 c.Wk "end_of" (spEndOf (K := K) c)) (K_Pl : Mak P w K mg base CX0 1 "Plan" c.Pl (spPlI c)) : Cal P w K mg base CX0 5 "plan_told" (spPlan c) := by
  refine cal0 D sc_plan_told (fun vs H Q E h => ?_) (fun f cdv A outer s H vs Q E hr h => ?_)
  · obtain ⟨a, s, rfl, _⟩ := h
    rfl
  · obtain ⟨a, s, rfl, hw, gd, ho, q⟩ := h
    refine ⟨_, (pss_cons (ps_set (i := 1) sc_plan_told.nd rfl (.inl rfl) pe_non) (pss_cons (ps_for PassesOwn.never rfl (pi_list (pe_c C_all_ways hr (by decide) pass0 (by rfl) (pa_cons (pe_mt0 M_Wk_open_pairs hr (by decide) pass0 (pv 0)) pa_nil))) (pg_name (i := 2) sc_plan_told.nd rfl (.inl rfl)) (pss_cons (ps_set (i := 3) sc_plan_told.nd rfl (.inl rfl) (pe_mk K_Arr hr (by decide) pass0 (by rfl) (pa_cons (pv 0) (pa_cons (pe_op op_cat (pe_f (K := K) rfl (pv 0) rfl) (pv 2)) pa_nil)))) (pss_one (ps_if (pt_not (pt_val (pe_mt0 M_Arr_has_ring hr (by decide) pass0 (pv 3)))) (pss_cons (ps_set (i := 4) sc_plan_told.nd rfl (.inl rfl) (pe_mt0 M_Arr_earliest hr (by decide) pass0 (pv 3))) (pss_cons (ps_set (i := 5) sc_plan_told.nd rfl (.inl rfl) (pe_mt M_Wk_end_of hr (by decide) pass0 (pv 0) (pa_cons (pv 4) pa_nil))) (pss_one (ps_if (PW.pt (pw_or (pt_cmp (pc_isN (pv 1))) (pw_or1 (pt_cmpR op_lt (pv 5) (pe_f (K := K) rfl (pv 1) rfl) (nomark _))))) (pss_one (ps_set (i := 1) sc_plan_told.nd rfl (.inl rfl) (pe_mk K_Pl hr (by decide) pass0 (by rfl) (pa_cons (pv 5) (pa_cons (pv 4) (pa_cons (pv 2) pa_nil)))))) pss_nil)))) pss_nil)))) (pss_one (ps_ret (pv 1))))), ?_⟩
    have g8 : size s ≤ 8 := gd.ops
    obtain ⟨dw, g, oo, l, f', os, ls, fs, hW⟩ := hw
    refine q_asg (v := .non) ev_c fun H1 e1 => ?_
    have src : EvP (tCall spAllWays [] E0 (tCons (tMeth c.Wk "open_pairs" (spOpenPairs c) [] E0 (tVar 0) tNil) tNil)) ((L2.start ["works", "found", "way", "arrows", "begins", "end"] [V.ref a]).set 1 (some V.non)) H1 (fun v H2 => ∃ p, v = .ref p ∧ WaysAt H2 p (waysP (open_ s))) := fun H2 e2 Q k => by
      unfold tCall
      refine ⟨_, rfl, a, dw, _, rfl, (hW.same (e1.trans e2)).me, wkF_no _ _ _ _ (by decide +kernel) (by decide +kernel) (by decide +kernel) (by decide +kernel), a, s, rfl, ⟨dw, g, oo, l, f', os, ls, fs, hW.same (e1.trans e2)⟩, g8, fun p H3 e3 _ hp => ?_⟩
      exact ⟨p, open_ s, rfl, hp, ho, fun p' H4 e4 hW' => k _ H4 (e3.trans e4) ⟨p', rfl, hW'⟩⟩
    refine src H1 (Ex.refl _) _ fun v H2 e2 ⟨p, ev, ws, hp, hWs⟩ => ?_
    subst ev
    refine ⟨p, rfl, ⟨_, .of hp⟩, ?_⟩
    have e12 := e1.trans e2
    refine for_list (xs := rf ws) (fun k σ H' => ∃ vf v2 v3 v4 v5, σ = [some (.ref a), some vf, v2, v3, v4, v5] ∧ Ex H2 H' ∧ Found c s H' vf (planFold s s.fixed ((waysP (open_ s)).take k) none)) ⟨.non, none, none, none, none, rfl, Ex.refl _, rfl⟩
      (fun i σ H' _ ⟨_, _, _, _, _, _, e', _⟩ => .of (e' _ _ hp)) ?_ ?_
    · rintro i x σ H' hx ⟨vf, v2, v3, v4, v5, rfl, e', hf⟩
      obtain ⟨t, ht, rfl⟩ := rf_get' hx
      obtain ⟨wy, ew, hwy⟩ := hWs.at' ht
      have wm := List.mem_of_getElem? ew
      have wl : wy.length ≤ 8 := by rw [ways_each wm]; exact ho
      have wok : OkDs s wy := by
        rw [Up.ways_lex] at wm
        exact (Up.lexW_ok (Up.open_ok s) wy wm).1
      have dok : OkDs s (s.fixed ++ wy) := OkDs.app gd.fixed wok
      have eH := e12.trans e'
      have hW' := hW.same eH
      have fl := Up.fixed_few gd
      have hwy' := hwy.same e'
      show tSeq _ _ _ _ _
      refine q_asgP (ep_arrows (ev_var rfl) ⟨dw, g, oo, l, f', os, ls, fs, hW'⟩ gd (ep_catPairs (xs := s.fixed) (ys := wy) (ev_fld (ev_var rfl) hW'.me T.wk T.wk_fixed (wkF_fixed ..)) ⟨fs, hW'.fixed, hW'.fxA⟩ (ev_var rfl) hwy' (by omega)) dok) fun v H3 e3 ⟨ar, dx, r, rs, ev, nar, hAB⟩ => ?_
      subst ev
      have stepE : planFold s s.fixed ((waysP (open_ s)).take (i + 1)) none = better (planFold s s.fixed ((waysP (open_ s)).take i) none) (planOf s s.fixed wy) := by
        unfold planFold
        rw [take_more ew, List.foldl_append]
        rfl
      rw [stepE]
      have hf3 := hf.same e3
      generalize planFold s s.fixed ((waysP (open_ s)).take i) none = z at hf3 ⊢
      refine s_when (b := !hasR (mA s (s.fixed ++ wy)) (size s + 1)) (et_not (et_test (ev_has (ev_var rfl) hAB.arr (by omega)))) (fun hb H4 e4 => ?_) (fun hb H4 e4 => ?_)
      · have hrf : RingFree (mA s (s.fixed ++ wy)) (size s + 1) := hasR_no.mp (by simpa using hb)
        have hp' : planOf s s.fixed wy = some (endOf s (TmA s (s.fixed ++ wy)), TmA s (s.fixed ++ wy), s.fixed ++ wy) := by
          unfold planOf
          rw [Up.earl_some gd dok hrf]
          rfl
        rw [hp']
        have et := times_cons gd dok hrf
        have hB := tail_len (s := s) (ds := s.fixed ++ wy)
        refine q_asgL (el_earliest (ev_var rfl) (hAB.arr.same e4) gd dok hrf) fun b H5 nb e5 hb => ?_
        have e25 := (e3.trans e4).trans e5
        refine q_asg (v := .int (endOf s (TmA s (s.fixed ++ wy)))) (ev_is (ev_endOf (ev_var rfl) ⟨dw, g, oo, l, f', os, ls, fs, hW'.same e25⟩ g8 (fun H6 e6 Q k => ⟨_, rfl, k _ H6 (Ex.refl _) ⟨b, rfl, .of (e6 _ _ hb)⟩⟩) hB) (by rw [← et])) fun H6 e6 => ?_
        have e26 := e25.trans e6
        have hf6 := hf3.same ((e4.trans e5).trans e6)
        have mk : ∀ (v0 : V) H7, Ex H6 H7 → EvP (tMake c.Pl (spPlI c) [] E0 (tCons (tVar 5) (tCons (tVar 4) (tCons (tVar 2) tNil)))) [some (.ref a), some v0, some (.ref t), some (.ref ar), some (.ref b), some (.int (endOf s (TmA s (s.fixed ++ wy))))] H7
            (fun v H8 => Found c s H8 v (some (endOf s (TmA s (s.fixed ++ wy)), TmA s (s.fixed ++ wy), s.fixed ++ wy))) := fun v0 H7 e7 =>
          (ep_mkPlan (e := endOf s (TmA s (s.fixed ++ wy))) (t := TmA s (s.fixed ++ wy)) (w := wy) (ev_var rfl) (ev_var rfl) (e7 _ _ (e6 _ _ hb)) (ev_var rfl) (hwy'.same (e26.trans e7))).imp fun v H8 _ ⟨p, ev, hp⟩ => ⟨p, wy, ev, rfl, wok, wl, hrf, rfl, rfl, hp⟩
        cases z with
        | none =>
          obtain rfl : vf = .non := hf6
          refine s_when (b := true) (et_or (a := true) (b := true) (et_isN (ev_var (v := .non) rfl)) fun z => nomatch z) (fun _ H7 e7 => ?_) (fun z => nomatch z)
          exact s_asgP (mk .non H7 e7) fun v H8 e8 hv => ⟨v, _, _, _, _, rfl, (e'.trans e26).trans (e7.trans e8), hv⟩
        | some z =>
          obtain ⟨e0, t0, d0⟩ := z
          obtain ⟨p0, w0, rfl, hd0, ok0, wl0, rf0, ht0, he0, dx0, b0, q0, hp0, hb0, hq0⟩ := hf6
          refine s_when (b := decide (endOf s (TmA s (s.fixed ++ wy)) < e0)) (et_or (a := false) (et_isN (ev_var (v := .ref p0) rfl)) fun _ => et_test (ev_op (ev_var rfl) (ev_fld (ev_var rfl) hp0 T.pl T.pl_end lk_here) rv_I0)) (fun hb H7 e7 => ?_) (fun hb H7 e7 => ?_)
          · have eb : better (some (e0, t0, d0)) (some (endOf s (TmA s (s.fixed ++ wy)), TmA s (s.fixed ++ wy), s.fixed ++ wy)) = some (endOf s (TmA s (s.fixed ++ wy)), TmA s (s.fixed ++ wy), s.fixed ++ wy) := if_pos (of_decide_eq_true hb)
            rw [eb]
            exact s_asgP (mk (.ref p0) H7 e7) fun v H8 e8 hv => ⟨v, _, _, _, _, rfl, (e'.trans e26).trans (e7.trans e8), hv⟩
          · have eb : better (some (e0, t0, d0)) (some (endOf s (TmA s (s.fixed ++ wy)), TmA s (s.fixed ++ wy), s.fixed ++ wy)) = some (e0, t0, d0) := if_neg (of_decide_eq_false hb)
            rw [eb]
            exact ⟨.ref p0, _, _, _, _, rfl, (e'.trans e26).trans e7, p0, w0, rfl, hd0, ok0, wl0, rf0, ht0, he0, dx0, b0, q0, e7 _ _ hp0, e7 _ _ hb0, hq0.same e7⟩
      · have hno : ¬ RingFree (mA s (s.fixed ++ wy)) (size s + 1) := (hasR_iff _ _).mp (by simpa using hb)
        have hp' : planOf s s.fixed wy = none := by
          unfold planOf
          rw [Up.earl_none gd dok hno]
          rfl
        rw [hp', Up.better_none]
        exact ⟨vf, _, _, _, _, rfl, (e'.trans e3).trans e4, hf3.same e4⟩
    · rintro σ H' ⟨vf, v2, v3, v4, v5, rfl, e', hf⟩
      rw [List.length_map, hWs.1, List.take_length, ← Up.bestPlan_eq gd] at hf
      exact s_ret (ev_var rfl) fun H3 e3 => q vf H3 ((e12.trans e').trans e3) (hf.same e3)
end
end Uw
/-! W16: the tree told. -/
namespace Uw
open PySem PySem.Spec PyProof.Rows L2 Evl
open Vbwbai (State Op Link Arrow size opAt numbers more plus best arrows at_ earliest endOf open_ treeOut treeFrom)
open Up (OkDs Good mA TmA RingFree ringP fwF)

theorem fw_len (m : Up.Wt) (N g : Nat) : ∀ k a, (fwF m N g k a).length ≤ k
  | 0, a => Nat.le_refl _
  | k + 1, a => by
    unfold fwF
    split
    · exact Nat.zero_le _
    · rw [List.length_cons]
      have := fw_len m N g k
      exact Nat.succ_le_succ (this _)
theorem ringP_len {m : Up.Wt} {N : Nat} : ∀ {k : Nat} {l : List Nat}, ringP m N k = some l → l.length ≤ k + 1
  | 0, l, h => by cases h
  | k + 1, l, h => by
    rw [Up.ringP_succ] at h
    cases e : ringP m N k with
    | some r =>
      rw [e] at h
      cases h
      have := ringP_len e
      omega
    | none =>
      rw [e] at h
      obtain ⟨y, _, rfl⟩ := Option.map_eq_some_iff.mp h
      rw [List.length_cons]
      have := fw_len m N y.1 (k + 1) y.1
      omega
theorem chain_len {s : State} {ds : List (Nat × Nat)} (g : Good s) (hd : OkDs s ds) (rf : RingFree (mA s ds) (size s + 1)) (hn : 0 < size s) : (Vbwbai.chain s ds (TmA s ds)).length ≤ size s + 2 := by
  have hl0 := Up.lastOp_some (t := TmA s ds) hn (Up.ends_nonneg g hd)
  obtain ⟨n, hn1, hn2⟩ := Up.chain_is g hd rf hl0.2
  obtain ⟨k, hk1, hk2, hk3⟩ := least_nat (p := fun n => Up.colF (mA s ds) (size s + 1) (Vbwbai.lastOp s (TmA s ds)) n 0 = some (at_ (TmA s ds) (Vbwbai.lastOp s (TmA s ds)))) n hn2
  rw [Up.chain_of g hd hl0.1 hl0.2 (by omega) hk2 hk3, List.length_cons]
  have := fw_len (mA s ds) (size s + 1) (Vbwbai.lastOp s (TmA s ds)) k 0
  omega
/-- the tree's numbers -/
def treeV (t : Vbwbai.Tree) : List V := (treeOut t).map V.int
theorem leafV_eq (ws : List Nat) : leafV ws = treeV (.leaf ws) := by
  unfold treeV treeOut leafV nodes
  rw [List.map_cons, List.map_cons, List.map_map]
  rfl
theorem nodeV_eq (i j : Nat) (l r : Vbwbai.Tree) : ([nv 1, nv i, nv j] ++ treeV l) ++ treeV r = treeV (.node i j l r) := by
  unfold treeV
  rw [show treeOut (.node i j l r) = 1 :: Vbwbai.int i :: Vbwbai.int j :: (treeOut l ++ treeOut r) from rfl]
  simp [Vbwbai.int, nv]
theorem treeV_node_len (i j : Nat) (l r : Vbwbai.Tree) : (treeOut (.node i j l r)).length = 3 + (treeOut l).length + (treeOut r).length := by
  rw [show treeOut (.node i j l r) = 1 :: Vbwbai.int i :: Vbwbai.int j :: (treeOut l ++ treeOut r) from rfl]
  simp only [List.length_cons, List.length_append]
  omega
/-- which way the tree goes -/
def stops (s : State) (e : Option Int) (t : List Int) : Bool := match e with
  | none => false
  | some x => decide (x ≤ endOf s t)
section
variable {s : State} {ds : List (Nat × Nat)} (g : Good s) (hd : OkDs s ds) (e : Option Int) (ps : List (Nat × Nat))
include g hd
theorem tree_ring (rf : ¬ RingFree (mA s ds) (size s + 1)) {l : List Nat} (h : ringP (mA s ds) (size s + 1) (size s + 1) = some l) : treeFrom s e ps ds = .leaf l := by
  unfold treeFrom
  rw [Up.earl_none g hd rf, Up.ring_eq, h]
  rfl
theorem tree_stop (rf : RingFree (mA s ds) (size s + 1)) (h : (ps.isEmpty || stops s e (TmA s ds)) = true) : treeFrom s e ps ds = .leaf (Vbwbai.chain s ds (TmA s ds)) := by
  unfold treeFrom
  rw [Up.earl_some g hd rf]
  show (if stops s e (TmA s ds) = true then _ else _) = _
  by_cases c : stops s e (TmA s ds) = true
  · rw [if_pos c]
  · rw [if_neg c]
    cases ps with
    | nil => rfl
    | cons p r =>
      rw [show (p :: r).isEmpty = false from rfl, Bool.false_or] at h
      exact absurd h c
theorem tree_go (rf : RingFree (mA s ds) (size s + 1)) {p : Nat × Nat} {r : List (Nat × Nat)} (h : stops s e (TmA s ds) = false) : treeFrom s e (p :: r) ds = .node p.1 p.2 (treeFrom s e r (ds ++ [p])) (treeFrom s e r (ds ++ [(p.2, p.1)])) := by
  rw [show treeFrom s e (p :: r) ds = _ from by unfold treeFrom; rfl]
  rw [Up.earl_some g hd rf]
  show (if stops s e (TmA s ds) = true then _ else _) = _
  rw [if_neg (by rw [h]; exact Bool.false_ne_true)]
end
theorem tree_few {s : State} (g : Good s) (hn : 0 < size s) (e : Option Int) : ∀ (ps ds : List (Nat × Nat)), OkDs s ps → OkDs s ds → (treeOut (treeFrom s e ps ds)).length + 3 ≤ 20 * 2 ^ ps.length
  | ps, ds, hp, hd => by
    have g8 : size s ≤ 8 := g.ops
    have p1 : 1 ≤ 2 ^ ps.length := Nat.one_le_two_pow
    have lf : ∀ l : List Nat, l.length ≤ 15 → (treeOut (.leaf l)).length + 3 ≤ 20 * 2 ^ ps.length := fun l hl => by
      rw [show treeOut (.leaf l) = 0 :: Vbwbai.int l.length :: l.map Vbwbai.int from rfl, List.length_cons, List.length_cons, List.length_map]
      omega
    by_cases rf : RingFree (mA s ds) (size s + 1)
    · cases ps with
      | nil =>
        rw [tree_stop g hd e [] rf rfl]
        have := chain_len g hd rf hn
        exact lf _ (by omega)
      | cons p r =>
        cases h : stops s e (TmA s ds) with
        | true =>
          rw [tree_stop g hd e (p :: r) rf (by rw [h]; rfl)]
          have := chain_len g hd rf hn
          exact lf _ (by omega)
        | false =>
          rw [tree_go g hd e rf h, treeV_node_len]
          have hpm := hp p (List.mem_cons_self ..)
          have hr : OkDs s r := fun q hq => hp q (List.mem_cons_of_mem _ hq)
          have h1 := tree_few g hn e r (ds ++ [p]) hr (hd.app (OkDs.one (i := p.1) (j := p.2) hpm.1 hpm.2))
          have h2 := tree_few g hn e r (ds ++ [(p.2, p.1)]) hr (hd.app (OkDs.one hpm.2 hpm.1))
          rw [List.length_cons, Nat.pow_succ]
          omega
    · cases h : ringP (mA s ds) (size s + 1) (size s + 1) with
      | none => exact absurd (Up.ringP_free.mp h) rf
      | some l =>
        rw [tree_ring g hd e ps rf h]
        have := ringP_len h
        exact lf _ (by omega)
section
variable {P : Program} {w : World} {K : PySem.W.Frag} {mg : Str → Option Value} {base : Heap} {c : Ad}
theorem el_ring {σ : L2.St} {H : Hp} {ta : TE} {a dx w r : Addr} {rs : List Addr} {N : Nat} {m : Up.Wt} {l : List Nat} (ha : Ev ta σ H (.ref a)) (h : ArrAt c H a dx w r rs N m) (h9 : N ≤ 9) (hl : ringP m N N = some l) : EvL (tMeth c.Arr "ring" (spRing c) [] E0 ta tNil) σ H (nodes l) :=
  el_meth ha h.me (arF_no _ _ _ (by decide +kernel) (by decide +kernel) (by decide +kernel)) ea_nil fun H1 e1 Q q E => ⟨a, dx, w, r, rs, N, m, rfl, h.same e1, h9, fun z => (by rw [hl] at z; cases z), fun l' hl' p H2 e2 n hp => by
    rw [hl] at hl'
    cases hl'
    exact q p H2 n e2 hp⟩
theorem ev_noRing {σ : L2.St} {H : Hp} {ta : TE} {a dx w r : Addr} {rs : List Addr} {N : Nat} {m : Up.Wt} (ha : Ev ta σ H (.ref a)) (h : ArrAt c H a dx w r rs N m) (h9 : N ≤ 9) (hl : ringP m N N = none) : Ev (tMeth c.Arr "ring" (spRing c) [] E0 ta tNil) σ H .non :=
  ev_meth ha h.me (arF_no _ _ _ (by decide +kernel) (by decide +kernel) (by decide +kernel)) ea_nil fun H1 e1 Q q E => ⟨a, dx, w, r, rs, N, m, rfl, h.same e1, h9, fun _ => q, fun l' hl' => by rw [hl] at hl'; cases hl'⟩
theorem el_chain {σ : L2.St} {H : Hp} {ta : TE} {a dx w r : Addr} {rs : List Addr} {s : State} {ds : List (Nat × Nat)} (ha : Ev ta σ H (.ref a)) (h : ArrAt c H a dx w r rs (size s + 1) (mA s ds)) (g : Good s) (hd : OkDs s ds) (rf : RingFree (mA s ds) (size s + 1)) (hn : 0 < size s) (hw : WorksAt c H w s) :
    EvL (tMeth c.Arr "chain" (spChain c) [] E0 ta tNil) σ H (nodes (Vbwbai.chain s ds (TmA s ds))) :=
  el_meth ha h.me (arF_no _ _ _ (by decide +kernel) (by decide +kernel) (by decide +kernel)) ea_nil fun H1 e1 Q q E => ⟨a, dx, w, r, rs, s, ds, rfl, h.same e1, g, hd, rf, hn, hw.same e1, fun p H2 e2 n hp => q p H2 n e2 hp⟩
theorem el_leaf {σ : L2.St} {H : Hp} {te : TE} {ws : List Nat} (h : EvL te σ H (nodes ws)) (hl : ws.length ≤ 100) : EvL (tCall spLeaf [] E0 (tCons te tNil)) σ H (leafV ws) := fun H1 e1 Q q =>
  h H1 e1 _ fun p H2 np e2 hp => ⟨p, ws, rfl, hp, hl, fun p' H3 e3 np' hp' => q p' H3 (fresh_back e2 np') (e2.trans e3) hp'⟩
/-- ps[1:] -/
theorem ep_tail {σ : L2.St} {H : Hp} {te : TE} {a : Addr} {ps : List (Nat × Nat)} (h : Ev te σ H (.ref a)) (hp : PairsAt H a ps) : EvP (tSl (rSlL K) te (tPart (tC (.int 1))) tNoPart) σ H (fun v H1 => ∃ p, v = .ref p ∧ PairsAt H1 p (ps.drop 1)) := fun H0 e0 Q q => by
  obtain ⟨as, ha, A⟩ := hp
  have hE : EvL (tSl (rSlL K) te (tPart (tC (.int 1))) tNoPart) σ H (cutV (rf as) (some ((1 : Nat) : Int)) none) := el_sl h (eo_some ev_c) eo_none (.of ha)
  rw [cut_drop] at hE
  refine hE H0 e0 _ fun p H1 np e1 hp => q _ H1 e1 ⟨p, rfl, as.drop 1, by rw [hp]; show some (HO.lst ((as.map V.ref).drop 1)) = some (HO.lst ((as.drop 1).map V.ref)); rw [List.map_drop], (A.mono fun b x _ r => ?_).drop 1⟩
  exact e1 _ _ (e0 _ _ (show H b = _ from r))
def spTree (c : Ad) (n : Nat) : Sp := fun vs H Q _ => ∃ (a o p : Addr) (s : State) (e : Option Int) (ds ps : List (Nat × Nat)), vs = [.ref a, ov e, .ref o, .ref p] ∧ WorksAt c H a s ∧ Good s ∧ 0 < size s ∧ PairsAt H o ds ∧ OkDs s ds ∧ PairsAt H p ps ∧ OkDs s ps ∧ ds.length + ps.length ≤ 200 ∧ ps.length < n ∧ ps.length ≤ 8 ∧
  RL (treeV (treeFrom s e ps ds)) H Q
theorem el_tree {σ : L2.St} {H : Hp} {n : Nat} {t0 t1 t2 t3 : TE} {a : Addr} {s : State} {e : Option Int} {ds ps : List (Nat × Nat)} (h0 : Ev t0 σ H (.ref a)) (h1 : Ev t1 σ H (ov e)) (h2 : EvP t2 σ H (fun v H1 => ∃ p, v = .ref p ∧ PairsAt H1 p ds)) (h3 : EvP t3 σ H (fun v H1 => ∃ p, v = .ref p ∧ PairsAt H1 p ps))
    (hw : WorksAt c H a s) (gd : Good s) (hn : 0 < size s) (hd : OkDs s ds) (hp : OkDs s ps) (hl : ds.length + ps.length ≤ 200) (hm : ps.length < n) (h8 : ps.length ≤ 8) : EvL (tCall (spTree c n) [] E0 (tCons t0 (tCons t1 (tCons t2 (tCons t3 tNil))))) σ H (treeV (treeFrom s e ps ds)) := fun H0 e0 Q q => by
  unfold tCall
  refine h0 H0 e0 _ fun H1 e1 => h1 H1 (e0.trans e1) _ fun H2 e2 => h2 H2 ((e0.trans e1).trans e2) _ fun v H3 e3 ⟨o, ev, ho⟩ => h3 H3 (((e0.trans e1).trans e2).trans e3) _ fun v' H4 e4 ⟨p, ev', hp'⟩ => ?_
  subst ev
  subst ev'
  have e04 := ((e1.trans e2).trans e3).trans e4
  exact ⟨a, o, p, s, e, ds, ps, rfl, hw.same (e0.trans e04), gd, hn, ho.same e4, hd, hp', hp, hl, hm, h8, fun p H5 e5 np hp => q p H5 (fresh_back e04 np) (e04.trans e5) hp⟩
abbrev s_tree_told : Stmt := topS 14
theorem sc_tree_told : FnScope ["works", "least", "orders", "pairs", "arrows", "left", "right", "first", "second"] ["works", "least", "orders", "pairs"] (defScope s_tree_told) := ⟨rfl, rfl, rfl, by decide +kernel, rfl, by decide +kernel, by decide +kernel⟩
theorem ok_tree0 (D : DefG K mg "tree_told" s_tree_told ["works", "least", "orders", "pairs"]) : Cal P w K mg base CX0 4 "tree_told" (spTree c 0) := by
  refine cal0 D sc_tree_told (fun vs H Q E h => ?_) (fun f cdv A outer s H vs Q E hr h => ?_)
  · obtain ⟨a, o, p, s, e, ds, ps, rfl, _⟩ := h
    rfl
  · obtain ⟨a, o, p, s, e, ds, ps, rfl, _, _, _, _, _, _, _, _, h, _⟩ := h
    exact absurd h (Nat.not_lt_zero _)
theorem ok_tree1 (T : Txt K mg c) (D : DefG K mg "tree_told" s_tree_told ["works", "least", "orders", "pairs"]) (K_Arr : Mak P w K mg base CX0 3 "Arrows" c.Arr (spArrI c)) (M_Arr_has_ring : Met P w K mg base CX0 2 c.Arr "has_ring" (spHasRing c)) (M_Arr_ring : Met P w K mg base CX0 3 c.Arr "ring" (spRing c)) (M_Arr_chain : Met P w K mg base CX0 3 c.Arr "chain" (spChain c))
    (M_Arr_earliest : Met P w K mg base CX0 2 c.Arr "earliest" (spEarliest c)) (M_Wk_end_of : Met P w K mg base CX0 1 c.Wk "end_of" (spEndOf (K := K) c)) (C_leaf : Cal P w K mg base CX0 1 "leaf" spLeaf) (n : Nat) (C_tree_told : Cal P w K mg base CX0 (4 + n) "tree_told" (spTree c n)) : Cal P w K mg base CX0 (4 + n + 1) "tree_told" (spTree c (n + 1)) := by
  refine cal0 D sc_tree_told (fun vs H Q E h => ?_) (fun f cdv A outer s H vs Q E hr h => ?_)
  · obtain ⟨a, o, p, s, e, ds, ps, rfl, _⟩ := h
    rfl
  · obtain ⟨a, o, p, s, e, ds, ps, rfl, hw, gd, hn, ho, hd, hp, hpo, hl, hm, h8, q⟩ := h
    refine ⟨_, (pss_cons (ps_set (i := 4) sc_tree_told.nd rfl (.inl rfl) (pe_mk K_Arr hr (by omega) pass0 (by rfl) (pa_cons (pv 0) (pa_cons (pv 2) pa_nil)))) (pss_cons (ps_if (pt_val (pe_mt0 M_Arr_has_ring hr (by omega) pass0 (pv 4))) (pss_one (ps_ret (pe_c C_leaf hr (by omega) pass0 (by rfl) (pa_cons (pe_mt0 M_Arr_ring hr (by omega) pass0 (pv 4)) pa_nil)))) pss_nil) (pss_cons (ps_if (PW.pt (pw_or (pt_cmpR (op_eqE hr.units0) (pv 3) (pe_lst pa_nil) (nomark _)) (pw_or1 (PW.pt (pw_and (pt_cmp (pc_notN (pv 1))) (pw_and1 (pt_cmpR op_ge (pe_mt M_Wk_end_of hr (by omega) pass0 (pv 0) (pa_cons (pe_mt0 M_Arr_earliest hr (by omega) pass0 (pv 4)) pa_nil)) (pv 1) (nomark _)))))))) (pss_one (ps_ret (pe_c C_leaf hr (by omega) pass0 (by rfl) (pa_cons (pe_mt0 M_Arr_chain hr (by omega) pass0 (pv 4)) pa_nil)))) pss_nil) (pss_cons (ps_asg (pe_ix (ixL (K := K) rfl) (pv 3) pe_int (fun _ _ => rfl)) (pg_t (K := K) rfl rfl (pgs_cons (pg_name (i := 7) sc_tree_told.nd rfl (.inl rfl)) (pgs_cons (pg_name (i := 8) sc_tree_told.nd rfl (.inl rfl)) pgs_nil)))) (pss_cons (ps_set (i := 5) sc_tree_told.nd rfl (.inl rfl) (pe_c C_tree_told hr (by omega) pass0 (by rfl) (pa_cons (pv 0) (pa_cons (pv 1) (pa_cons (pe_op op_cat (pv 2) (pe_lst (pa_cons (pe_tup (pa_cons (pv 7) (pa_cons (pv 8) pa_nil))) pa_nil))) (pa_cons (pe_slice sl_list (pv 3) (po_some pe_int) po_none) pa_nil)))))) (pss_cons (ps_set (i := 6) sc_tree_told.nd rfl (.inl rfl) (pe_c C_tree_told hr (by omega) pass0 (by rfl) (pa_cons (pv 0) (pa_cons (pv 1) (pa_cons (pe_op op_cat (pv 2) (pe_lst (pa_cons (pe_tup (pa_cons (pv 8) (pa_cons (pv 7) pa_nil))) pa_nil))) (pa_cons (pe_slice sl_list (pv 3) (po_some pe_int) po_none) pa_nil)))))) (pss_one (ps_ret (pe_op op_cat (pe_op op_cat (pe_lst (pa_cons pe_int (pa_cons (pv 7) (pa_cons (pv 8) pa_nil)))) (pv 5)) (pv 6)))))))))), ?_⟩
    have g8 : size s ≤ 8 := gd.ops
    refine q_asgP (ep_arrows (ev_var rfl) hw gd (fun H1 e1 Q k => ⟨_, rfl, k _ H1 (Ex.refl _) ⟨o, rfl, ho.same e1⟩⟩) hd) fun v H1 e1 ⟨ar, dx, r, rs, ev, nar, hAB⟩ => ?_
    subst ev
    refine q_when (et_test (ev_has (ev_var rfl) hAB.arr (by omega))) (fun hb H2 e2 => ?_) (fun hb H2 e2 => ?_)
    · have hno := (hasR_iff _ _).mp hb
      cases hrg : ringP (mA s ds) (size s + 1) (size s + 1) with
      | none => exact absurd (Up.ringP_free.mp hrg) hno
      | some l =>
        have := ringP_len hrg
        rw [tree_ring gd hd e ps hno hrg, ← leafV_eq] at q
        exact s_retL (el_leaf (el_ring (ev_var rfl) (hAB.arr.same e2) (by omega) hrg) (by omega)) fun p' H3 np e3 hp' => q p' H3 ((e1.trans e2).trans e3) (fresh_back (e1.trans e2) np) hp'
    · have hrf := hasR_no.mp hb
      have et := times_cons gd hd hrf
      have hB := tail_len (s := s) (ds := ds)
      have e12 := e1.trans e2
      have h2 := hAB.arr.same e2
      have hw2 := hw.same e12
      obtain ⟨as, hpa, hA⟩ := hp.same e12
      refine q_when (b := ps.isEmpty || stops s e (TmA s ds)) (et_or (a := ps.isEmpty) (et_is (et_eqE (ev_var rfl) (.of hpa)) (by
        have := hA.1
        cases as <;> cases ps <;> first | rfl | (simp at this))) fun _ => ?_) (fun hb H3 e3 => ?_) (fun hb H3 e3 => ?_)
      · cases e with
        | none => exact et_and (a := false) (b := false) (et_notN (ev_var (v := .non) rfl)) fun z => nomatch z
        | some x => exact et_and (a := true) (b := decide (x ≤ endOf s (TmA s ds))) (et_notN (ev_var (v := .int x) rfl)) fun _ => et_test (ev_op (ev_is (ev_endOf (ev_var rfl) hw2 g8 ((ep_L (el_earliest (ev_var rfl) h2 gd hd hrf)).imp fun v H4 _ ⟨b, ev, _, hb⟩ => ⟨b, ev, .of hb⟩) hB) (by rw [← et])) (ev_var rfl) rv_I0)
      · rw [tree_stop gd hd e ps hrf hb, ← leafV_eq] at q
        have := chain_len gd hd hrf hn
        exact s_retL (el_leaf (el_chain (ev_var rfl) (h2.same e3) gd hd hrf hn (hw2.same e3)) (by omega)) fun p' H4 np e4 hp' => q p' H4 ((e12.trans e3).trans e4) (fresh_back (e12.trans e3) np) hp'
      · rw [Bool.or_eq_false_iff] at hb
        cases ps with
        | nil => exact absurd hb.1 (by simp)
        | cons pr rest =>
          have hpm := hpo pr (List.mem_cons_self ..)
          have hro : OkDs s rest := fun q hq => hpo q (List.mem_cons_of_mem _ hq)
          have e13 := e12.trans e3
          obtain ⟨t, ht, hpt⟩ := hA.at (i := 0) (x := pr) rfl
          have hll : (pr :: rest).length = rest.length + 1 := rfl
          refine (ev_op (ev_var rfl) ev_c (rv_ixL (.of (e3 _ _ hpa)) (atI_nat (j := 0) (rf_get ht)))) H3 (Ex.refl _) _ fun H4 e4 => g_pair (e4 _ _ (e3 _ _ hpt)) ?_
          have e14 := e13.trans e4
          have d1 : OkDs s (ds ++ [(pr.1, pr.2)]) := hd.app (OkDs.one hpm.1 hpm.2)
          have d2 : OkDs s (ds ++ [(pr.2, pr.1)]) := hd.app (OkDs.one hpm.2 hpm.1)
          have sn : ∀ {σ : L2.St} {H5 : Hp} {tw tf ts : TE} {i j : Nat}, Ex H4 H5 → Ev tw σ H5 (.ref o) → Ev tf σ H5 (nv i) → Ev ts σ H5 (nv j) → EvP (tOp rCat tw (tLst (tCons (tTup (tCons tf (tCons ts tNil))) tNil))) σ H5 (fun v H1 => ∃ p, v = .ref p ∧ PairsAt H1 p (ds ++ [(i, j)])) := fun e5 h1 h2 h3 =>
            (ep_snoc h1 (ho.same (e14.trans e5)) h2 h3 (by omega)).imp fun v H6 _ ⟨p, ev, _, hp⟩ => ⟨p, ev, hp⟩
          have tl : ∀ {σ : L2.St} {H5 : Hp} {te : TE}, Ex H4 H5 → Ev te σ H5 (.ref p) → EvP (tSl (rSlL K) te (tPart (tC (.int 1))) tNoPart) σ H5 (fun v H1 => ∃ p, v = .ref p ∧ PairsAt H1 p rest) := fun e5 h1 => ep_tail h1 (hp.same (e14.trans e5))
          refine q_asgL (el_tree (c := c) (s := s) (e := e) (ev_var rfl) (ev_var rfl) (sn (Ex.refl _) (ev_var rfl) (ev_var rfl) (ev_var rfl)) (tl (Ex.refl _) (ev_var rfl)) (hw.same e14) gd hn d1 hro (by rw [List.length_append, List.length_singleton]; omega) (by omega) (by omega)) fun lp H5 nlp e5 hlp => ?_
          refine q_asgL (el_tree (c := c) (s := s) (e := e) (ev_var rfl) (ev_var rfl) (sn e5 (ev_var rfl) (ev_var rfl) (ev_var rfl)) (tl e5 (ev_var rfl)) (hw.same (e14.trans e5)) gd hn d2 hro (by rw [List.length_append, List.length_singleton]; omega) (by omega) (by omega)) fun rp H6 nrp e6 hrp => ?_
          have l1 := tree_few gd hn e rest (ds ++ [(pr.1, pr.2)]) hro d1
          have l2 := tree_few gd hn e rest (ds ++ [(pr.2, pr.1)]) hro d2
          have pw : 2 ^ rest.length ≤ 256 := pow_few (by omega)
          have e16 := (e14.trans e5).trans e6
          rw [tree_go gd hd e hrf hb.2, ← nodeV_eq] at q
          refine s_retP (ep_cat (xs := [nv 1, nv pr.1, nv pr.2] ++ treeV (treeFrom s e rest (ds ++ [(pr.1, pr.2)]))) (ys := treeV (treeFrom s e rest (ds ++ [(pr.2, pr.1)]))) (ep_cat (ep_L (el_lst (ea_cons ev_c (ea_cons (ev_var rfl) (ea_cons (ev_var rfl) ea_nil))) (by show 3 ≤ 100000; decide))) (ep_val (ev_var rfl)) (fun x H7 _ p => newL_is p) (fun x H7 e7 p => val_is (e6 _ _ hlp) e7 p) ?_) (ep_val (ev_var rfl)) (fun x H7 _ p => newL_is p) (fun x H7 e7 p => val_is hrp e7 p) ?_) fun v H7 e7 ⟨p', ev, np, hp'⟩ => ?_
          · unfold treeV
            rw [List.length_map]
            exact few (by show 3 + _ ≤ _; omega)
          · unfold treeV
            rw [List.length_append, List.length_map, List.length_map]
            exact few (by show 3 + _ + _ ≤ _; omega)
          · subst ev
            exact q p' H7 (e16.trans e7) (fresh_back e16 np) hp'
end
end Uw
/-! W17: refusals. -/
namespace Uw
open PySem PySem.Spec PyProof.Rows L2 Evl
open Vbwbai (State Op Link Arrow size opAt numbers open_ okOp inR)
open Up (OkDs Good)

/-- .. with the numbers that the top names, and what is told of the two own exceptions -/
structure Txt2 (K : PySem.W.Frag) (mg : Str → Option Value) (c : Ad) (RF WT : Addr) : Prop extends Txt K mg c where
  MOST_DEEP : ∃ u, mg "MOST_DEEP" = some u ∧ RelV (.int 12) u
  MOST_NODES : ∃ u, mg "MOST_NODES" = some u ∧ RelV (.int 20) u
  MOST_GAPS : ∃ u, mg "MOST_GAPS" = some u ∧ RelV (.int 6) u
  MOST_GAP : ∃ u, mg "MOST_GAP" = some u ∧ RelV (.int 1000000) u
  MOST_MINUTES : ∃ u, mg "MOST_MINUTES" = some u ∧ RelV (.int 1000000) u
  MOST_TIME : ∃ u, mg "MOST_TIME" = some u ∧ RelV (.int 1000000000) u
  MOST_END : ∃ u, mg "MOST_END" = some u ∧ RelV (.int 1000000000000) u
  MOST_OPERATIONS : ∃ u, mg "MOST_OPERATIONS" = some u ∧ RelV (.int 8) u
  MOST_LINKS : ∃ u, mg "MOST_LINKS" = some u ∧ RelV (.int 16) u
  MOST_OPEN : ∃ u, mg "MOST_OPEN" = some u ∧ RelV (.int 8) u
  rf_no : PySem.W.findIn K (.ref RF) "code" = some none
  rf_x : XfC K RF
  rf_te : PySem.W.exmOne K (.ref RF) (.ref RF) = some true
  rf_g : mg "Refused" = some (.ref RF)
  wt_x : PySem.W.excIn K WT PySem.HandSPX.veTail "ValueError.__new__" = true
  wt_g : mg "WrongTree" = some (.ref WT)
  wt_k : PySem.W.keepIn K (.ref WT) = true
  wt_s : PySem.W.subIn K (.ref WT) (.type "BaseException") = some true
  wt_t : PySem.W.typeIn K (.ref WT) = some (.type "type")
  wt_te : PySem.W.exmOne K (.ref WT) (.ref WT) = some true
/-- self.code = code, of an exception that is being made -/
def spRef (RF : Addr) : Sp := fun vs H Q _ => ∃ (a : Addr) (v : V), vs = [.ref a, v] ∧ H a = some (exo a RF none) ∧ ∀ d H', Ex H H' → H' d = none → d ≠ a → Q .non (upd (upd H' d (exd d [("code", v)])) a (exo a RF (some d)))
structure RefOk (P : Program) (w : World) (K : PySem.W.Frag) (mg : Str → Option Value) (base : Heap) (RF : Addr) : Prop where
  ex : ∃ (fI : Addr) (fd : FuncData), OexC K RF ∧ PySem.W.findIn K (.ref RF) "__init__" = some (some (.ref fI)) ∧ PySem.W.typeIn K (.ref fI) = some (.type "function") ∧ FnOk P w K mg base CX0 1 fI fd ["self", "code"] (spRef RF) ∧ L2H.FnH P w K mg base CX0 1 fI fd ["self", "code"] (spRef RF) ∧ Binds K fd ["self", "code"] [] ∧ mg "Refused" = some (.ref RF)
theorem pmk_ref {X : Cx} {RF : Addr} {e : Expr} {ta : TA} {p pos : Pos} {j : Nat} (T : RefOk X.prog X.w X.K X.mg X.base RF) (hr : Room j X.A) (hk : 2 ≤ j) (hg : Gl X "Refused") (ha : PA X [e] ta) (he : starEach [e] X.env = (false, eval e X.env) :: starEach [] X.env := by rfl) :
    PMk X (.Call (.Name "Refused" p) [e] [] pos) (tMkO RF (spRef RF) [] ta) := by
  obtain ⟨fI, fd, o, i, t, F, _, b, g⟩ := T.ex
  exact pmk_oex o i t F (hr.mono hk) b .nil pass0 hg g ha (by decide) he (by rfl)
section
variable {P : Program} {w : World} {K : PySem.W.Frag} {mg : Str → Option Value} {base : Heap} {c : Ad} {RF WT : Addr}
abbrev s_Rf___init__ : Stmt := inClass (topS 26) 0
theorem sc_Rf___init__ : FnScope ["self", "code"] ["self", "code"] (defScope s_Rf___init__) := ⟨rfl, rfl, rfl, by decide +kernel, rfl, by decide +kernel, by decide +kernel⟩
theorem init_body (o : OexC K RF) (no : PySem.W.findIn K (.ref RF) "code" = some none) {vs : List V} {H : Hp} {Q : VK} {E : XK} (h : spRef RF vs H Q E) : tOst K "code" (tVar 0) (tVar 1) { nx := fun _ H' => Q .non H', rt := Q } (start ["self", "code"] vs) H := by
  obtain ⟨a, v, rfl, hA, q⟩ := h
  exact ⟨_, rfl, _, rfl, a, RF, rfl, o, no, .inl ⟨hA, fun d nd ne => q d H (Ex.refl _) nd ne⟩⟩
theorem ok_refused {fI : Addr} {fd : FuncData} (F : Fun K "__init__" "Refused.__init__" s_Rf___init__ fI fd) (b : Binds K fd ["self", "code"] []) (o : OexC K RF) (no : PySem.W.findIn K (.ref RF) "code" = some none) (i : PySem.W.findIn K (.ref RF) "__init__" = some (some (.ref fI))) (t : PySem.W.typeIn K (.ref fI) = some (.type "function")) (g : mg "Refused" = some (.ref RF)) :
    RefOk P w K mg base RF := by
  have len : ∀ vs H Q E, spRef RF vs H Q E → vs.length = (["self", "code"] : List Str).length := fun vs H Q E h => by
    obtain ⟨a, v, rfl, _⟩ := h
    rfl
  refine ⟨⟨fI, fd, o, i, t, F.ok sc_Rf___init__ len fun cdv A outer s H vs Q E hr h => ⟨_, (pss_one (ps_ost (pv 0) (pv 1))), init_body o no h⟩, ?_, b, g⟩⟩
  obtain ⟨oc, od, kV, doc, pm, an, cdv, ct, osl, rfl, lk, hcd⟩ := F.ex
  exact L2H.fn_ofH lk hcd sc_Rf___init__ len fun A outer s H vs Q E p h1 hr h => ⟨_, (pss_one (ps_ost (pv 0) (pv 1))), init_body o no h⟩
/-! ### what a refusal leaves -/
def Rfz (RF : Addr) (H : Hp) (E : XK) (z : Int) : Prop := ∀ d H', Ex H H' → H' d = some (.xd [("code", .int z)]) → E (.ref RF) (some d) H'
theorem Rfz.same {H H' : Hp} {E : XK} {z : Int} (h : Rfz RF H E z) (e : Ex H H') : Rfz RF H' E z := fun d H2 e2 hd => h d H2 (e.trans e2) hd
/-- raise Refused(z) -/
theorem s_refuse {σ : L2.St} {H : Hp} {te : TE} {z : Int} {E : XK} (h : Ev te σ H (.int z)) (q : Rfz RF H E z) : tMkO RF (spRef RF) [] (tCons te tNil) σ H fun cls d H' => E cls d H' := by
  unfold tMkO
  have hE : EvA (tCons te tNil) σ H [.int z] := ea_cons h ea_nil
  refine hE H (Ex.refl _) _ fun H1 e1 => ⟨by show 1 ≤ 1000; decide, fun a na => ?_⟩
  refine ⟨a, .int z, rfl, upd_same, fun d H2 e2 nd ne => ⟨rfl, d, [("code", .int z)], upd_same, by rw [upd_ne ne]; exact upd_same, ?_, ?_⟩⟩
  · cases e : H1 d with
    | none => rfl
    | some o =>
      have := e2 d o (by rw [upd_ne ne]; exact e)
      rw [nd] at this
      cases this
  · refine q d _ (fun b o hb => ?_) upd_same
    have hb1 := e1 _ _ hb
    have nba : b ≠ a := ne_of_none hb1 na
    have hb2 := e2 b o (by rw [upd_ne nba]; exact hb1)
    have nbd : b ≠ d := ne_of_none hb2 nd
    rw [upd_ne nbd]
    unfold L2.del
    rw [if_neg nba, upd_ne nba, upd_ne nbd]
    exact hb2
def spReq (RF : Addr) : Sp := fun vs H Q E => ∃ (b : Bool) (z : Int), vs = [.bl b, .int z] ∧ (b = true → RV' .non H Q) ∧ (b = false → Rfz RF H E z)
abbrev s_require : Stmt := topS 28
theorem sc_require : FnScope ["is_so", "code"] ["is_so", "code"] (defScope s_require) := ⟨rfl, rfl, rfl, by decide +kernel, rfl, by decide +kernel, by decide +kernel⟩
theorem ok_require (TR : RefOk P w K mg base RF) (D : DefG K mg "require" s_require ["is_so", "code"]) : Cal P w K mg base (L2.CX P w) 3 "require" (spReq RF) := by
  refine calX D sc_require (fun vs H Q E h => ?_) (fun f cdv A outer s H vs Q E hr h => ?_)
  · obtain ⟨b, z, rfl, _⟩ := h
    rfl
  · obtain ⟨b, z, rfl, q1, q2⟩ := h
    refine ⟨_, (pss_one (ps_if (pt_not (pt_val (pv 0))) (pss_one (ps_raise rfl (takes_of rfl rfl rfl rfl) (pmk_ref TR hr (by decide) (by rfl) (pa_cons (pv 1) pa_nil)))) pss_nil)), ?_⟩
    refine s_when (b := !b) (et_not (et_test (ev_var rfl))) (fun hb H1 e1 => ?_) (fun hb H1 e1 => ?_)
    · exact s_refuse (ev_var rfl) ((q2 (by simpa using hb)).same e1)
    · exact q1 (by simpa using hb) H1 e1
/-- require(b, z) -/
theorem q_req {D : Ends} {tz : TS} {σ : L2.St} {H : Hp} {tb tc : TE} {b : Bool} {z : Int} {E : XK} (hb : Ev tb σ H (.bl b)) (hz : Ev tc σ H (.int z)) (h1 : b = true → ∀ H1, Ex H H1 → tz D σ H1) (h2 : b = false → Rfz RF H E z) : tSeq (tDrop (tCall (spReq RF) [] E (tCons tb (tCons tc tNil)))) tz D σ H := by
  have hE : EvA (tCons tb (tCons tc tNil)) σ H [.bl b, .int z] := ea_cons hb (ea_cons hz ea_nil)
  unfold tSeq tDrop tCall
  refine hE H (Ex.refl _) _ fun H1 e1 => ?_
  exact ⟨b, z, rfl, fun e H2 e2 => h1 e H2 (e1.trans e2), fun e => (h2 e).same e1⟩
theorem s_req {D : Ends} {σ : L2.St} {H : Hp} {tb tc : TE} {b : Bool} {z : Int} {E : XK} (hb : Ev tb σ H (.bl b)) (hz : Ev tc σ H (.int z)) (h1 : b = true → ∀ H1, Ex H H1 → D.nx σ H1) (h2 : b = false → Rfz RF H E z) : tDrop (tCall (spReq RF) [] E (tCons tb (tCons tc tNil))) D σ H := by
  have hE : EvA (tCons tb (tCons tc tNil)) σ H [.bl b, .int z] := ea_cons hb (ea_cons hz ea_nil)
  unfold tDrop tCall
  refine hE H (Ex.refl _) _ fun H1 e1 => ?_
  exact ⟨b, z, rfl, fun e H2 e2 => h1 e H2 (e1.trans e2), fun e => (h2 e).same e1⟩
theorem ru_negI {σ : L2.St} {H : Hp} {k : Int} {r : V → Hp → VK → Prop} (hr : RU r (.int k) H (.int (-k))) : Ev (tUn r (tC (.int k))) σ H (.int (-k)) := ev_un ev_c hr
/-- all([..]) -/
theorem ev_all {σ : L2.St} {H : Hp} {te : TE} {bs : List Bool} (h : EvL te σ H (bs.map V.bl)) : Ev (tCB (rAll K) (tCons te tNil)) σ H (.bl (bs.all id)) := fun H1 e1 Q q => h H1 e1 _ fun p H2 _ e2 hp => ⟨p, bs, rfl, .of hp, q H2 e2⟩
theorem given_bools {α : Type} (l : List α) (f : α → Bool) (g : Nat → Bool) (h : ∀ (i : Nat) x, l[i]? = some x → g i = f x) : given l.length (fun _ => true) (fun i => V.bl (g i)) = (l.map f).map V.bl := by
  rw [given_true, List.map_map]
  apply List.ext_getElem?
  intro i
  by_cases hi : i < l.length
  · rw [List.getElem?_map, List.getElem?_map, List.getElem?_range hi, List.getElem?_eq_getElem hi]
    show some (V.bl (g i)) = some (V.bl (f l[i]))
    rw [h i _ (List.getElem?_eq_getElem hi)]
  · rw [List.getElem?_eq_none (by simpa using hi), List.getElem?_eq_none (by simpa using hi)]
def spReqOps (K : PySem.W.Frag) (c : Ad) (RF : Addr) : Sp := fun vs H Q E => ∃ (a p : Addr) (s : State) (ns : List Int), vs = [.ref a, .ref p] ∧ WorksAt c H a s ∧ SqL K H p (ns.map V.int) ∧ ns.length ≤ 10 ∧ (ns.all (okOp s) = true → RV' .non H Q) ∧ (ns.all (okOp s) = false → Rfz RF H E (-1))
abbrev s_require_operations : Stmt := topS 29
theorem sc_require_operations : FnScope ["works", "numbers", "number"] ["works", "numbers"] (defScope s_require_operations) := ⟨rfl, rfl, rfl, by decide +kernel, rfl, by decide +kernel, by decide +kernel⟩
theorem ok_require_operations (T : Txt2 K mg c RF WT) (D : DefG K mg "require_operations" s_require_operations ["works", "numbers"]) (C_require : Cal P w K mg base (L2.CX P w) 3 "require" (spReq RF)) : Cal P w K mg base (L2.CX P w) 4 "require_operations" (spReqOps K c RF) := by
  refine calX D sc_require_operations (fun vs H Q E h => ?_) (fun f cdv A outer s H vs Q E hr h => ?_)
  · obtain ⟨a, p, s, ns, rfl, _⟩ := h
    rfl
  · obtain ⟨a, p, s, ns, rfl, ⟨dx, g, o, l, f', os, ls, fs, hw⟩, hp, hl, q1, q2⟩ := h
    refine ⟨_, (pss_one (ps_expr (pe_c C_require hr (by decide) (passes_call (takes_of rfl rfl rfl rfl) fun _ _ _ _ q => q) (by rfl) (pa_cons (pe_callB (cr_all rfl) (by rfl) T.all (by decide +kernel) (pa_cons (pe_lc (own := [("number", 2)]) rfl sc_require_operations.nd (pi_list (pv 1)) (blkOk_by (own := [("number", 2)]) (N := ["works", "numbers", "number"]) (sc := defScope s_require_operations) (by decide +kernel)) (fun _ _ _ _ _ => (pg_name (i := 2) sc_require_operations.nd rfl (.inl rfl))) (fun _ _ _ _ _ => pts_nil) (fun _ _ _ _ _ => (pe_chain op_le op_le pe_int (pv 2) (pe_callB (lenR (K := K) rfl) (by rfl) T.len (by decide +kernel) (pa_cons (pe_f (K := K) rfl (pv 0) rfl) pa_nil))))) pa_nil)) (pa_cons (pe_un un_neg pe_int) pa_nil))))), ?_⟩
    have hol : (rf os).length = size s := by simp [hw.opA.1, size]
    have ea : ns.all (okOp s) = (ns.map (okOp s)).all id := by
      rw [List.all_map]
      rfl
    rw [ea] at q1 q2
    refine s_req (b := (ns.map (okOp s)).all id) (ev_all (el_is (el_lcL (a := p) (xs := ns.map V.int) (fun _ => true) (fun i => V.bl (okOp s (ns.getD i 0))) (ev_var rfl) hp (by rw [List.length_map]; omega) (fun _ => rfl) (fun i x H1 _ _ => fun H2 e2 Q q => q H2 (Ex.refl _)) (fun i x H1 e1 hx _ => ?_)) ?_)) (ru_negI ru_neg) (fun hb H1 e1 => q1 hb H1 e1) q2
    · obtain ⟨z, hz, rfl⟩ := map_get' hx
      have hz' : ns.getD i 0 = z := by rw [List.getD_eq_getElem?_getD, hz]; rfl
      rw [hz']
      exact ev_is (ev_chain (i := 1) (j := z) (k := ((rf os).length : Int)) ev_c (ev_var rfl) (ev_lenL (ev_fld (ev_var rfl) (hw.same e1).me T.wk T.wk_operations (wkF_operations ..)) (hw.same e1).ops)) (by rw [hol]; rfl)
    · rw [List.length_map]
      exact given_bools ns (okOp s) (fun i => okOp s (ns.getD i 0)) fun i x hx => by
        show okOp s (ns.getD i 0) = okOp s x
        rw [List.getD_eq_getElem?_getD, hx]
        rfl
/-- len(works.open_pairs()) -/
theorem ev_openLen {σ : L2.St} {H : Hp} {ta : TE} {a : Addr} {s : State} (ha : Ev ta σ H (.ref a)) (hw : WorksAt c H a s) (h8 : size s ≤ 8) : Ev (tCB (rLen K) (tCons (tMeth c.Wk "open_pairs" (spOpenPairs c) [] E0 ta tNil) tNil)) σ H (.int ((open_ s).length : Int)) := fun H1 e1 Q q => by
  obtain ⟨dw, g, oo, l, f', os, ls, fs, hW⟩ := hw
  exact ha H1 e1 _ fun H2 e2 => ⟨a, dw, _, rfl, (hW.same (e1.trans e2)).me, wkF_no _ _ _ _ (by decide +kernel) (by decide +kernel) (by decide +kernel) (by decide +kernel), a, s, rfl, ⟨dw, g, oo, l, f', os, ls, fs, hW.same (e1.trans e2)⟩, h8, fun p H3 e3 _ ⟨as, hp, A⟩ => by
    refine ⟨p, rf as, rfl, .inl (.of hp), ?_⟩
    rw [List.length_map, A.1]
    exact q H3 (e2.trans e3)⟩
def spReqFew (c : Ad) (RF : Addr) : Sp := fun vs H Q E => ∃ (a : Addr) (s : State), vs = [.ref a] ∧ WorksAt c H a s ∧ size s ≤ 8 ∧ ((open_ s).length ≤ 8 → RV' .non H Q) ∧ (8 < (open_ s).length → Rfz RF H E (-11))
abbrev s_require_few_open : Stmt := topS 30
theorem sc_require_few_open : FnScope ["works"] ["works"] (defScope s_require_few_open) := ⟨rfl, rfl, rfl, by decide +kernel, rfl, by decide +kernel, by decide +kernel⟩
theorem ok_require_few_open (T : Txt2 K mg c RF WT) (D : DefG K mg "require_few_open" s_require_few_open ["works"]) (C_require : Cal P w K mg base (L2.CX P w) 3 "require" (spReq RF)) (M_Wk_open_pairs : Met P w K mg base CX0 4 c.Wk "open_pairs" (spOpenPairs c)) : Cal P w K mg base (L2.CX P w) 5 "require_few_open" (spReqFew c RF) := by
  refine calX D sc_require_few_open (fun vs H Q E h => ?_) (fun f cdv A outer s H vs Q E hr h => ?_)
  · obtain ⟨a, s, rfl, _⟩ := h
    rfl
  · obtain ⟨a, s, rfl, hw, h8, q1, q2⟩ := h
    refine ⟨_, (pss_one (ps_expr (pe_c C_require hr (by decide) (passes_call (takes_of rfl rfl rfl rfl) fun _ _ _ _ q => q) (by rfl) (pa_cons (pe_cmpR op_le (pe_callB (lenR (K := K) rfl) (by rfl) T.len (by decide +kernel) (pa_cons (pe_mt0 M_Wk_open_pairs hr (by decide) pass0 (pv 0)) pa_nil)) (C8.pe_gc (by rfl) T.MOST_OPEN) (nomark _)) (pa_cons (pe_un un_neg pe_int) pa_nil))))), ?_⟩
    refine s_req (b := decide (((open_ s).length : Int) ≤ 8)) (ev_op (ev_openLen (ev_var rfl) hw h8) ev_c rv_I0) (ru_negI ru_neg) (fun hb H1 e1 => q1 ?_ H1 e1) (fun hb => q2 ?_)
    · have := of_decide_eq_true hb
      omega
    · have := of_decide_eq_false hb
      omega
/-! ### told_pairs, listed -/
def pairsV (ps : List (Nat × Nat)) : List V := nv ps.length :: ps.flatMap fun p => [nv p.1, nv p.2]
def spTold (c : Ad) : Sp := fun vs H Q _ => ∃ (a : Addr) (ps : List (Nat × Nat)), vs = [.ref a] ∧ PairsAt H a ps ∧ ps.length ≤ 200 ∧ RL (pairsV ps) H Q
theorem s_ext {D : Ends} {σ : L2.St} {H : Hp} {ta te : TE} {l : Addr} {xs ys : List V} (hl : H l = some (.lst xs)) (ha : Ev ta σ H (.ref l)) (h : EvL te σ H ys) (hz : xs.length + ys.length ≤ 100000) (k : ∀ H1, Ex H H1 → D.nx σ (upd H1 l (.lst (xs ++ ys)))) :
    tDrop (tBM K "list" rExtend ta (tCons te tNil)) D σ H := ha H (Ex.refl H) _ fun H1 e1 =>
  ⟨Or.inl ⟨rfl, xs, sq_of (e1 l _ hl)⟩, h H1 e1 _ fun p H2 np e2 hp => ⟨l, p, xs, ys, rfl, rfl, e2 _ _ (e1 _ _ hl), hp, sz_of hz, k H2 (e1.trans e2)⟩⟩
theorem pair_len (ps : List (Nat × Nat)) : (ps.flatMap fun p => [nv p.1, nv p.2]).length = 2 * ps.length := by
  induction ps with
  | nil => rfl
  | cons p ps ih =>
    rw [List.flatMap_cons, List.length_append, ih]
    show 2 + _ = 2 * (ps.length + 1)
    omega
abbrev s_told_pairs : Stmt := topS 31
theorem sc_told_pairs : FnScope ["pairs", "found", "first", "second"] ["pairs"] (defScope s_told_pairs) := ⟨rfl, rfl, rfl, by decide +kernel, rfl, by decide +kernel, by decide +kernel⟩
theorem ok_told_pairs (T : Txt K mg c) (D : DefG K mg "told_pairs" s_told_pairs ["pairs"]) : Cal P w K mg base CX0 1 "told_pairs" (spTold c) := by
  refine cal0 D sc_told_pairs (fun vs H Q E h => ?_) (fun f cdv A outer s H vs Q E hr h => ?_)
  · obtain ⟨a, ps, rfl, _⟩ := h
    rfl
  · obtain ⟨a, ps, rfl, ⟨as, ha, hA⟩, hl, q⟩ := h
    refine ⟨_, (pss_cons (ps_set (i := 1) sc_told_pairs.nd rfl (.inl rfl) (pe_lst (pa_cons (pe_callB (lenR (K := K) rfl) (by rfl) T.len (by decide +kernel) (pa_cons (pv 0) pa_nil)) pa_nil))) (pss_cons (ps_for PassesOwn.never rfl (pi_list (pv 0)) (pg_t (K := K) rfl rfl (pgs_cons (pg_name (i := 2) sc_told_pairs.nd rfl (.inl rfl)) (pgs_cons (pg_name (i := 3) sc_told_pairs.nd rfl (.inl rfl)) pgs_nil))) (pss_one (ps_expr (pe_bm PySem.F.plainAttrs_list PySem.F.slot_list_extend PySem.F.type_list_extend mt_extend (pv 1) (pa_cons (pe_lst (pa_cons (pv 2) (pa_cons (pv 3) pa_nil))) pa_nil))))) (pss_one (ps_ret (pv 1))))), ?_⟩
    refine q_asgL (xs := [nv ps.length]) (el_lst (ea_cons (ev_is (ev_lenL (ev_var rfl) ha) (by rw [List.length_map, hA.1])) ea_nil) (by show 1 ≤ 100000; decide)) fun fd H1 nfd e1 hfd => ?_
    refine q_forL (a := a) (xs := rf as) (ev_var rfl) (.of (e1 _ _ ha)) (fun k σ H2 => ∃ v2 v3, σ = [some (.ref a), some (.ref fd), v2, v3] ∧ Ex H H2 ∧ H2 fd = some (.lst (nv ps.length :: (ps.take k).flatMap fun p => [nv p.1, nv p.2])))
      (fun H2 e2 => ⟨none, none, rfl, e1.trans e2, e2 _ _ hfd⟩) (fun k σ H2 _ ⟨_, _, _, e2, _⟩ => .of (e2 _ _ ha)) ?_ ?_
    · rintro k x σ H2 hx ⟨v2, v3, rfl, e2, hf⟩
      obtain ⟨t, ht, rfl⟩ := rf_get' hx
      obtain ⟨p, ep, hp⟩ := hA.at' ht
      have hk : k < ps.length := (List.getElem?_eq_some_iff.mp ep).1
      refine g_pair (e2 _ _ hp) ?_
      refine s_ext hf (ev_var rfl) (el_lst (ea_cons (ev_var rfl) (ea_cons (ev_var rfl) ea_nil)) (by show 2 ≤ 100000; decide)) ?_ fun H3 e3 => ⟨_, _, rfl, Ex.mut (e2.trans e3) nfd, ?_⟩
      · rw [List.length_cons, pair_len, List.length_take]
        show _ + 2 ≤ _
        omega
      · rw [upd_same, take_more ep, List.flatMap_append]
        simp
    · rintro σ H2 ⟨v2, v3, rfl, e2, hf⟩
      rw [List.length_map, hA.1, List.take_length] at hf
      exact s_ret (ev_var rfl) fun H3 e3 => q fd H3 (e2.trans e3) nfd (e3 _ _ hf)
def spListed (K : PySem.W.Frag) : Sp := fun vs H Q _ => ∃ (a : Addr) (xs : List V), vs = [.ref a] ∧ H a = some (.lst xs) ∧ xs.length ≤ 1000 ∧ RL (nv xs.length :: xs) H Q
abbrev s_listed : Stmt := topS 32
theorem sc_listed : FnScope ["numbers"] ["numbers"] (defScope s_listed) := ⟨rfl, rfl, rfl, by decide +kernel, rfl, by decide +kernel, by decide +kernel⟩
theorem ok_listed (T : Txt K mg c) (D : DefG K mg "listed" s_listed ["numbers"]) : Cal P w K mg base CX0 1 "listed" (spListed K) := by
  refine cal0 D sc_listed (fun vs H Q E h => ?_) (fun f cdv A outer s H vs Q E hr h => ?_)
  · obtain ⟨a, xs, rfl, _⟩ := h
    rfl
  · obtain ⟨a, xs, rfl, ha, hl, q⟩ := h
    refine ⟨_, (pss_one (ps_ret (pe_op op_cat (pe_lst (pa_cons (pe_callB (lenR (K := K) rfl) (by rfl) T.len (by decide +kernel) (pa_cons (pv 0) pa_nil)) pa_nil)) (pv 0)))), ?_⟩
    refine s_retP (ep_cat (xs := [nv xs.length]) (ys := xs) (ep_L (el_lst (ea_cons (ev_lenL (ev_var rfl) ha) ea_nil) (by show 1 ≤ 100000; decide))) (ep_val (ev_var rfl)) (fun x H1 _ p => newL_is p) (fun x H1 e1 p => val_is ha e1 p) (few (by show 1 + _ ≤ _; omega))) fun v H1 e1 ⟨p, ev, np, hp⟩ => ?_
    subst ev
    exact q p H1 e1 np hp
theorem el_listed {σ : L2.St} {H : Hp} {te : TE} {xs : List V} (h : EvL te σ H xs) (hl : xs.length ≤ 1000) : EvL (tCall (spListed K) [] E0 (tCons te tNil)) σ H (nv xs.length :: xs) := fun H1 e1 Q q =>
  h H1 e1 _ fun p H2 np e2 hp => ⟨p, xs, rfl, hp, hl, fun p' H3 e3 np' hp' => q p' H3 (fresh_back e2 np') (e2.trans e3) hp'⟩
theorem el_told {σ : L2.St} {H : Hp} {te : TE} {ps : List (Nat × Nat)} (h : EvP te σ H (fun v H1 => ∃ p, v = .ref p ∧ PairsAt H1 p ps)) (hl : ps.length ≤ 200) : EvL (tCall (spTold c) [] E0 (tCons te tNil)) σ H (pairsV ps) := fun H1 e1 Q q =>
  h H1 e1 _ fun v H2 e2 ⟨p, ev, hp⟩ => ⟨p, ps, by rw [ev]; rfl, hp, hl, fun p' H3 e3 np' hp' => q p' H3 (fresh_back e2 np') (e2.trans e3) hp'⟩
end
end Uw
/-! W18: the deeds that only look: what is common; earliest, latest, chain. -/
namespace Uw
open PySem PySem.Spec PyProof.Rows L2 Evl
open Vbwbai (State Op Link Arrow size opAt numbers open_ okOp inR best arrows at_ endOf)
open Up (OkDs Good mA TmA RingFree ringP endAr mX Lt greatF)

/-- the desk: what of it and of its works may be written -/
def DeskAt (c : Ad) (H : Hp) (dk : Addr) (s : State) (R : List Addr) : Prop := ∃ dx wk R0, H dk = some (.ins c.Dk dx (dkF wk)) ∧ WorksR c H wk s R0 ∧ dk ∉ R0 ∧ R = dk :: R0
theorem DeskAt.same {c : Ad} {H H' : Hp} {dk : Addr} {s : State} {R : List Addr} (h : DeskAt c H dk s R) (e : Ex H H') : DeskAt c H' dk s R := by
  obtain ⟨dx, wk, R0, h1, h2, h3, h4⟩ := h
  exact ⟨dx, wk, R0, e _ _ h1, h2.same e, h3, h4⟩
theorem DeskAt.known {c : Ad} {H : Hp} {dk b : Addr} {s : State} {R : List Addr} (h : DeskAt c H dk s R) (hb : b ∈ R) : ∃ o, H b = some o := by
  obtain ⟨dx, wk, R0, h1, ⟨dw, g, o, l, f, os, ls, fs, hW, rfl, _⟩, h3, rfl⟩ := h
  rcases List.mem_cons.mp hb with z | z
  · exact ⟨_, z ▸ h1⟩
  rcases List.mem_cons.mp z with z | z
  · exact ⟨_, z ▸ hW.ops⟩
  rcases List.mem_cons.mp z with z | z
  · exact ⟨_, z ▸ hW.links⟩
  rcases List.mem_cons.mp z with z | z
  · exact ⟨_, z ▸ hW.fixed⟩
  · exact ⟨_, List.mem_singleton.mp z ▸ hW.gaps⟩
def RowAt (H : Hp) (a : Addr) (l : List Int) : Prop := H a = some (.lst (l.map V.int))
def RowsAt (H : Hp) (p : Addr) (rws : List (List Int)) : Prop := ∃ as, H p = some (.lst (rf as)) ∧ All2 (RowAt H) as rws
/-- a deed, by its number -/
def spDeed (c : Ad) (RF : Addr) (i : Int) : Sp := fun vs H Q E => ∃ (dk nu rw : Addr) (s : State) (R : List Addr) (ns : List Int) (rws : List (List Int)), vs = [.ref dk, .ref nu, .ref rw] ∧ DeskAt c H dk s R ∧ Good s ∧ H nu = some (.lst (ns.map V.int)) ∧ RowsAt H rw rws ∧
  PyVbwbai.shape i = some (ns.length, rws.length) ∧ (∀ r ∈ rws, r.length ≤ 5000) ∧
  (∀ p H' R', SB R H H' → DeskAt c H' dk (Vbwbai.step s ((i :: ns) :: rws)).1 R' → (∀ b ∈ R', b ∈ R ∨ H b = none) → H p = none → p ∉ R' → H' p = some (.lst ((Vbwbai.step s ((i :: ns) :: rws)).2.map V.int)) → Q (.ref p) H') ∧
  ∀ z, Vbwbai.step s ((i :: ns) :: rws) = (s, [z]) → Rfz RF H E z
theorem deed_len {c : Ad} {RF : Addr} {i : Int} {vs : List V} {H : Hp} {Q : VK} {E : XK} (h : spDeed c RF i vs H Q E) : vs.length = (["desk", "numbers", "rows"] : List Str).length := by
  obtain ⟨dk, nu, rw, s, R, ns, rws, rfl, _⟩ := h
  rfl
/-- one that only looks -/
theorem deed_ro {c : Ad} {RF : Addr} {i : Int} {vs : List V} {H : Hp} {Q : VK} {E : XK} (h : spDeed c RF i vs H Q E) :
    ∃ (dk nu rw wk dx : Addr) (s : State) (ns : List Int) (rws : List (List Int)), vs = [.ref dk, .ref nu, .ref rw] ∧ H dk = some (.ins c.Dk dx (dkF wk)) ∧ WorksAt c H wk s ∧ Good s ∧ H nu = some (.lst (ns.map V.int)) ∧ RowsAt H rw rws ∧
      PyVbwbai.shape i = some (ns.length, rws.length) ∧ (∀ r ∈ rws, r.length ≤ 5000) ∧ (∀ ans, Vbwbai.step s ((i :: ns) :: rws) = (s, ans) → RL (ans.map V.int) H Q) ∧ ∀ z, Vbwbai.step s ((i :: ns) :: rws) = (s, [z]) → Rfz RF H E z := by
  obtain ⟨dk, nu, rw, s, R, ns, rws, rfl, hd, gd, hn, hr, sh, h5, q1, q2⟩ := h
  obtain ⟨dx, wk, R0, h1, h2, h3, h4⟩ := id hd
  refine ⟨dk, nu, rw, wk, dx, s, ns, rws, rfl, h1, h2.at, gd, hn, hr, sh, h5, fun ans ha p H' e np hp => ?_, q2⟩
  rw [ha] at q1
  exact q1 p H' R (.of e) (hd.same e) (fun b hb => .inl hb) np (fun z => by
    obtain ⟨o, ho⟩ := hd.known z
    rw [np] at ho
    cases ho) hp
theorem nil_of {α : Type} {l : List α} (h : l.length = 0) : l = [] := List.eq_nil_of_length_eq_zero h
theorem one_of {α : Type} {l : List α} (h : l.length = 1) : ∃ a, l = [a] := List.length_eq_one_iff.mp h
section
variable {P : Program} {w : World} {K : PySem.W.Frag} {mg : Str → Option Value} {base : Heap} {c : Ad} {RF WT : Addr}
theorem ev_works {σ : L2.St} {H : Hp} {td : TE} {dk dx wk : Addr} (T : Txt K mg c) (h : Ev td σ H (.ref dk)) (hd : H dk = some (.ins c.Dk dx (dkF wk))) : Ev (tFld K td "works") σ H (.ref wk) := ev_fld h hd T.dk T.dk_works lk_here
theorem ep_fixed {σ : L2.St} {H : Hp} {tw : TE} {wk : Addr} {s : State} (T : Txt K mg c) (h : Ev tw σ H (.ref wk)) (hw : WorksAt c H wk s) : EvP (tFld K tw "fixed") σ H (fun v H1 => ∃ p, v = .ref p ∧ PairsAt H1 p s.fixed) := by
  obtain ⟨dw, g, o, l, f, os, ls, fs, hW⟩ := hw
  exact (ep_val (ev_fld h hW.me T.wk T.wk_fixed (wkF_fixed ..))).imp fun v H1 e p => ⟨f, p, fs, e _ _ hW.fixed, hW.fxA.mono fun a x _ r => e _ _ r⟩
theorem ep_open {σ : L2.St} {H : Hp} {tw : TE} {wk : Addr} {s : State} (h : Ev tw σ H (.ref wk)) (hw : WorksAt c H wk s) (h8 : size s ≤ 8) : EvP (tMeth c.Wk "open_pairs" (spOpenPairs c) [] E0 tw tNil) σ H (fun v H1 => ∃ p, v = .ref p ∧ PairsAt H1 p (open_ s)) := by
  obtain ⟨dw, g, o, l, f, os, ls, fs, hW⟩ := hw
  exact ep_meth h hW.me (wkF_no _ _ _ _ (by decide +kernel) (by decide +kernel) (by decide +kernel) (by decide +kernel)) ea_nil fun H1 e1 Q q E => ⟨wk, s, rfl, ⟨dw, g, o, l, f, os, ls, fs, hW.same e1⟩, h8, fun p H2 e2 _ hp => q _ _ e2 ⟨p, rfl, hp⟩⟩
theorem s_endBy {D : Ends} {tz : TS} {σ : L2.St} {H0 H : Hp} {ta tm : TE} {a dx w r : Addr} {rs : List Addr} {s : State} {es : List Arrow} {mi : Int} (h : AB c H0 H a dx w r rs s es) (ha : Ev ta σ H (.ref a)) (hm : Ev tm σ H (.int mi)) (hw : WorksAt c H0 w s) (h8 : size s ≤ 8)
    (k : ∀ H', SB rs H H' → AB c H0 H' a dx w r rs s (es ++ endAr s mi) → tz D σ H') : tSeq (tDrop (tMeth c.Arr "end_by" (spEndBy c) [] E0 ta (tCons tm tNil))) tz D σ H :=
  ha H (Ex.refl _) _ fun H1 e1 => ⟨a, dx, _, rfl, (h.arr.same e1).me, arF_no _ _ _ (by decide +kernel) (by decide +kernel) (by decide +kernel), (ea_cons hm ea_nil) H1 e1 _ fun H2 e2 => by
    rw [List.append_nil]
    exact ⟨a, dx, w, r, rs, s, es, mi, H0, rfl, h.ext (e1.trans e2), hw, h8, fun H' sb h' => k H' ((SB.of (e1.trans e2)).trans sb) h'⟩⟩
/-- the latest times, that the arrows tell -/
theorem el_latest {σ : L2.St} {H : Hp} {ta : TE} {a dx w r : Addr} {rs : List Addr} {s : State} {ds : List (Nat × Nat)} {mi : Int} (ha : Ev ta σ H (.ref a)) (h : ArrAt c H a dx w r rs (size s + 1) (mX s (arrows s ds) mi)) (g : Good s) (hd : OkDs s ds) (rf : RingFree (mX s (arrows s ds) mi) (size s + 1)) (hw : WorksAt c H w s) :
    EvL (tMeth c.Arr "latest" (spLatest c) [] E0 ta tNil) σ H (((Lt s (arrows s ds) mi (size s + 1)).drop 1).map V.int) := by
  have g8 : size s ≤ 8 := g.ops
  refine el_is (el_meth (xs := (numbers s).map fun i => V.int (0 - -at_ (Lt s (arrows s ds) mi (size s + 1)) i)) ha h.me (arF_no _ _ _ (by decide +kernel) (by decide +kernel) (by decide +kernel)) ea_nil fun H1 e1 Q q E => ⟨a, dx, w, r, rs, _, s, fun i => -at_ (Lt s (arrows s ds) mi (size s + 1)) i, rfl, h.same e1, g8, hw.same e1, fun i h0 h1 => Up.latest_great (Up.inR_arrows g hd) rf (by omega) h1, fun p H2 e2 n hp => q p H2 n e2 hp⟩) ?_
  have hl : (Lt s (arrows s ds) mi (size s + 1)).length = size s + 1 := Up.Lt_len _
  unfold numbers
  rw [List.map_map]
  apply List.ext_getElem?
  intro i
  by_cases hi : i < size s
  · rw [List.getElem?_map, List.getElem?_range hi, List.getElem?_map, List.getElem?_drop]
    show some (V.int (0 - -at_ _ (i + 1))) = _
    rw [show 1 + i = i + 1 by omega, List.getElem?_eq_getElem (by omega)]
    show _ = some (V.int _)
    unfold at_
    rw [List.getD_eq_getElem?_getD, List.getElem?_eq_getElem (by omega)]
    simp
  · rw [List.getElem?_eq_none (by simpa using hi), List.getElem?_eq_none (by rw [List.length_map, List.length_drop]; omega)]
theorem late_eq {s : State} {ds : List (Nat × Nat)} {mi : Int} (g : Good s) (hd : OkDs s ds) : Vbwbai.latest s ds mi = if hasR (mX s (arrows s ds) mi) (size s + 1) = true then none else some (Lt s (arrows s ds) mi (size s + 1)) := by
  rw [Up.latest_eq]
  have := Up.Lt_free (s := s) (e := mi) (Up.inR_arrows g hd)
  by_cases c : RingFree (mX s (arrows s ds) mi) (size s + 1)
  · rw [if_pos (this.mpr c), hasR_no.mpr c]
    rfl
  · rw [if_neg fun z => c (this.mp z), (hasR_iff _ _).mpr c]
    rfl
theorem ep_if {σ : L2.St} {H : Hp} {t : TT} {ta tb : TE} {b : Bool} {P : V → Hp → Prop} (h : EvT t σ H b) (h1 : b = true → EvP ta σ H P) (h2 : b = false → EvP tb σ H P) : EvP (tIf t ta tb) σ H P := fun H1 e1 Q q => h H1 e1 _ fun H2 e2 => by
  cases b with
  | true => exact h1 rfl H2 (e1.trans e2) Q fun v H3 e3 p => q v H3 (e2.trans e3) p
  | false => exact h2 rfl H2 (e1.trans e2) Q fun v H3 e3 p => q v H3 (e2.trans e3) p
/-! ### earliest -/
abbrev s_earliest : Stmt := topS 38
theorem sc_earliest : FnScope ["desk", "numbers", "rows", "arrows", "ring"] ["desk", "numbers", "rows"] (defScope s_earliest) := ⟨rfl, rfl, rfl, by decide +kernel, rfl, by decide +kernel, by decide +kernel⟩
theorem ok_d5 (T : Txt2 K mg c RF WT) (D : DefG K mg "earliest" s_earliest ["desk", "numbers", "rows"]) (K_Arr : Mak P w K mg base CX0 3 "Arrows" c.Arr (spArrI c)) (M_Arr_ring : Met P w K mg base CX0 3 c.Arr "ring" (spRing c)) (M_Arr_earliest : Met P w K mg base CX0 2 c.Arr "earliest" (spEarliest c)) (C_listed : Cal P w K mg base CX0 1 "listed" (spListed K)) : Cal P w K mg base (L2.CX P w) 5 "earliest" (spDeed c RF 5) := by
  refine calX D sc_earliest (fun vs H Q E h => deed_len h) (fun f cdv A outer s H vs Q E hr h => ?_)
  obtain ⟨dk, nu, rw', wk, dx, s, ns, rws, rfl, hdk, hw, gd, hn, hrw, sh, h5, qa, qr⟩ := deed_ro h
  obtain ⟨sh1, sh2⟩ := Prod.mk.inj (Option.some.inj sh)
  obtain rfl := nil_of sh1.symm
  obtain rfl := nil_of sh2.symm
  refine ⟨_, (pss_cons (ps_set (i := 3) sc_earliest.nd rfl (.inl rfl) (pe_mk K_Arr hr (by decide) pass0 (by rfl) (pa_cons (pe_f (K := K) rfl (pv 0) rfl) (pa_cons (pe_f (K := K) rfl (pe_f (K := K) rfl (pv 0) rfl) rfl) pa_nil)))) (pss_cons (ps_set (i := 4) sc_earliest.nd rfl (.inl rfl) (pe_mt0 M_Arr_ring hr (by decide) pass0 (pv 3))) (pss_one (ps_ret (pe_ifExp (pt_cmp (pc_isN (pv 4))) (pe_op op_cat (pe_lst (pa_cons pe_int pa_nil)) (pe_mt0 M_Arr_earliest hr (by decide) pass0 (pv 3))) (pe_op op_cat (pe_lst (pa_cons pe_int pa_nil)) (pe_c C_listed hr (by decide) pass0 (by rfl) (pa_cons (pv 4) pa_nil)))))))), ?_⟩
  have g8 : size s ≤ 8 := gd.ops
  have TT := T.toTxt
  have hd : OkDs s s.fixed := gd.fixed
  refine q_asgP (ep_arrows (ev_works TT (ev_var rfl) hdk) hw gd (ep_fixed TT (ev_works TT (ev_var rfl) hdk) hw) hd) fun v H1 e1 ⟨ar, da, r, rs, ev, nar, hAB⟩ => ?_
  subst ev
  by_cases hrf : RingFree (mA s s.fixed) (size s + 1)
  · have hst : Vbwbai.step s [[5]] = (s, 1 :: (TmA s s.fixed).drop 1) := by
      show Vbwbai.ans s (match Vbwbai.earliest s s.fixed with | some t => 1 :: Vbwbai.shownTimes t | none => 0 :: Vbwbai.listed ((Vbwbai.ring s s.fixed).getD [])) = _
      rw [Up.earl_some gd hd hrf]
      rfl
    refine q_asg (v := .non) (ev_noRing (ev_var rfl) hAB.arr (by omega) (Up.ringP_free.mpr hrf)) fun H2 e2 => ?_
    have hB := tail_len (s := s) (ds := s.fixed)
    refine s_retP (ep_if (b := true) (et_isN (ev_var (v := .non) rfl)) (fun _ => ep_cat (xs := [.int 1]) (ys := ((TmA s s.fixed).drop 1).map V.int) (ep_L (el_lst (ea_cons ev_c ea_nil) (by show 1 ≤ 100000; decide))) (ep_L (el_earliest (ev_var rfl) (hAB.arr.same e2) gd hd hrf)) (fun x H4 _ p => newL_is p) (fun x H4 _ p => newL_is p) (by rw [List.length_map, hB]; exact few (by show 1 + _ ≤ _; omega))) (fun z => nomatch z)) fun v H4 e4 ⟨p, ev, np, hp⟩ => ?_
    subst ev
    have e03 := e1.trans e2
    exact qa _ hst p H4 (e03.trans e4) (fresh_back e03 np) hp
  · cases hrg : ringP (mA s s.fixed) (size s + 1) (size s + 1) with
    | none => exact absurd (Up.ringP_free.mp hrg) hrf
    | some l =>
      have ll := ringP_len hrg
      have hst : Vbwbai.step s [[5]] = (s, 0 :: Vbwbai.listed l) := by
        show Vbwbai.ans s (match Vbwbai.earliest s s.fixed with | some t => 1 :: Vbwbai.shownTimes t | none => 0 :: Vbwbai.listed ((Vbwbai.ring s s.fixed).getD [])) = _
        rw [Up.earl_none gd hd hrf, Up.ring_eq, hrg]
        rfl
      refine q_asgL (el_ring (ev_var rfl) hAB.arr (by omega) hrg) fun q H2 nq e2 hq => ?_
      refine s_retP (ep_if (b := false) (et_isN (ev_var (v := .ref q) rfl)) (fun z => nomatch z) fun _ => ep_cat (xs := [.int 0]) (ys := nv l.length :: nodes l) (ep_L (el_lst (ea_cons ev_c ea_nil) (by show 1 ≤ 100000; decide))) (ep_L (fun H4 e4 Q k => ⟨_, rfl, q, nodes l, rfl, e4 _ _ hq, by rw [List.length_map]; omega, fun p H5 e5 np hp => k p H5 np e5 (by rw [hp, List.length_map])⟩)) (fun x H4 _ p => newL_is p) (fun x H4 _ p => newL_is p) (few (by simp only [List.length_cons, List.length_nil, List.length_map]; omega))) fun v H4 e4 ⟨p, ev, np, hp⟩ => ?_
      subst ev
      have e03 := e1.trans e2
      refine qa _ hst p H4 (e03.trans e4) (fresh_back e03 np) ?_
      rw [hp]
      show _ = some (HO.lst (V.int 0 :: V.int _ :: (l.map Vbwbai.int).map V.int))
      rw [List.map_map]
      rfl
/-! ### latest -/
abbrev s_latest : Stmt := topS 39
theorem sc_latest : FnScope ["desk", "numbers", "rows", "arrows"] ["desk", "numbers", "rows"] (defScope s_latest) := ⟨rfl, rfl, rfl, by decide +kernel, rfl, by decide +kernel, by decide +kernel⟩
theorem ok_d6 (T : Txt2 K mg c RF WT) (D : DefG K mg "latest" s_latest ["desk", "numbers", "rows"]) (C_require : Cal P w K mg base (L2.CX P w) 3 "require" (spReq RF)) (K_Arr : Mak P w K mg base CX0 3 "Arrows" c.Arr (spArrI c)) (M_Arr_has_ring : Met P w K mg base CX0 2 c.Arr "has_ring" (spHasRing c)) (M_Arr_end_by : Met P w K mg base CX0 2 c.Arr "end_by" (spEndBy c)) (M_Arr_latest : Met P w K mg base CX0 4 c.Arr "latest" (spLatest c)) : Cal P w K mg base (L2.CX P w) 5 "latest" (spDeed c RF 6) := by
  refine calX D sc_latest (fun vs H Q E h => deed_len h) (fun f cdv A outer s H vs Q E hr h => ?_)
  obtain ⟨dk, nu, rw', wk, dx, s, ns, rws, rfl, hdk, hw, gd, hn, hrw, sh, h5, qa, qr⟩ := deed_ro h
  obtain ⟨sh1, sh2⟩ := Prod.mk.inj (Option.some.inj sh)
  obtain ⟨mi, rfl⟩ := one_of sh1.symm
  obtain rfl := nil_of sh2.symm
  refine ⟨_, (pss_cons (ps_expr (pe_c C_require hr (by decide) (passes_call (takes_of rfl rfl rfl rfl) fun _ _ _ _ q => q) (by rfl) (pa_cons (pe_chain op_le op_le pe_int (pe_ix (ixL (K := K) rfl) (pv 1) pe_int (fun _ _ => rfl)) (C8.pe_gc (by rfl) T.MOST_END)) (pa_cons (pe_un un_neg pe_int) pa_nil)))) (pss_cons (ps_set (i := 3) sc_latest.nd rfl (.inl rfl) (pe_mk K_Arr hr (by decide) pass0 (by rfl) (pa_cons (pe_f (K := K) rfl (pv 0) rfl) (pa_cons (pe_f (K := K) rfl (pe_f (K := K) rfl (pv 0) rfl) rfl) pa_nil)))) (pss_cons (ps_expr (pe_mt M_Arr_end_by hr (by decide) pass0 (pv 3) (pa_cons (pe_ix (ixL (K := K) rfl) (pv 1) pe_int (fun _ _ => rfl)) pa_nil))) (pss_one (ps_ret (pe_ifExp (pt_val (pe_mt0 M_Arr_has_ring hr (by decide) pass0 (pv 3))) (pe_lst (pa_cons pe_int pa_nil)) (pe_op op_cat (pe_lst (pa_cons pe_int pa_nil)) (pe_mt0 M_Arr_latest hr (by decide) pass0 (pv 3))))))))), ?_⟩
  have g8 : size s ≤ 8 := gd.ops
  have TT := T.toTxt
  have hd : OkDs s s.fixed := gd.fixed
  have stepE : Vbwbai.step s [[6, mi]] = if inR mi 0 1000000000000 = false then Vbwbai.ans s [-1] else Vbwbai.ans s (match Vbwbai.latest s s.fixed mi with | some t => 1 :: Vbwbai.shownTimes t | none => [0]) := rfl
  have n0 : ∀ {H' : Hp} {σ : L2.St}, Ex H H' → σ[1]? = some (some (.ref nu)) → Ev (tOp (rIxL K) (tVar 1) (tC (.int 0))) σ H' (.int mi) := fun e hs => ev_op (ev_var hs) ev_c (rv_ixL (.of (e _ _ hn)) (atI_nat (j := 0) rfl))
  refine q_req (b := inR mi 0 1000000000000) (ev_chain (i := 0) (j := mi) (k := 1000000000000) ev_c (n0 (Ex.refl _) rfl) ev_c) (ru_negI ru_neg) (fun hb H1 e1 => ?_) (fun hb => qr (-1) (by rw [stepE, if_pos hb]; rfl))
  rw [stepE, if_neg (by rw [hb]; decide), late_eq gd hd] at qa
  refine q_asgP (ep_arrows (ev_works TT (ev_var rfl) (e1 _ _ hdk)) (hw.same e1) gd (ep_fixed TT (ev_works TT (ev_var rfl) (e1 _ _ hdk)) (hw.same e1)) hd) fun v H2 e2 ⟨ar, da, r, rs, ev, nar, hAB⟩ => ?_
  subst ev
  refine s_endBy hAB (ev_var rfl) (n0 (e1.trans e2) rfl) (hw.same e1) g8 fun H3 sb3 hAB3 => ?_
  have e13 := hAB3.same
  have e03 := e1.trans e13
  refine s_retP (ep_if (P := NewL H3 (((if hasR (mX s (arrows s s.fixed) mi) (size s + 1) = true then [0] else 1 :: (Lt s (arrows s s.fixed) mi (size s + 1)).drop 1) : List Int).map V.int)) (et_test (ev_has (ev_var rfl) hAB3.arr (by omega))) (fun hc => ?_) (fun hc => ?_)) fun v H4 e4 ⟨p, ev, np, hp⟩ => ?_
  · rw [hc, if_pos rfl]
    exact ep_L (el_lst (ea_cons ev_c ea_nil) (by show 1 ≤ 100000; decide))
  · rw [hc, if_neg Bool.false_ne_true]
    have hrf := hasR_no.mp hc
    have hl : (Lt s (arrows s s.fixed) mi (size s + 1)).length = size s + 1 := Up.Lt_len _
    exact ep_cat (xs := [.int 1]) (ys := ((Lt s (arrows s s.fixed) mi (size s + 1)).drop 1).map V.int) (ep_L (el_lst (ea_cons ev_c ea_nil) (by show 1 ≤ 100000; decide))) (ep_L (el_latest (ev_var rfl) hAB3.arr gd hd hrf (hw.same e03))) (fun x H4 _ p => newL_is p) (fun x H4 _ p => newL_is p) (by rw [List.length_map, List.length_drop, hl]; exact few (by show 1 + _ ≤ _; omega))
  · subst ev
    refine qa _ ?_ p H4 (e03.trans e4) (fresh_back e03 np) hp
    cases hc : hasR (mX s (arrows s s.fixed) mi) (size s + 1) <;> rfl
end
end Uw
/-! W19: the deeds chain, best, tree, all_open, clash, slack. -/
namespace Uw
open PySem PySem.Spec PyProof.Rows L2 Evl
open Vbwbai (State Op Link Arrow size opAt numbers open_ okOp inR best arrows at_ endOf okPair bestPlan treeFrom treeOut)
open Up (OkDs Good mA TmA RingFree ringP endAr mX Lt greatF)

section
variable {P : Program} {w : World} {K : PySem.W.Frag} {mg : Str → Option Value} {base : Heap} {c : Ad} {RF WT : Addr}
theorem ev_neE {σ : L2.St} {H : Hp} {ta : TE} {p : Addr} {xs : List V} (ha : Ev ta σ H (.ref p)) (h : SqL K H p xs) : Ev (tOp (rNeE K) ta (tLst tNil)) σ H (.bl (!xs.isEmpty)) := fun H1 e1 Q q =>
  ha H1 e1 _ fun H2 e2 => ⟨Nat.zero_le _, fun n nn => ⟨p, n, xs, rfl, rfl, ex_l ((e1.trans e2).trans (Ex.new nn)) h, .of upd_same, q _ (e2.trans (Ex.new nn))⟩⟩
theorem ev_opsNe {σ : L2.St} {H : Hp} {tw : TE} {wk : Addr} {s : State} (T : Txt K mg c) (h : Ev tw σ H (.ref wk)) (hw : WorksAt c H wk s) : Ev (tOp (rNeE K) (tFld K tw "operations") (tLst tNil)) σ H (.bl (!s.ops.isEmpty)) := by
  obtain ⟨dw, g, o, l, f, os, ls, fs, hW⟩ := hw
  refine ev_is (ev_neE (ev_fld h hW.me T.wk T.wk_operations (wkF_operations ..)) (.of hW.ops)) ?_
  have := hW.opA.1
  cases os <;> cases e : s.ops <;> first | rfl | (rw [e] at this; simp at this)
/-! ### fixed_arrows -/
def spFixedArr (c : Ad) (RF : Addr) : Sp := fun vs H Q E => ∃ (wk : Addr) (s : State), vs = [.ref wk] ∧ WorksAt c H wk s ∧ Good s ∧ (RingFree (mA s s.fixed) (size s + 1) → ∀ a dx r rs H', AB c H H' a dx wk r rs s (arrows s s.fixed) → Q (.ref a) H') ∧ (¬ RingFree (mA s s.fixed) (size s + 1) → Rfz RF H E (-8))
abbrev s_fixed_arrows : Stmt := topS 40
theorem sc_fixed_arrows : FnScope ["works", "found"] ["works"] (defScope s_fixed_arrows) := ⟨rfl, rfl, rfl, by decide +kernel, rfl, by decide +kernel, by decide +kernel⟩
theorem ok_fixed_arrows (T : Txt2 K mg c RF WT) (D : DefG K mg "fixed_arrows" s_fixed_arrows ["works"]) (C_require : Cal P w K mg base (L2.CX P w) 3 "require" (spReq RF)) (K_Arr : Mak P w K mg base CX0 3 "Arrows" c.Arr (spArrI c)) (M_Arr_has_ring : Met P w K mg base CX0 2 c.Arr "has_ring" (spHasRing c)) : Cal P w K mg base (L2.CX P w) 5 "fixed_arrows" (spFixedArr c RF) := by
  refine calX D sc_fixed_arrows (fun vs H Q E h => ?_) (fun f cdv A outer s H vs Q E hr h => ?_)
  · obtain ⟨wk, s, rfl, _⟩ := h
    rfl
  · obtain ⟨wk, s, rfl, hw, gd, q1, q2⟩ := h
    refine ⟨_, (pss_cons (ps_set (i := 1) sc_fixed_arrows.nd rfl (.inl rfl) (pe_mk K_Arr hr (by decide) pass0 (by rfl) (pa_cons (pv 0) (pa_cons (pe_f (K := K) rfl (pv 0) rfl) pa_nil)))) (pss_cons (ps_expr (pe_c C_require hr (by decide) (passes_call (takes_of rfl rfl rfl rfl) fun _ _ _ _ q => q) (by rfl) (pa_cons (pe_not (pe_mt0 M_Arr_has_ring hr (by decide) pass0 (pv 1))) (pa_cons (pe_un un_neg pe_int) pa_nil)))) (pss_one (ps_ret (pv 1))))), ?_⟩
    have g8 : size s ≤ 8 := gd.ops
    have TT := T.toTxt
    refine q_asgP (ep_arrows (ev_var rfl) hw gd (ep_fixed TT (ev_var rfl) hw) gd.fixed) fun v H1 e1 ⟨ar, da, r, rs, ev, nar, hAB⟩ => ?_
    subst ev
    refine q_req (b := !hasR (mA s s.fixed) (size s + 1)) (ev_notV (ev_has (ev_var rfl) hAB.arr (by omega))) (ru_negI ru_neg) (fun hb H2 e2 => ?_) (fun hb => (q2 ((hasR_iff _ _).mp (by simpa using hb))).same e1)
    exact s_ret (ev_var rfl) fun H3 e3 => q1 (hasR_no.mp (by simpa using hb)) ar da r rs H3 (hAB.ext (e2.trans e3))
theorem q_fixedArr {D : Ends} {tz : TS} {σ : L2.St} {H : Hp} {tw : TE} {i : Nat} {E : XK} {wk : Addr} {s : State} (h : Ev tw σ H (.ref wk)) (hw : WorksAt c H wk s) (gd : Good s)
    (k : RingFree (mA s s.fixed) (size s + 1) → ∀ a dx r rs H', AB c H H' a dx wk r rs s (arrows s s.fixed) → tz D (σ.set i (some (.ref a))) H') (q2 : ¬ RingFree (mA s s.fixed) (size s + 1) → Rfz RF H E (-8)) :
    tSeq (tAsg (tCall (spFixedArr c RF) [] E (tCons tw tNil)) (gName i)) tz D σ H :=
  h H (Ex.refl _) _ fun H1 e1 => ⟨wk, s, rfl, hw.same e1, gd, fun rf a dx r rs H' hAB => k rf a dx r rs H' ⟨e1.trans hAB.same, fun b hb => fresh_back e1 (hAB.new b hb), hAB.arr⟩, fun n => (q2 n).same e1⟩
/-- require_few_open(w) -/
theorem q_few {D : Ends} {tz : TS} {σ : L2.St} {H : Hp} {tw : TE} {E : XK} {wk : Addr} {s : State} (h : Ev tw σ H (.ref wk)) (hw : WorksAt c H wk s) (g8 : size s ≤ 8) (k : (open_ s).length ≤ 8 → ∀ H', Ex H H' → tz D σ H') (q2 : 8 < (open_ s).length → Rfz RF H E (-11)) :
    tSeq (tDrop (tCall (spReqFew c RF) [] E (tCons tw tNil))) tz D σ H :=
  h H (Ex.refl _) _ fun H1 e1 => ⟨wk, s, rfl, hw.same e1, g8, fun z H2 e2 => k z H2 (e1.trans e2), fun n => (q2 n).same e1⟩
/-- plan_told(w) -/
theorem ep_plan {σ : L2.St} {H : Hp} {tw : TE} {wk : Addr} {s : State} (h : Ev tw σ H (.ref wk)) (hw : WorksAt c H wk s) (gd : Good s) (ho : (open_ s).length ≤ 8) : EvP (tCall (spPlan c) [] E0 (tCons tw tNil)) σ H (fun v H1 => Found c s H1 v (bestPlan s)) := fun H0 e0 Q k =>
  h H0 e0 _ fun H1 e1 => ⟨wk, s, rfl, hw.same (e0.trans e1), gd, ho, fun v H2 e2 hv => k v H2 (e1.trans e2) hv⟩
/-! ### chain -/
abbrev s_chain : Stmt := topS 41
theorem sc_chain : FnScope ["desk", "numbers", "rows", "works", "arrows"] ["desk", "numbers", "rows"] (defScope s_chain) := ⟨rfl, rfl, rfl, by decide +kernel, rfl, by decide +kernel, by decide +kernel⟩
theorem ok_d7 (T : Txt2 K mg c RF WT) (D : DefG K mg "chain" s_chain ["desk", "numbers", "rows"]) (C_require : Cal P w K mg base (L2.CX P w) 3 "require" (spReq RF)) (C_fixed_arrows : Cal P w K mg base (L2.CX P w) 5 "fixed_arrows" (spFixedArr c RF)) (M_Wk_end_of : Met P w K mg base CX0 1 c.Wk "end_of" (spEndOf (K := K) c)) (M_Arr_chain : Met P w K mg base CX0 3 c.Arr "chain" (spChain c)) (M_Arr_earliest : Met P w K mg base CX0 2 c.Arr "earliest" (spEarliest c)) (C_listed : Cal P w K mg base CX0 1 "listed" (spListed K)) :
    Cal P w K mg base (L2.CX P w) 6 "chain" (spDeed c RF 7) := by
  refine calX D sc_chain (fun vs H Q E h => deed_len h) (fun f cdv A outer s H vs Q E hr h => ?_)
  obtain ⟨dk, nu, rw', wk, dx, s, ns, rws, rfl, hdk, hw, gd, hn, hrw, sh, h5, qa, qr⟩ := deed_ro h
  obtain ⟨sh1, sh2⟩ := Prod.mk.inj (Option.some.inj sh)
  obtain rfl := nil_of sh1.symm
  obtain rfl := nil_of sh2.symm
  refine ⟨_, (pss_cons (ps_set (i := 3) sc_chain.nd rfl (.inl rfl) (pe_f (K := K) rfl (pv 0) rfl)) (pss_cons (ps_expr (pe_c C_require hr (by decide) (passes_call (takes_of rfl rfl rfl rfl) fun _ _ _ _ q => q) (by rfl) (pa_cons (pe_cmpR (op_neE hr.units0) (pe_f (K := K) rfl (pv 3) rfl) (pe_lst pa_nil) (nomark _)) (pa_cons (pe_un un_neg pe_int) pa_nil)))) (pss_cons (ps_set (i := 4) sc_chain.nd rfl (.inl rfl) (pe_c C_fixed_arrows hr (by decide) (passes_call (takes_of rfl rfl rfl rfl) fun _ _ _ _ q => q) (by rfl) (pa_cons (pv 3) pa_nil))) (pss_one (ps_ret (pe_op op_cat (pe_lst (pa_cons (pe_mt M_Wk_end_of hr (by decide) pass0 (pv 3) (pa_cons (pe_mt0 M_Arr_earliest hr (by decide) pass0 (pv 4)) pa_nil)) pa_nil)) (pe_c C_listed hr (by decide) pass0 (by rfl) (pa_cons (pe_mt0 M_Arr_chain hr (by decide) pass0 (pv 4)) pa_nil)))))))), ?_⟩
  have g8 : size s ≤ 8 := gd.ops
  have TT := T.toTxt
  have hd : OkDs s s.fixed := gd.fixed
  have stepE : Vbwbai.step s [[7]] = Vbwbai.ans s (if s.ops.isEmpty = true then [-8] else match Vbwbai.earliest s s.fixed with | none => [-8] | some t => endOf s t :: Vbwbai.listed (Vbwbai.chain s s.fixed t)) := rfl
  refine q_asg (ev_works TT (ev_var rfl) hdk) fun H1 e1 => ?_
  have hw1 := hw.same e1
  refine q_req (b := !s.ops.isEmpty) (ev_opsNe TT (ev_var rfl) hw1) (ru_negI ru_neg) (fun hb H2 e2 => ?_) (fun hb => (qr (-8) (by rw [stepE, if_pos (by simpa using hb)]; rfl)).same e1)
  have hb' : s.ops.isEmpty = false := by simpa using hb
  have hne : 0 < size s := by
    show 0 < s.ops.length
    cases e : s.ops with
    | nil => rw [e] at hb'; cases hb'
    | cons a r => exact Nat.zero_lt_succ _
  refine q_fixedArr (ev_var rfl) (hw1.same e2) gd (fun hrf ar da r rs H3 hAB => ?_) (fun hno => (qr (-8) (by rw [stepE, if_neg (by rw [hb']; decide), Up.earl_none gd hd hno]; rfl)).same (e1.trans e2))
  have et := times_cons gd hd hrf
  have hB := tail_len (s := s) (ds := s.fixed)
  have e03 := (e1.trans e2).trans hAB.same
  have hst : Vbwbai.step s [[7]] = (s, endOf s (TmA s s.fixed) :: Vbwbai.listed (Vbwbai.chain s s.fixed (TmA s s.fixed))) := by
    rw [stepE, if_neg (by rw [hb']; decide), Up.earl_some gd hd hrf]
    rfl
  have cl := chain_len gd hd hrf hne
  refine s_retP (ep_cat (xs := [.int (endOf s (TmA s s.fixed))]) (ys := nv (Vbwbai.chain s s.fixed (TmA s s.fixed)).length :: nodes (Vbwbai.chain s s.fixed (TmA s s.fixed)))
    (ep_L (el_lst (ea_cons (ev_is (ev_endOf (ev_var rfl) (hw.same e03) g8 ((ep_L (el_earliest (ev_var rfl) hAB.arr gd hd hrf)).imp fun v H4 _ ⟨b, ev, _, hb⟩ => ⟨b, ev, .of hb⟩) hB) (by rw [← et])) ea_nil) (by show 1 ≤ 100000; decide)))
    (ep_L (el_is (el_listed (el_chain (ev_var rfl) hAB.arr gd hd hrf hne (hw.same e03)) (by rw [List.length_map]; omega)) (by rw [List.length_map]))) (fun x H4 _ p => newL_is p) (fun x H4 _ p => newL_is p) (few (by simp only [List.length_cons, List.length_nil, List.length_map]; omega))) fun v H4 e4 ⟨p, ev, np, hp⟩ => ?_
  subst ev
  refine qa _ hst p H4 (e03.trans e4) (fresh_back e03 np) ?_
  rw [hp]
  show _ = some (HO.lst (V.int _ :: V.int _ :: ((Vbwbai.chain s s.fixed (TmA s s.fixed)).map Vbwbai.int).map V.int))
  rw [List.map_map]
  rfl
/-! ### best -/
theorem pairsV_eq (ps : List (Nat × Nat)) : pairsV ps = (Vbwbai.pairsOut ps).map V.int := by
  unfold pairsV Vbwbai.pairsOut
  rw [List.map_cons, List.map_flatMap]
  rfl
theorem pairsV_len (ps : List (Nat × Nat)) : (pairsV ps).length = 2 * ps.length + 1 := by
  unfold pairsV
  rw [List.length_cons, pair_len]
theorem withPlan_many {s : State} {f : Int × List Int × List (Nat × Nat) → List Int} (h : 8 < (open_ s).length) : Vbwbai.withPlan s f = (s, [-11]) := if_pos h
theorem withPlan_none {s : State} {f : Int × List Int × List (Nat × Nat) → List Int} (h : (open_ s).length ≤ 8) (e : bestPlan s = none) : Vbwbai.withPlan s f = (s, [0]) := by
  unfold Vbwbai.withPlan
  rw [if_neg (by show ¬ 8 < _; omega), e]
  rfl
theorem withPlan_some {s : State} {f : Int × List Int × List (Nat × Nat) → List Int} (h : (open_ s).length ≤ 8) {x : Int × List Int × List (Nat × Nat)} (e : bestPlan s = some x) : Vbwbai.withPlan s f = (s, f x) := by
  unfold Vbwbai.withPlan
  rw [if_neg (by show ¬ 8 < _; omega), e]
  rfl
abbrev s_best : Stmt := topS 42
theorem sc_best : FnScope ["desk", "numbers", "rows", "plan"] ["desk", "numbers", "rows"] (defScope s_best) := ⟨rfl, rfl, rfl, by decide +kernel, rfl, by decide +kernel, by decide +kernel⟩
theorem ok_d8 (T : Txt2 K mg c RF WT) (D : DefG K mg "best" s_best ["desk", "numbers", "rows"]) (C_require_few_open : Cal P w K mg base (L2.CX P w) 5 "require_few_open" (spReqFew c RF)) (C_plan_told : Cal P w K mg base CX0 5 "plan_told" (spPlan c)) (C_told_pairs : Cal P w K mg base CX0 1 "told_pairs" (spTold c)) :
    Cal P w K mg base (L2.CX P w) 6 "best" (spDeed c RF 8) := by
  refine calX D sc_best (fun vs H Q E h => deed_len h) (fun f cdv A outer s H vs Q E hr h => ?_)
  obtain ⟨dk, nu, rw', wk, dx, s, ns, rws, rfl, hdk, hw, gd, hn, hrw, sh, h5, qa, qr⟩ := deed_ro h
  obtain ⟨sh1, sh2⟩ := Prod.mk.inj (Option.some.inj sh)
  obtain rfl := nil_of sh1.symm
  obtain rfl := nil_of sh2.symm
  refine ⟨_, (pss_cons (ps_expr (pe_c C_require_few_open hr (by decide) (passes_call (takes_of rfl rfl rfl rfl) fun _ _ _ _ q => q) (by rfl) (pa_cons (pe_f (K := K) rfl (pv 0) rfl) pa_nil))) (pss_cons (ps_set (i := 3) sc_best.nd rfl (.inl rfl) (pe_c C_plan_told hr (by decide) pass0 (by rfl) (pa_cons (pe_f (K := K) rfl (pv 0) rfl) pa_nil))) (pss_one (ps_ret (pe_ifExp (pt_cmp (pc_isN (pv 3))) (pe_lst (pa_cons pe_int pa_nil)) (pe_op op_cat (pe_op op_cat (pe_lst (pa_cons pe_int (pa_cons (pe_f (K := K) rfl (pv 3) rfl) pa_nil))) (pe_f (K := K) rfl (pv 3) rfl)) (pe_c C_told_pairs hr (by decide) pass0 (by rfl) (pa_cons (pe_f (K := K) rfl (pv 3) rfl) pa_nil)))))))), ?_⟩
  have g8 : size s ≤ 8 := gd.ops
  have TT := T.toTxt
  have stepE : Vbwbai.step s [[8]] = Vbwbai.withPlan s fun x => 1 :: x.1 :: (Vbwbai.shownTimes x.2.1 ++ Vbwbai.pairsOut (x.2.2.drop s.fixed.length)) := rfl
  refine q_few (ev_works TT (ev_var rfl) hdk) hw g8 (fun ho H1 e1 => ?_) (fun hm => qr (-11) (by rw [stepE, withPlan_many hm]))
  refine q_asgP (ep_plan (ev_works TT (ev_var rfl) (e1 _ _ hdk)) (hw.same e1) gd ho) fun v H2 e2 hv => ?_
  have e02 := e1.trans e2
  cases hbp : bestPlan s with
  | none =>
    rw [hbp] at hv
    obtain rfl : v = .non := hv
    refine s_retP (ep_if (b := true) (et_isN (ev_var (v := .non) rfl)) (fun _ => ep_L (el_lst (ea_cons ev_c ea_nil) (by show 1 ≤ 100000; decide))) (fun z => nomatch z)) fun v H4 e4 ⟨p, ev, np, hp⟩ => ?_
    subst ev
    exact qa [0] (by rw [stepE, withPlan_none ho hbp]) p H4 (e02.trans e4) (fresh_back e02 np) hp
  | some x =>
    obtain ⟨e, t, ds⟩ := x
    rw [hbp] at hv
    obtain ⟨p0, w0, rfl, rfl, ok0, wl0, rf0, ht0, he0, dx0, b0, q0, hp0, hb0, hq0⟩ := hv
    have tl := tail_len (s := s) (ds := s.fixed ++ w0)
    rw [← ht0] at tl
    refine s_retP (ep_if (b := false) (et_isN (ev_var (v := .ref p0) rfl)) (fun z => nomatch z) fun _ => ep_cat (xs := [.int 1, .int e] ++ (t.drop 1).map V.int) (ys := pairsV w0) (ep_cat (ep_L (el_lst (ea_cons ev_c (ea_cons (ev_fld (ev_var rfl) hp0 T.pl T.pl_end lk_here) ea_nil)) (by show 2 ≤ 100000; decide)))
        (ep_val (ev_fld (ev_var rfl) hp0 T.pl T.pl_begins ((lk_past (by decide +kernel)).trans lk_here))) (fun x H4 _ p => newL_is p) (fun x H4 e4 p => val_is hb0 e4 p) (few (by simp only [List.length_cons, List.length_nil, List.length_map]; omega)))
      (ep_L (el_told (fun H4 e4 Q k => (ev_fld (ev_var rfl) hp0 T.pl T.pl_orders ((lk_past (by decide +kernel)).trans ((lk_past (by decide +kernel)).trans lk_here))) H4 e4 _ fun H5 e5 => k _ H5 e5 ⟨q0, rfl, hq0.same (e4.trans e5)⟩) (by omega))) (fun x H4 _ p => newL_is p) (fun x H4 _ p => newL_is p) (few (by rw [pairsV_len]; simp only [List.length_append, List.length_cons, List.length_nil, List.length_map]; omega))) fun v H4 e4 ⟨p, ev, np, hp⟩ => ?_
    subst ev
    refine qa (1 :: e :: (t.drop 1 ++ Vbwbai.pairsOut w0)) (by rw [stepE, withPlan_some ho hbp]; show (s, 1 :: e :: (Vbwbai.shownTimes t ++ Vbwbai.pairsOut ((s.fixed ++ w0).drop s.fixed.length))) = _; rw [List.drop_left]; rfl) p H4 (e02.trans e4) (fresh_back e02 np) ?_
    rw [hp, pairsV_eq]
    simp
/-! ### tree -/
abbrev s_tree : Stmt := topS 43
theorem sc_tree : FnScope ["desk", "numbers", "rows", "works", "plan"] ["desk", "numbers", "rows"] (defScope s_tree) := ⟨rfl, rfl, rfl, by decide +kernel, rfl, by decide +kernel, by decide +kernel⟩
theorem ok_d9 (T : Txt2 K mg c RF WT) (D : DefG K mg "tree" s_tree ["desk", "numbers", "rows"]) (C_require : Cal P w K mg base (L2.CX P w) 3 "require" (spReq RF)) (C_require_few_open : Cal P w K mg base (L2.CX P w) 5 "require_few_open" (spReqFew c RF)) (C_plan_told : Cal P w K mg base CX0 5 "plan_told" (spPlan c)) (M_Wk_open_pairs : Met P w K mg base CX0 4 c.Wk "open_pairs" (spOpenPairs c)) (C_tree_told : Cal P w K mg base CX0 13 "tree_told" (spTree c 9)) :
    Cal P w K mg base (L2.CX P w) 14 "tree" (spDeed c RF 9) := by
  refine calX D sc_tree (fun vs H Q E h => deed_len h) (fun f cdv A outer s H vs Q E hr h => ?_)
  obtain ⟨dk, nu, rw', wk, dx, s, ns, rws, rfl, hdk, hw, gd, hn, hrw, sh, h5, qa, qr⟩ := deed_ro h
  obtain ⟨sh1, sh2⟩ := Prod.mk.inj (Option.some.inj sh)
  obtain rfl := nil_of sh1.symm
  obtain rfl := nil_of sh2.symm
  refine ⟨_, (pss_cons (ps_set (i := 3) sc_tree.nd rfl (.inl rfl) (pe_f (K := K) rfl (pv 0) rfl)) (pss_cons (ps_expr (pe_c C_require hr (by decide) (passes_call (takes_of rfl rfl rfl rfl) fun _ _ _ _ q => q) (by rfl) (pa_cons (pe_cmpR (op_neE hr.units0) (pe_f (K := K) rfl (pv 3) rfl) (pe_lst pa_nil) (nomark _)) (pa_cons (pe_un un_neg pe_int) pa_nil)))) (pss_cons (ps_expr (pe_c C_require_few_open hr (by decide) (passes_call (takes_of rfl rfl rfl rfl) fun _ _ _ _ q => q) (by rfl) (pa_cons (pv 3) pa_nil))) (pss_cons (ps_set (i := 4) sc_tree.nd rfl (.inl rfl) (pe_c C_plan_told hr (by decide) pass0 (by rfl) (pa_cons (pv 3) pa_nil))) (pss_one (ps_ret (pe_c C_tree_told hr (by decide) pass0 (by rfl) (pa_cons (pv 3) (pa_cons (pe_ifExp (pt_cmp (pc_isN (pv 4))) pe_non (pe_f (K := K) rfl (pv 4) rfl)) (pa_cons (pe_f (K := K) rfl (pv 3) rfl) (pa_cons (pe_mt0 M_Wk_open_pairs hr (by decide) pass0 (pv 3)) pa_nil))))))))))), ?_⟩
  have g8 : size s ≤ 8 := gd.ops
  have TT := T.toTxt
  have stepE : Vbwbai.step s [[9]] = if s.ops.isEmpty = true then Vbwbai.ans s [-8] else if 8 < (open_ s).length then Vbwbai.ans s [-11] else Vbwbai.ans s (treeOut (treeFrom s ((bestPlan s).map fun x => x.1) (open_ s) s.fixed)) := rfl
  refine q_asg (ev_works TT (ev_var rfl) hdk) fun H1 e1 => ?_
  have hw1 := hw.same e1
  refine q_req (b := !s.ops.isEmpty) (ev_opsNe TT (ev_var rfl) hw1) (ru_negI ru_neg) (fun hb H2 e2 => ?_) (fun hb => (qr (-8) (by rw [stepE, if_pos (by simpa using hb)]; rfl)).same e1)
  have hb' : s.ops.isEmpty = false := by simpa using hb
  have hne : 0 < size s := by
    show 0 < s.ops.length
    cases e : s.ops with
    | nil => rw [e] at hb'; cases hb'
    | cons a r => exact Nat.zero_lt_succ _
  have e12 := e1.trans e2
  refine q_few (ev_var rfl) (hw.same e12) g8 (fun ho H3 e3 => ?_) (fun hm => (qr (-11) (by rw [stepE, if_neg (by rw [hb']; decide), if_pos hm]; rfl)).same e12)
  have e13 := e12.trans e3
  refine q_asgP (ep_plan (ev_var rfl) (hw.same e13) gd ho) fun v H4 e4 hv => ?_
  have e14 := e13.trans e4
  have fl := Up.fixed_few gd
  have key : Ev (tIf (tB (tIsN (tVar 4))) (tC .non) (tFld K (tVar 4) "end")) [some (.ref dk), some (.ref nu), some (.ref rw'), some (.ref wk), some v] H4 (ov ((bestPlan s).map fun x => x.1)) := by
    cases hbp : bestPlan s with
    | none =>
      rw [hbp] at hv
      obtain rfl : v = .non := hv
      exact ev_if (b := true) (et_isN (ev_var (v := .non) rfl)) (fun _ => ev_c) (fun z => nomatch z)
    | some x =>
      obtain ⟨e, t, ds⟩ := x
      rw [hbp] at hv
      obtain ⟨p0, w0, rfl, rfl, ok0, wl0, rf0, ht0, he0, dx0, b0, q0, hp0, hb0, hq0⟩ := hv
      exact ev_if (b := false) (et_isN (ev_var (v := .ref p0) rfl)) (fun z => nomatch z) fun _ => ev_fld (ev_var rfl) hp0 T.pl T.pl_end lk_here
  refine s_retL (el_tree (c := c) (s := s) (ev_var rfl) key (ep_fixed TT (ev_var rfl) (hw.same e14)) (ep_open (ev_var rfl) (hw.same e14) g8) (hw.same e14) gd hne gd.fixed (Up.open_ok s) (by omega) (by omega) ho) fun p H5 np e5 hp => ?_
  refine qa (treeOut (treeFrom s ((bestPlan s).map fun x : Int × List Int × List (Nat × Nat) => x.1) (open_ s) s.fixed)) (by rw [stepE, if_neg (by rw [hb']; decide), if_neg (by omega)]; rfl) p H5 (e14.trans e5) (fresh_back e14 np) hp
/-! ### all_open -/
abbrev s_all_open : Stmt := topS 50
theorem sc_all_open : FnScope ["desk", "numbers", "rows"] ["desk", "numbers", "rows"] (defScope s_all_open) := ⟨rfl, rfl, rfl, by decide +kernel, rfl, by decide +kernel, by decide +kernel⟩
theorem ok_d12 (T : Txt2 K mg c RF WT) (D : DefG K mg "all_open" s_all_open ["desk", "numbers", "rows"]) (M_Wk_open_pairs : Met P w K mg base CX0 4 c.Wk "open_pairs" (spOpenPairs c)) (C_told_pairs : Cal P w K mg base CX0 1 "told_pairs" (spTold c)) : Cal P w K mg base (L2.CX P w) 5 "all_open" (spDeed c RF 12) := by
  refine calX D sc_all_open (fun vs H Q E h => deed_len h) (fun f cdv A outer s H vs Q E hr h => ?_)
  obtain ⟨dk, nu, rw', wk, dx, s, ns, rws, rfl, hdk, hw, gd, hn, hrw, sh, h5, qa, qr⟩ := deed_ro h
  obtain ⟨sh1, sh2⟩ := Prod.mk.inj (Option.some.inj sh)
  obtain rfl := nil_of sh1.symm
  obtain rfl := nil_of sh2.symm
  refine ⟨_, (pss_one (ps_ret (pe_c C_told_pairs hr (by decide) pass0 (by rfl) (pa_cons (pe_mt0 M_Wk_open_pairs hr (by decide) pass0 (pe_f (K := K) rfl (pv 0) rfl)) pa_nil)))), ?_⟩
  have g8 : size s ≤ 8 := gd.ops
  have TT := T.toTxt
  have of := open_few g8
  refine s_retL (el_told (ep_open (ev_works TT (ev_var rfl) hdk) hw g8) (by omega)) fun p H1 np e1 hp => ?_
  refine qa (Vbwbai.pairsOut (open_ s)) rfl p H1 e1 np ?_
  rw [hp, pairsV_eq]
end
end Uw
/-! W20: clashes; the deeds clash, slack, told. -/
namespace Uw
open PySem PySem.Spec PyProof.Rows L2 Evl
open Vbwbai (State Op Link Arrow size opAt numbers open_ okOp inR best arrows at_ endOf okPair bestPlan)
open Up (OkDs Good mA TmA RingFree endAr mX Lt greatF)

section
variable {P : Program} {w : World} {K : PySem.W.Frag} {mg : Str → Option Value} {base : Heap} {c : Ad} {RF WT : Addr}
theorem bat_get {s : State} {B : List Int} {i : Nat} (hB : B.length = size s) (h : 0 < i ∧ i < size s + 1) : (B.map V.int)[i - 1]? = some (.int (at_ (0 :: B) i)) := by
  have hi : i - 1 < B.length := by omega
  rw [List.getElem?_map, List.getElem?_eq_getElem hi]
  unfold at_
  rw [List.getD_eq_getElem?_getD]
  have : (0 :: B)[i]? = some B[i - 1] := by
    obtain ⟨k, rfl⟩ : ∃ k, i = k + 1 := ⟨i - 1, by omega⟩
    rw [List.getElem?_cons_succ]
    exact List.getElem?_eq_getElem hi
  rw [this]
  rfl
/-- begins[i - 1] -/
theorem ev_bat {σ : L2.St} {H : Hp} {tb ti : TE} {b : Addr} {s : State} {B : List Int} {i : Nat} (hb : Ev tb σ H (.ref b)) (hS : SqL K H b (B.map V.int)) (hB : B.length = size s) (hi : Ev ti σ H (nv i)) (h : 0 < i ∧ i < size s + 1) :
    Ev (tOp (rIxL K) tb (tOp (rI0 fun i j => .int (i - j)) ti (tC (.int 1)))) σ H (.int (at_ (0 :: B) i)) :=
  ev_op hb (ev_op hi ev_c rv_I0) (rv_ixL hS (at_of (by show (i : Int) - 1 = ((i - 1 : Nat) : Int); omega) (bat_get hB h)))
def spOrd (K : PySem.W.Frag) (c : Ad) : Sp := fun vs H Q _ => ∃ (wk b : Addr) (s : State) (B : List Int) (i j : Nat), vs = [.ref wk, .ref b, nv i, nv j] ∧ WorksAt c H wk s ∧ Good s ∧ SqL K H b (B.map V.int) ∧ B.length = size s ∧ (0 < i ∧ i < size s + 1) ∧ (0 < j ∧ j < size s + 1) ∧ RV' (.bl (okPair s (0 :: B) i j)) H Q
abbrev s_is_order_kept : Stmt := topS 46
theorem sc_is_order_kept : FnScope ["works", "begins", "first", "second"] ["works", "begins", "first", "second"] (defScope s_is_order_kept) := ⟨rfl, rfl, rfl, by decide +kernel, rfl, by decide +kernel, by decide +kernel⟩
theorem ok_is_order_kept (T : Txt K mg c) (D : DefG K mg "is_order_kept" s_is_order_kept ["works", "begins", "first", "second"]) (M_Wk_distance : Met P w K mg base CX0 2 c.Wk "distance" (spDistance c)) : Cal P w K mg base CX0 3 "is_order_kept" (spOrd K c) := by
  refine cal0 D sc_is_order_kept (fun vs H Q E h => ?_) (fun f cdv A outer s H vs Q E hr h => ?_)
  · obtain ⟨wk, b, s, B, i, j, rfl, _⟩ := h
    rfl
  · obtain ⟨wk, b, s, B, i, j, rfl, ⟨dw, g, o, l, f', os, ls, fs, hW⟩, gd, hS, hB, hi, hj, q⟩ := h
    refine ⟨_, (pss_one (ps_ret (pe_cmpR op_ge (pe_ix (ixL (K := K) rfl) (pv 1) (pe_op op_sub (pv 3) pe_int) (fun _ _ => rfl)) (pe_op op_add (pe_ix (ixL (K := K) rfl) (pv 1) (pe_op op_sub (pv 2) pe_int) (fun _ _ => rfl)) (pe_mt M_Wk_distance hr (by decide) pass0 (pv 0) (pa_cons (pv 2) pa_nil))) (nomark _)))), ?_⟩
    refine s_ret (v := .bl (okPair s (0 :: B) i j)) (ev_is (ev_op (ev_bat (ev_var rfl) hS hB (ev_var rfl) hj) (ev_op (ev_bat (ev_var rfl) hS hB (ev_var rfl) hi) (ev_wdist (ev_var rfl) hW gd (ev_var rfl) hi) rv_I0) rv_I0) ?_) q
    refine congrArg V.bl ?_
    unfold okPair Vbwbai.ended
    rw [Bool.eq_iff_iff, decide_eq_true_iff, decide_eq_true_iff]
    unfold distI Vbwbai.int
    simp only [Int.ofNat_eq_natCast, Int.natCast_add]
    omega
theorem ev_ord {σ : L2.St} {H : Hp} {t0 t1 t2 t3 : TE} {wk b : Addr} {s : State} {B : List Int} {i j : Nat} (h0 : Ev t0 σ H (.ref wk)) (hw : WorksAt c H wk s) (gd : Good s) (h1 : Ev t1 σ H (.ref b)) (hS : SqL K H b (B.map V.int)) (hB : B.length = size s) (h2 : Ev t2 σ H (nv i)) (h3 : Ev t3 σ H (nv j)) (hi : 0 < i ∧ i < size s + 1) (hj : 0 < j ∧ j < size s + 1) :
    Ev (tCall (spOrd K c) [] E0 (tCons t0 (tCons t1 (tCons t2 (tCons t3 tNil))))) σ H (.bl (okPair s (0 :: B) i j)) :=
  ev_call' (ea_cons h0 (ea_cons h1 (ea_cons h2 (ea_cons h3 ea_nil)))) fun H1 e1 Q q E => ⟨wk, b, s, B, i, j, rfl, hw.same e1, gd, ex_l e1 hS, hB, hi, hj, q⟩
def clashP (s : State) (B : List Int) (p : Nat × Nat) : Bool := !(okPair s (0 :: B) p.1 p.2) && !(okPair s (0 :: B) p.2 p.1)
def spClash (K : PySem.W.Frag) (c : Ad) : Sp := fun vs H Q _ => ∃ (wk b p : Addr) (s : State) (B : List Int) (ps : List (Nat × Nat)), vs = [.ref wk, .ref b, .ref p] ∧ WorksAt c H wk s ∧ Good s ∧ SqL K H b (B.map V.int) ∧ B.length = size s ∧ PairsAt H p ps ∧ OkDs s ps ∧ ps.length ≤ 200 ∧
  ∀ q H', Ex H H' → PairsAt H' q (ps.filter (clashP s B)) → Q (.ref q) H'
abbrev s_clashes_of : Stmt := topS 48
theorem sc_clashes_of : FnScope ["works", "begins", "pairs", "found", "first", "second"] ["works", "begins", "pairs"] (defScope s_clashes_of) := ⟨rfl, rfl, rfl, by decide +kernel, rfl, by decide +kernel, by decide +kernel⟩
theorem ok_clashes_of (T : Txt K mg c) (D : DefG K mg "clashes_of" s_clashes_of ["works", "begins", "pairs"]) (C_is_order_kept : Cal P w K mg base CX0 3 "is_order_kept" (spOrd K c)) : Cal P w K mg base CX0 4 "clashes_of" (spClash K c) := by
  refine cal0 D sc_clashes_of (fun vs H Q E h => ?_) (fun f cdv A outer s H vs Q E hr h => ?_)
  · obtain ⟨wk, b, p, s, B, ps, rfl, _⟩ := h
    rfl
  · obtain ⟨wk, b, p, s, B, ps, rfl, hw, gd, hS, hB, ⟨as, hp, hA⟩, ok, hl, q⟩ := h
    refine ⟨_, (pss_cons (ps_set (i := 3) sc_clashes_of.nd rfl (.inl rfl) (pe_lst pa_nil)) (pss_cons (ps_for PassesOwn.never rfl (pi_list (pv 2)) (pg_t (K := K) rfl rfl (pgs_cons (pg_name (i := 4) sc_clashes_of.nd rfl (.inl rfl)) (pgs_cons (pg_name (i := 5) sc_clashes_of.nd rfl (.inl rfl)) pgs_nil))) (pss_one (ps_if (PW.pt (pw_and (pt_not (pt_val (pe_c C_is_order_kept hr (by decide) pass0 (by rfl) (pa_cons (pv 0) (pa_cons (pv 1) (pa_cons (pv 4) (pa_cons (pv 5) pa_nil))))))) (pw_and1 (pt_not (pt_val (pe_c C_is_order_kept hr (by decide) pass0 (by rfl) (pa_cons (pv 0) (pa_cons (pv 1) (pa_cons (pv 5) (pa_cons (pv 4) pa_nil)))))))))) (pss_one (ps_expr (pe_bm PySem.F.plainAttrs_list PySem.F.slot_list_append PySem.F.type_list_append mt_append (pv 3) (pa_cons (pe_tup (pa_cons (pv 4) (pa_cons (pv 5) pa_nil))) pa_nil)))) pss_nil))) (pss_one (ps_ret (pv 3))))), ?_⟩
    refine q_asgL (xs := []) (el_lst ea_nil (Nat.zero_le _)) fun fd H1 nfd e1 hfd => ?_
    refine q_forL (a := p) (xs := rf as) (ev_var rfl) (.of (e1 _ _ hp)) (fun k σ H2 => ∃ v4 v5 bs, σ = [some (.ref wk), some (.ref b), some (.ref p), some (.ref fd), v4, v5] ∧ Ex H H2 ∧ H2 fd = some (.lst (rf bs)) ∧ All2 (PairAt H2) bs ((ps.take k).filter (clashP s B)))
      (fun H2 e2 => ⟨none, none, [], rfl, e1.trans e2, e2 _ _ hfd, All2.nil⟩) (fun k σ H2 _ ⟨_, _, _, _, e2, _⟩ => .of (e2 _ _ hp)) ?_ ?_
    · rintro k x σ H2 hx ⟨v4, v5, bs, rfl, e2, hf, hB2⟩
      obtain ⟨t, ht, rfl⟩ := rf_get' hx
      obtain ⟨pr, ep, hpr⟩ := hA.at' ht
      have hpm := ok pr (List.mem_of_getElem? ep)
      refine g_pair (e2 _ _ hpr) ?_
      rw [take_more ep, List.filter_append]
      refine s_when (b := clashP s B pr) (et_and (et_not (et_test (ev_ord (ev_var rfl) (hw.same e2) gd (ev_var rfl) (ex_l e2 hS) hB (ev_var rfl) (ev_var rfl) hpm.1 hpm.2))) fun _ => et_not (et_test (ev_ord (ev_var rfl) (hw.same e2) gd (ev_var rfl) (ex_l e2 hS) hB (ev_var rfl) (ev_var rfl) hpm.2 hpm.1))) (fun hb H3 e3 => ?_) (fun hb H3 e3 => ?_)
      · have hk : k < ps.length := (List.getElem?_eq_some_iff.mp ep).1
        have bl : bs.length ≤ 200 := by
          rw [hB2.1]
          have := List.length_filter_le (clashP s B) (ps.take k)
          rw [List.length_take] at this
          omega
        refine s_appU (e3 _ _ hf) (ev_var rfl) (eu_tup (ea_cons (ev_var rfl) (ea_cons (ev_var rfl) ea_nil)) (by show 2 ≤ 100000; decide)) (by rw [List.length_map]; omega) fun u H4 nu e4 hu => ⟨_, _, bs ++ [u], rfl, Ex.mut ((e2.trans e3).trans e4) nfd, by rw [upd_same]; simp [rf], ?_⟩
        have hf4 := (e3.trans e4) _ _ hf
        rw [List.filter_cons_of_pos hb, List.filter_nil]
        refine (hB2.mono fun z u' hz hu' => ?_).snoc ?_
        · have h6 := (e3.trans e4) _ _ (show H2 z = _ from hu')
          show upd H4 fd _ z = _
          rw [upd_ne (ne_of h6 hf4 (by intro q; cases q))]
          exact h6
        · show upd H4 fd _ u = _
          rw [upd_ne (ne_of hu hf4 (by intro q; cases q))]
          exact hu
      · rw [List.filter_cons_of_neg (by rw [hb]; exact Bool.false_ne_true), List.filter_nil, List.append_nil]
        exact ⟨_, _, bs, rfl, e2.trans e3, e3 _ _ hf, hB2.mono fun z u _ hu => e3 _ _ hu⟩
    · rintro σ H2 ⟨v4, v5, bs, rfl, e2, hf, hB2⟩
      rw [List.length_map, hA.1, List.take_length] at hB2
      exact s_ret (ev_var rfl) fun H3 e3 => q fd H3 (e2.trans e3) ⟨bs, e3 _ _ hf, hB2.mono fun z u _ hu => e3 _ _ hu⟩
theorem ep_clash {σ : L2.St} {H : Hp} {t0 t1 t2 : TE} {wk : Addr} {s : State} {B : List Int} {ps : List (Nat × Nat)} (h0 : Ev t0 σ H (.ref wk)) (hw : WorksAt c H wk s) (gd : Good s) (h1 : EvP t1 σ H (fun v H1 => ∃ b, v = .ref b ∧ SqL K H1 b (B.map V.int))) (hB : B.length = size s) (h2 : EvP t2 σ H (fun v H1 => ∃ p, v = .ref p ∧ PairsAt H1 p ps)) (ok : OkDs s ps) (hl : ps.length ≤ 200) :
    EvP (tCall (spClash K c) [] E0 (tCons t0 (tCons t1 (tCons t2 tNil)))) σ H (fun v H1 => ∃ p, v = .ref p ∧ PairsAt H1 p (ps.filter (clashP s B))) := fun H0 e0 Q k => by
  unfold tCall
  refine h0 H0 e0 _ fun H1 e1 => h1 H1 (e0.trans e1) _ fun v H2 e2 ⟨b, ev, hS⟩ => h2 H2 ((e0.trans e1).trans e2) _ fun v' H3 e3 ⟨p, ev', hp⟩ => ?_
  subst ev
  subst ev'
  exact ⟨wk, b, p, s, B, ps, rfl, hw.same (((e0.trans e1).trans e2).trans e3), gd, ex_l e3 hS, hB, hp, ok, hl, fun q H4 e4 hq => k _ H4 (((e1.trans e2).trans e3).trans e4) ⟨q, rfl, hq⟩⟩
/-! ### clash -/
abbrev s_clash : Stmt := topS 51
theorem sc_clash : FnScope ["desk", "numbers", "rows", "works", "arrows"] ["desk", "numbers", "rows"] (defScope s_clash) := ⟨rfl, rfl, rfl, by decide +kernel, rfl, by decide +kernel, by decide +kernel⟩
theorem ok_d13 (T : Txt2 K mg c RF WT) (D : DefG K mg "clash" s_clash ["desk", "numbers", "rows"]) (C_fixed_arrows : Cal P w K mg base (L2.CX P w) 5 "fixed_arrows" (spFixedArr c RF)) (C_clashes_of : Cal P w K mg base CX0 4 "clashes_of" (spClash K c)) (M_Arr_earliest : Met P w K mg base CX0 2 c.Arr "earliest" (spEarliest c)) (M_Wk_open_pairs : Met P w K mg base CX0 4 c.Wk "open_pairs" (spOpenPairs c)) (C_told_pairs : Cal P w K mg base CX0 1 "told_pairs" (spTold c)) :
    Cal P w K mg base (L2.CX P w) 6 "clash" (spDeed c RF 13) := by
  refine calX D sc_clash (fun vs H Q E h => deed_len h) (fun f cdv A outer s H vs Q E hr h => ?_)
  obtain ⟨dk, nu, rw', wk, dx, s, ns, rws, rfl, hdk, hw, gd, hn, hrw, sh, h5, qa, qr⟩ := deed_ro h
  obtain ⟨sh1, sh2⟩ := Prod.mk.inj (Option.some.inj sh)
  obtain rfl := nil_of sh1.symm
  obtain rfl := nil_of sh2.symm
  refine ⟨_, (pss_cons (ps_set (i := 3) sc_clash.nd rfl (.inl rfl) (pe_f (K := K) rfl (pv 0) rfl)) (pss_cons (ps_set (i := 4) sc_clash.nd rfl (.inl rfl) (pe_c C_fixed_arrows hr (by decide) (passes_call (takes_of rfl rfl rfl rfl) fun _ _ _ _ q => q) (by rfl) (pa_cons (pv 3) pa_nil))) (pss_one (ps_ret (pe_c C_told_pairs hr (by decide) pass0 (by rfl) (pa_cons (pe_c C_clashes_of hr (by decide) pass0 (by rfl) (pa_cons (pv 3) (pa_cons (pe_mt0 M_Arr_earliest hr (by decide) pass0 (pv 4)) (pa_cons (pe_mt0 M_Wk_open_pairs hr (by decide) pass0 (pv 3)) pa_nil)))) pa_nil)))))), ?_⟩
  have g8 : size s ≤ 8 := gd.ops
  have TT := T.toTxt
  have hd : OkDs s s.fixed := gd.fixed
  have stepE : Vbwbai.step s [[13]] = Vbwbai.ans s (match Vbwbai.earliest s s.fixed with | none => [-8] | some t => Vbwbai.pairsOut ((open_ s).filter fun p => !(okPair s t p.1 p.2) && !(okPair s t p.2 p.1))) := rfl
  refine q_asg (ev_works TT (ev_var rfl) hdk) fun H1 e1 => ?_
  refine q_fixedArr (ev_var rfl) (hw.same e1) gd (fun hrf ar da r rs H3 hAB => ?_) (fun hno => (qr (-8) (by rw [stepE, Up.earl_none gd hd hno]; rfl)).same e1)
  have et := times_cons gd hd hrf
  have hB := tail_len (s := s) (ds := s.fixed)
  have e03 := e1.trans hAB.same
  have of := open_few g8
  have ff := List.length_filter_le (clashP s ((TmA s s.fixed).drop 1)) (open_ s)
  refine s_retL (el_told (ep_clash (ev_var rfl) (hw.same e03) gd ((ep_L (el_earliest (ev_var rfl) hAB.arr gd hd hrf)).imp fun v H4 _ ⟨b, ev, _, hb⟩ => ⟨b, ev, .of hb⟩) hB (ep_open (ev_var rfl) (hw.same e03) g8) (Up.open_ok s) (by omega)) (by omega)) fun p H4 np e4 hp => ?_
  refine qa (Vbwbai.pairsOut ((open_ s).filter (clashP s ((TmA s s.fixed).drop 1)))) ?_ p H4 (e03.trans e4) (fresh_back e03 np) ?_
  · rw [stepE, Up.earl_some gd hd hrf]
    show (s, Vbwbai.pairsOut ((open_ s).filter fun p => !(okPair s (TmA s s.fixed) p.1 p.2) && !(okPair s (TmA s s.fixed) p.2 p.1))) = _
    unfold clashP
    rw [← et]
  · rw [hp, pairsV_eq]
/-! ### slack -/
abbrev s_slack : Stmt := topS 52
theorem sc_slack : FnScope ["desk", "numbers", "rows", "works", "plan", "arrows", "late", "begin"] ["desk", "numbers", "rows"] (defScope s_slack) := ⟨rfl, rfl, rfl, by decide +kernel, rfl, by decide +kernel, by decide +kernel⟩
theorem ok_d14 (T : Txt2 K mg c RF WT) (D : DefG K mg "slack" s_slack ["desk", "numbers", "rows"]) (C_require_few_open : Cal P w K mg base (L2.CX P w) 5 "require_few_open" (spReqFew c RF)) (C_plan_told : Cal P w K mg base CX0 5 "plan_told" (spPlan c)) (K_Arr : Mak P w K mg base CX0 3 "Arrows" c.Arr (spArrI c)) (M_Arr_end_by : Met P w K mg base CX0 2 c.Arr "end_by" (spEndBy c)) (M_Arr_latest : Met P w K mg base CX0 4 c.Arr "latest" (spLatest c)) :
    Cal P w K mg base (L2.CX P w) 6 "slack" (spDeed c RF 14) := by
  refine calX D sc_slack (fun vs H Q E h => deed_len h) (fun f cdv A outer s H vs Q E hr h => ?_)
  obtain ⟨dk, nu, rw', wk, dx, s, ns, rws, rfl, hdk, hw, gd, hn, hrw, sh, h5, qa, qr⟩ := deed_ro h
  obtain ⟨sh1, sh2⟩ := Prod.mk.inj (Option.some.inj sh)
  obtain rfl := nil_of sh1.symm
  obtain rfl := nil_of sh2.symm
  refine ⟨_, (pss_cons (ps_set (i := 3) sc_slack.nd rfl (.inl rfl) (pe_f (K := K) rfl (pv 0) rfl)) (pss_cons (ps_expr (pe_c C_require_few_open hr (by decide) (passes_call (takes_of rfl rfl rfl rfl) fun _ _ _ _ q => q) (by rfl) (pa_cons (pv 3) pa_nil))) (pss_cons (ps_set (i := 4) sc_slack.nd rfl (.inl rfl) (pe_c C_plan_told hr (by decide) pass0 (by rfl) (pa_cons (pv 3) pa_nil))) (pss_cons (ps_if (pt_cmp (pc_isN (pv 4))) (pss_one (ps_ret (pe_lst (pa_cons pe_int pa_nil)))) pss_nil) (pss_cons (ps_set (i := 5) sc_slack.nd rfl (.inl rfl) (pe_mk K_Arr hr (by decide) pass0 (by rfl) (pa_cons (pv 3) (pa_cons (pe_op op_cat (pe_f (K := K) rfl (pv 3) rfl) (pe_f (K := K) rfl (pv 4) rfl)) pa_nil)))) (pss_cons (ps_expr (pe_mt M_Arr_end_by hr (by decide) pass0 (pv 5) (pa_cons (pe_f (K := K) rfl (pv 4) rfl) pa_nil))) (pss_one (ps_ret (pe_op op_cat (pe_lst (pa_cons pe_int (pa_cons (pe_f (K := K) rfl (pv 4) rfl) pa_nil))) (pe_lc (g := gTup K 2 (gCons (gName 6) (gCons (gName 7) gNil))) (own := [("late", 6), ("begin", 7)]) rfl sc_slack.nd (pi_zip (by rfl) T.zip (pa_cons (pe_mt0 M_Arr_latest hr (by decide) pass0 (pv 5)) (pa_cons (pe_f (K := K) rfl (pv 4) rfl) pa_nil))) (blkOk_by (own := [("late", 6), ("begin", 7)]) (N := ["desk", "numbers", "rows", "works", "plan", "arrows", "late", "begin"]) (sc := defScope s_slack) (by decide +kernel)) (fun _ _ _ _ _ => (pg_t (K := K) rfl rfl (pgs_cons (pg_name (i := 6) sc_slack.nd rfl (.inl rfl)) (pgs_cons (pg_name (i := 7) sc_slack.nd rfl (.inl rfl)) pgs_nil)))) (fun _ _ _ _ _ => pts_nil) (fun _ _ _ _ _ => (pe_op op_sub (pv 6) (pv 7))))))))))))), ?_⟩
  have g8 : size s ≤ 8 := gd.ops
  have TT := T.toTxt
  have stepE : Vbwbai.step s [[14]] = Vbwbai.withPlan s fun x => match Vbwbai.latest s x.2.2 x.1 with | none => [-8] | some y => 1 :: x.1 :: Vbwbai.shownTimes (List.zipWith (fun a b => b - a) x.2.1 y) := rfl
  refine q_asg (ev_works TT (ev_var rfl) hdk) fun H1 e1 => ?_
  refine q_few (ev_var rfl) (hw.same e1) g8 (fun ho H2 e2 => ?_) (fun hm => (qr (-11) (by rw [stepE, withPlan_many hm])).same e1)
  have e12 := e1.trans e2
  refine q_asgP (ep_plan (ev_var rfl) (hw.same e12) gd ho) fun v H3 e3 hv => ?_
  have e13 := e12.trans e3
  cases hbp : bestPlan s with
  | none =>
    rw [hbp] at hv
    obtain rfl : v = .non := hv
    refine q_when (b := true) (et_isN (ev_var (v := .non) rfl)) (fun _ H4 e4 => ?_) (fun z => nomatch z)
    exact s_retL (el_lst (ea_cons ev_c ea_nil) (by show 1 ≤ 100000; decide)) fun p H5 np e5 hp => qa [0] (by rw [stepE, withPlan_none ho hbp]) p H5 ((e13.trans e4).trans e5) (fresh_back (e13.trans e4) np) hp
  | some x =>
    obtain ⟨e, t, ds⟩ := x
    rw [hbp] at hv
    obtain ⟨p0, w0, rfl, rfl, ok0, wl0, rf0, ht0, he0, dx0, b0, q0, hp0, hb0, hq0⟩ := hv
    have dok : OkDs s (s.fixed ++ w0) := OkDs.app gd.fixed ok0
    have fl := Up.fixed_few gd
    have tl := tail_len (s := s) (ds := s.fixed ++ w0)
    rw [← ht0] at tl
    refine q_when (b := false) (et_isN (ev_var (v := .ref p0) rfl)) (fun z => nomatch z) (fun _ H4 e4 => ?_)
    have e14 := e13.trans e4
    have hp4 := e4 _ _ hp0
    obtain ⟨dw, g, oo, l, f', os, ls, fs, hW⟩ := id hw
    have hW4 := hW.same e14
    refine q_asgP (ep_arrows (ev_var rfl) (hw.same e14) gd (ep_catPairs (xs := s.fixed) (ys := w0) (ev_fld (ev_var rfl) hW4.me T.wk T.wk_fixed (wkF_fixed ..)) ⟨fs, hW4.fixed, hW4.fxA⟩ (ev_fld (ev_var rfl) hp4 T.pl T.pl_orders ((lk_past (by decide +kernel)).trans ((lk_past (by decide +kernel)).trans lk_here))) (hq0.same e4) (by omega)) dok) fun v H5 e5 ⟨ar, da, r, rs, ev, nar, hAB⟩ => ?_
    subst ev
    have e45 := e4.trans e5
    refine s_endBy hAB (ev_var rfl) (ev_fld (ev_var rfl) (e45 _ _ hp0) T.pl T.pl_end lk_here) (hw.same e14) g8 fun H6 sb6 hAB6 => ?_
    have e06 := e14.trans hAB6.same
    have e36 := e4.trans hAB6.same
    have hp6 := e36 _ _ hp0
    have hb6 := e36 _ _ hb0
    -- the plan's times keep the end
    have hfree : RingFree (mX s (arrows s (s.fixed ++ w0)) e) (size s + 1) := by
      refine Up.late_free (t := t) (Up.inR_arrows gd dok) ?_ ?_ ?_
      · rw [ht0]; exact Up.TmA_holds gd dok rf0
      · rw [ht0]; exact Up.TmA_zero gd dok rf0
      · intro i hi
        rw [he0]
        exact Up.ended_le s t i hi
    have hll : (Lt s (arrows s (s.fixed ++ w0)) e (size s + 1)).length = size s + 1 := Up.Lt_len _
    have hle : Vbwbai.latest s (s.fixed ++ w0) e = some (Lt s (arrows s (s.fixed ++ w0)) e (size s + 1)) := by
      rw [late_eq gd dok, hasR_no.mpr hfree]
      rfl
    have hLd : ((Lt s (arrows s (s.fixed ++ w0)) e (size s + 1)).drop 1).length = size s := by
      rw [List.length_drop, hll]
      rfl
    generalize hL : (Lt s (arrows s (s.fixed ++ w0)) e (size s + 1)).drop 1 = L at hLd
    have zw : (List.zipWith (fun a b => b - a) t (Lt s (arrows s (s.fixed ++ w0)) e (size s + 1))).drop 1 = (List.range (size s)).map fun k => L.getD k 0 - (t.drop 1).getD k 0 := by
      rw [List.drop_zipWith, hL]
      apply List.ext_getElem?
      intro k
      by_cases hk : k < size s
      · rw [List.getElem?_zipWith, List.getElem?_map, List.getElem?_range hk, List.getElem?_eq_getElem (by omega), List.getElem?_eq_getElem (by omega)]
        show some _ = some (L.getD k 0 - (t.drop 1).getD k 0)
        rw [List.getD_eq_getElem?_getD, List.getD_eq_getElem?_getD, List.getElem?_eq_getElem (by omega), List.getElem?_eq_getElem (by omega)]
        rfl
      · rw [List.getElem?_eq_none (by simp; omega), List.getElem?_eq_none (by simp; omega)]
    have el := el_latest (c := c) (σ := [some (.ref dk), some (.ref nu), some (.ref rw'), some (.ref wk), some (.ref p0), some (.ref ar), none, none]) (ta := tVar 5) (ev_var rfl) hAB6.arr gd dok hfree (hw.same e06)
    rw [hL] at el
    refine s_retP (ep_cat (xs := [.int 1, .int e]) (ys := (List.range (L.map V.int).length).map fun k => V.int (L.getD k 0 - (t.drop 1).getD k 0)) (ep_L (el_lst (ea_cons ev_c (ea_cons (ev_fld (ev_var rfl) hp6 T.pl T.pl_end lk_here) ea_nil)) (by show 2 ≤ 100000; decide)))
      (ep_L (el_lcZ (a := b0) (b := b0) (xs := L.map V.int) (ys := (t.drop 1).map V.int) (Pb := fun x _ => x = .ref b0) (fun k => V.int (L.getD k 0 - (t.drop 1).getD k 0)) (ep_L el) (ep_val (ev_fld (ev_var rfl) hp6 T.pl T.pl_begins ((lk_past (by decide +kernel)).trans lk_here))) (fun x H7 _ ⟨p, ev, _, hp⟩ => ⟨p, ev, .of hp⟩) (fun x H7 e7 p => ⟨b0, p, .of (e7 _ _ hb6)⟩) (by rw [List.length_map, List.length_map]; omega) (by rw [List.length_map]; omega) (fun _ _ => rfl) fun k x y H7 e7 hx hy => ?_))
      (fun x H4 _ p => newL_is p) (fun x H4 _ p => newL_is p) (few (by simp only [List.length_cons, List.length_nil, List.length_map, List.length_range]; omega))) fun v H7 e7 ⟨p, ev, np, hp⟩ => ?_
    · obtain ⟨z1, hz1, rfl⟩ := map_get' hx
      obtain ⟨z2, hz2, rfl⟩ := map_get' hy
      have g1 : L.getD k 0 = z1 := by rw [List.getD_eq_getElem?_getD, hz1]; rfl
      have g2 : (t.drop 1).getD k 0 = z2 := by rw [List.getD_eq_getElem?_getD, hz2]; rfl
      rw [g1, g2]
      exact ev_op (ev_var rfl) (ev_var rfl) rv_I0
    · subst ev
      refine qa (1 :: e :: ((List.range (size s)).map fun k => L.getD k 0 - (t.drop 1).getD k 0)) ?_ p H7 (e06.trans e7) (fresh_back e06 np) ?_
      · rw [stepE, withPlan_some ho hbp]
        show (s, match Vbwbai.latest s (s.fixed ++ w0) e with | none => [-8] | some y => 1 :: e :: Vbwbai.shownTimes (List.zipWith (fun a b => b - a) t y)) = _
        rw [hle]
        show (s, 1 :: e :: (List.zipWith (fun a b => b - a) t _).drop 1) = _
        rw [zw]
      · rw [hp, List.length_map, hLd]
        simp
end
end Uw
/-! W21: the deeds told, check. -/
namespace Uw
open PySem PySem.Spec PyProof.Rows L2 Evl
open Vbwbai (State Op Link Arrow size opAt numbers open_ okOp inR at_ endOf okPair broken firstOf pairsOf)
open Up (OkDs Good)

def opO (o : Op) : List V := [nv o.unit, nv o.long, nv o.release, .int (dueI o.due)]
def mostI (l : Link) : Int := match l.most with
  | none => l.least - 1
  | some m => m
def lkO (l : Link) : List V := [nv l.i, nv l.j, .int l.least, .int (mostI l)]
theorem opO_len : ∀ os : List Op, (os.flatMap opO).length = 4 * os.length
  | [] => rfl
  | o :: os => by
    rw [List.flatMap_cons, List.length_append, opO_len os, List.length_cons]
    show 4 + _ = _
    omega
theorem lkO_len : ∀ os : List Link, (os.flatMap lkO).length = 4 * os.length
  | [] => rfl
  | o :: os => by
    rw [List.flatMap_cons, List.length_append, lkO_len os, List.length_cons]
    show 4 + _ = _
    omega
section
variable {P : Program} {w : World} {K : PySem.W.Frag} {mg : Str → Option Value} {base : Heap} {c : Ad} {RF WT : Addr}
theorem q_ext {D : Ends} {tz : TS} {σ : L2.St} {H : Hp} {ta te : TE} {l : Addr} {xs ys : List V} (hl : H l = some (.lst xs)) (ha : Ev ta σ H (.ref l)) (h : EvL te σ H ys) (hz : xs.length + ys.length ≤ 100000) (k : ∀ H1, Ex H H1 → tz D σ (upd H1 l (.lst (xs ++ ys)))) :
    tSeq (tDrop (tBM K "list" rExtend ta (tCons te tNil))) tz D σ H := s_ext (D := { D with nx := tz D }) hl ha h hz k
theorem q_app {D : Ends} {tz : TS} {σ : L2.St} {H : Hp} {ta te : TE} {l : Addr} {xs : List V} {v : V} (hl : H l = some (.lst xs)) (ha : Ev ta σ H (.ref l)) (h : Ev te σ H v) (hz : xs.length < 100000) (k : ∀ H1, Ex H H1 → tz D σ (upd H1 l (.lst (xs ++ [v])))) :
    tSeq (tDrop (tBM K "list" rAppend ta (tCons te tNil))) tz D σ H := s_app (D := { D with nx := tz D }) hl ha h hz k
def gapsV (s : State) : List V := s.gaps.map fun n => nv n
def toldV (s : State) : List V := (((nv s.gaps.length :: gapsV s) ++ [nv s.ops.length]) ++ s.ops.flatMap opO) ++ [nv s.links.length]
abbrev s_told : Stmt := topS 53
theorem sc_told : FnScope ["desk", "numbers", "rows", "works", "found", "one", "link"] ["desk", "numbers", "rows"] (defScope s_told) := ⟨rfl, rfl, rfl, by decide +kernel, rfl, by decide +kernel, by decide +kernel⟩
theorem told_eq (s : State) : (toldV s ++ s.links.flatMap lkO) ++ pairsV s.fixed = (Vbwbai.step s [[15]]).2.map V.int := by
  show _ = (Vbwbai.int s.gaps.length :: (s.gaps.map Vbwbai.int ++ (Vbwbai.int s.ops.length :: (s.ops.flatMap (fun o => [Vbwbai.int o.unit, Vbwbai.int o.long, Vbwbai.int o.release, match o.due with
      | none => -1
      | some d => Vbwbai.int d]) ++ (Vbwbai.int s.links.length :: (s.links.flatMap (fun l => [Vbwbai.int l.i, Vbwbai.int l.j, l.least, match l.most with
      | none => l.least - 1
      | some m => m]) ++ Vbwbai.pairsOut s.fixed)))))).map V.int
  rw [pairsV_eq]
  unfold toldV gapsV
  have ho : s.ops.flatMap opO = (s.ops.flatMap (fun o => [Vbwbai.int o.unit, Vbwbai.int o.long, Vbwbai.int o.release, match o.due with
      | none => -1
      | some d => Vbwbai.int d])).map V.int := by
    rw [List.map_flatMap]
    refine flat_congr fun o _ => ?_
    cases e : o.due <;> simp [opO, e, dueI, Vbwbai.int, nv]
  have hl : s.links.flatMap lkO = (s.links.flatMap (fun l => [Vbwbai.int l.i, Vbwbai.int l.j, l.least, match l.most with
      | none => l.least - 1
      | some m => m])).map V.int := by
    rw [List.map_flatMap]
    refine flat_congr fun o _ => ?_
    cases e : o.most <;> simp [lkO, e, mostI, Vbwbai.int, nv]
  rw [ho, hl]
  simp [Vbwbai.int, nv]
theorem ok_d15 (T : Txt2 K mg c RF WT) (D : DefG K mg "told" s_told ["desk", "numbers", "rows"]) (C_listed : Cal P w K mg base CX0 1 "listed" (spListed K)) (C_told_pairs : Cal P w K mg base CX0 1 "told_pairs" (spTold c)) : Cal P w K mg base (L2.CX P w) 5 "told" (spDeed c RF 15) := by
  refine calX D sc_told (fun vs H Q E h => deed_len h) (fun f cdv A outer s H vs Q E hr h => ?_)
  obtain ⟨dk, nu, rw', wk, dx, s, ns, rws, rfl, hdk, hw, gd, hn, hrw, sh, h5, qa, qr⟩ := deed_ro h
  obtain ⟨sh1, sh2⟩ := Prod.mk.inj (Option.some.inj sh)
  obtain rfl := nil_of sh1.symm
  obtain rfl := nil_of sh2.symm
  refine ⟨_, (pss_cons (ps_set (i := 3) sc_told.nd rfl (.inl rfl) (pe_f (K := K) rfl (pv 0) rfl)) (pss_cons (ps_set (i := 4) sc_told.nd rfl (.inl rfl) (pe_op op_cat (pe_c C_listed hr (by decide) pass0 (by rfl) (pa_cons (pe_f (K := K) rfl (pv 3) rfl) pa_nil)) (pe_lst (pa_cons (pe_callB (lenR (K := K) rfl) (by rfl) T.len (by decide +kernel) (pa_cons (pe_f (K := K) rfl (pv 3) rfl) pa_nil)) pa_nil)))) (pss_cons (ps_for (passes_of rfl) rfl (pi_list (pe_f (K := K) rfl (pv 3) rfl)) (pg_name (i := 5) sc_told.nd rfl (.inl rfl)) (pss_one (ps_expr (pe_bm PySem.F.plainAttrs_list PySem.F.slot_list_extend PySem.F.type_list_extend mt_extend (pv 4) (pa_cons (pe_lst (pa_cons (pe_f (K := K) rfl (pv 5) rfl) (pa_cons (pe_f (K := K) rfl (pv 5) rfl) (pa_cons (pe_f (K := K) rfl (pv 5) rfl) (pa_cons (pe_f (K := K) rfl (pv 5) rfl) pa_nil))))) pa_nil))))) (pss_cons (ps_expr (pe_bm PySem.F.plainAttrs_list PySem.F.slot_list_append PySem.F.type_list_append mt_append (pv 4) (pa_cons (pe_callB (lenR (K := K) rfl) (by rfl) T.len (by decide +kernel) (pa_cons (pe_f (K := K) rfl (pv 3) rfl) pa_nil)) pa_nil))) (pss_cons (ps_for (passes_of rfl) rfl (pi_list (pe_f (K := K) rfl (pv 3) rfl)) (pg_name (i := 6) sc_told.nd rfl (.inl rfl)) (pss_one (ps_expr (pe_bm PySem.F.plainAttrs_list PySem.F.slot_list_extend PySem.F.type_list_extend mt_extend (pv 4) (pa_cons (pe_lst (pa_cons (pe_f (K := K) rfl (pv 6) rfl) (pa_cons (pe_f (K := K) rfl (pv 6) rfl) (pa_cons (pe_f (K := K) rfl (pv 6) rfl) (pa_cons (pe_ifExp (pt_cmp (pc_isN (pe_f (K := K) rfl (pv 6) rfl))) (pe_op op_sub (pe_f (K := K) rfl (pv 6) rfl) pe_int) (pe_f (K := K) rfl (pv 6) rfl)) pa_nil))))) pa_nil))))) (pss_one (ps_ret (pe_op op_cat (pv 4) (pe_c C_told_pairs hr (by decide) pass0 (by rfl) (pa_cons (pe_f (K := K) rfl (pv 3) rfl) pa_nil)))))))))), ?_⟩
  have g8 : s.ops.length ≤ 8 := gd.ops
  have g6 := gd.gaps
  have g16 := gd.lnk
  have TT := T.toTxt
  obtain ⟨dw, g, oo, l, f', os, ls, fs, hW⟩ := id hw
  have hol := hW.opA.1
  have hll := hW.lkA.1
  have gl : (gapsV s).length = s.gaps.length := by simp [gapsV]
  refine q_asg (ev_works TT (ev_var rfl) hdk) fun H1 e1 => ?_
  have hW1 := hW.same e1
  refine q_asgP (ep_cat (xs := nv s.gaps.length :: gapsV s) (ys := [nv s.ops.length]) (ep_L (fun H2 e2 Q k => (ev_fld (ev_var rfl) hW1.me T.wk T.wk_gaps (wkF_gaps ..)) H2 e2 _ fun H3 e3 => ⟨g, gapsV s, rfl, (e2.trans e3) _ _ hW1.gaps, by omega, fun p H4 e4 np hp => k p H4 (fresh_back e3 np) (e3.trans e4) (by rw [hp, gl])⟩))
    (ep_L (el_lst (ea_cons (ev_is (ev_lenL (ev_fld (ev_var rfl) hW1.me T.wk T.wk_operations (wkF_operations ..)) hW1.ops) (by rw [List.length_map, hol])) ea_nil) (by show 1 ≤ 100000; decide))) (fun x H4 _ p => newL_is p) (fun x H4 _ p => newL_is p) (few (by simp only [List.length_cons, List.length_nil]; omega))) fun v H2 e2 ⟨fd, ev, nfd, hfd⟩ => ?_
  subst ev
  have nfd0 := fresh_back e1 nfd
  refine q_forLn (a := oo) (xs := rf os) (ev_fld (ev_var rfl) (hW1.same e2).me T.wk T.wk_operations (wkF_operations ..)) (.of (hW1.same e2).ops) (fun k σ H3 => ∃ v5, σ = [some (.ref dk), some (.ref nu), some (.ref rw'), some (.ref wk), some (.ref fd), v5, none] ∧ Ex H H3 ∧ H3 fd = some (.lst (((nv s.gaps.length :: gapsV s) ++ [nv s.ops.length]) ++ (s.ops.take k).flatMap opO)))
    (fun H3 e3 => ⟨none, rfl, (e1.trans e2).trans e3, by rw [List.take_zero]; show _ = some (HO.lst (_ ++ [])); rw [List.append_nil]; exact e3 _ _ hfd⟩) (fun k σ H3 _ ⟨_, _, e3, _⟩ => .of (e3 _ _ hW.ops)) ?_ ?_
  · rintro k x σ H3 hx ⟨v5, rfl, e3, hf⟩
    obtain ⟨t, ht, rfl⟩ := rf_get' hx
    obtain ⟨o, eo, d, ho⟩ := hW.opA.at' ht
    have ho3 := e3 _ _ ho
    refine s_ext hf (ev_var rfl) (el_lst (vs := opO o) (ea_cons (ev_fld (ev_var rfl) ho3 T.op T.op_unit (opF_unit _)) (ea_cons (ev_fld (ev_var rfl) ho3 T.op T.op_minutes (opF_minutes _)) (ea_cons (ev_fld (ev_var rfl) ho3 T.op T.op_release (opF_release _)) (ea_cons (ev_fld (ev_var rfl) ho3 T.op T.op_due (opF_due _)) ea_nil)))) (by show 4 ≤ 100000; decide)) ?_ fun H4 e4 => ⟨_, rfl, Ex.mut (e3.trans e4) nfd0, ?_⟩
    · have : (opO o).length = 4 := rfl
      rw [List.length_append, opO_len, List.length_take, this]
      simp only [List.length_append, List.length_cons, List.length_nil]
      omega
    · rw [upd_same, take_more eo, List.flatMap_append, ← List.append_assoc]
      simp
  · rintro σ H3 ⟨v5, rfl, e3, hf⟩
    rw [List.length_map, hol, List.take_length] at hf
    have hW3 := hW.same e3
    refine q_app hf (ev_var rfl) (v := nv s.links.length) (ev_is (ev_lenL (ev_fld (ev_var rfl) hW3.me T.wk T.wk_links (wkF_links ..)) hW3.links) (by rw [List.length_map, hll])) ?_ fun H4 e4 => ?_
    · rw [List.length_append, opO_len]
      simp only [List.length_append, List.length_cons, List.length_nil]
      omega
    · have e34 := Ex.mut (o := .lst (((nv s.gaps.length :: gapsV s) ++ [nv s.ops.length]) ++ s.ops.flatMap opO ++ [nv s.links.length])) (e3.trans e4) nfd0
      have hf5 : (upd H4 fd (.lst (((nv s.gaps.length :: gapsV s) ++ [nv s.ops.length]) ++ s.ops.flatMap opO ++ [nv s.links.length]))) fd = some (.lst (toldV s)) := upd_same
      generalize upd H4 fd (.lst (((nv s.gaps.length :: gapsV s) ++ [nv s.ops.length]) ++ s.ops.flatMap opO ++ [nv s.links.length])) = H5 at e34 hf5 ⊢
      have tlen : (toldV s).length = s.gaps.length + 4 * s.ops.length + 3 := by
        unfold toldV
        simp only [List.length_append, List.length_cons, List.length_nil, opO_len]
        omega
      refine q_forLn (a := l) (xs := rf ls) (ev_fld (ev_var rfl) (hW.same e34).me T.wk T.wk_links (wkF_links ..)) (.of (hW.same e34).links) (fun k σ H3 => ∃ v5 v6, σ = [some (.ref dk), some (.ref nu), some (.ref rw'), some (.ref wk), some (.ref fd), v5, v6] ∧ Ex H H3 ∧ H3 fd = some (.lst (toldV s ++ (s.links.take k).flatMap lkO)))
        (fun H3 e3 => ⟨_, _, rfl, e34.trans e3, by rw [List.take_zero]; show _ = some (HO.lst (_ ++ [])); rw [List.append_nil]; exact e3 _ _ hf5⟩) (fun k σ H3 _ ⟨_, _, _, e3, _⟩ => .of (e3 _ _ hW.links)) ?_ ?_
      · rintro k x σ H3 hx ⟨v5, v6, rfl, e3, hf⟩
        obtain ⟨t, ht, rfl⟩ := rf_get' hx
        obtain ⟨o, eo, d, ho⟩ := hW.lkA.at' ht
        have ho3 := e3 _ _ ho
        have hm : ∀ i : Nat, ∀ σ : L2.St, σ[i]? = some (some (.ref t)) → Ev (tIf (tB (tIsN (tFld K (tVar i) "most"))) (tOp (rI0 fun i j => .int (i - j)) (tFld K (tVar i) "least") (tC (.int 1))) (tFld K (tVar i) "most")) σ H3 (.int (mostI o)) := fun i σ hi => by
          have hmo : Ev (tFld K (tVar i) "most") σ H3 (ov o.most) := ev_fld (ev_var hi) ho3 T.lk T.lk_most (lkF_most _)
          unfold mostI
          cases em : o.most with
          | none =>
            rw [em] at hmo
            exact ev_if (b := true) (et_isN hmo) (fun _ => ev_op (ev_fld (ev_var hi) ho3 T.lk T.lk_least (lkF_least _)) ev_c rv_I0) (fun z => nomatch z)
          | some m =>
            rw [em] at hmo
            exact ev_if (b := false) (et_isN hmo) (fun z => nomatch z) fun _ => hmo
        refine s_ext hf (ev_var rfl) (el_lst (vs := lkO o) (ea_cons (ev_fld (ev_var rfl) ho3 T.lk T.lk_first (lkF_first _)) (ea_cons (ev_fld (ev_var rfl) ho3 T.lk T.lk_second (lkF_second _)) (ea_cons (ev_fld (ev_var rfl) ho3 T.lk T.lk_least (lkF_least _)) (ea_cons (hm 6 _ rfl) ea_nil)))) (by show 4 ≤ 100000; decide)) ?_ fun H4 e4 => ⟨_, _, rfl, Ex.mut (e3.trans e4) nfd0, ?_⟩
        · have : (lkO o).length = 4 := rfl
          rw [List.length_append, lkO_len, List.length_take, this]
          omega
        · rw [upd_same, take_more eo, List.flatMap_append, ← List.append_assoc]
          simp
      · rintro σ H3 ⟨v5, v6, rfl, e3, hf⟩
        rw [List.length_map, hll, List.take_length] at hf
        have fl := Up.fixed_few gd
        refine s_retP (ep_cat (xs := toldV s ++ s.links.flatMap lkO) (ys := pairsV s.fixed) (ep_val (ev_var rfl)) (ep_L (el_told (ep_fixed TT (ev_var rfl) (hw.same e3)) (by omega))) (fun x H4 e4 p => val_is hf e4 p) (fun x H4 _ p => newL_is p) (few (by rw [List.length_append, lkO_len, pairsV_len]; omega))) fun v H4 e4 ⟨p, ev, np, hp⟩ => ?_
        subst ev
        refine qa (Vbwbai.step s [[15]]).2 rfl p H4 (e3.trans e4) (fresh_back e3 np) ?_
        rw [hp, told_eq]
/-! ### is_link_kept -/
def linkOff (l : Link) (t : List Int) : Bool := decide (at_ t l.j - at_ t l.i < l.least) || l.most.any fun m => decide (m < at_ t l.j - at_ t l.i)
def spLink (K : PySem.W.Frag) (c : Ad) : Sp := fun vs H Q _ => ∃ (a b : Addr) (s : State) (l : Link) (B : List Int), vs = [.ref a, .ref b] ∧ LkAt c H a l ∧ SqL K H b (B.map V.int) ∧ B.length = size s ∧ (0 < l.i ∧ l.i < size s + 1) ∧ (0 < l.j ∧ l.j < size s + 1) ∧ RV' (.bl (!linkOff l (0 :: B))) H Q
abbrev s_is_link_kept : Stmt := topS 45
theorem sc_is_link_kept : FnScope ["link", "begins", "distance"] ["link", "begins"] (defScope s_is_link_kept) := ⟨rfl, rfl, rfl, by decide +kernel, rfl, by decide +kernel, by decide +kernel⟩
theorem ok_is_link_kept (T : Txt K mg c) (D : DefG K mg "is_link_kept" s_is_link_kept ["link", "begins"]) : Cal P w K mg base CX0 1 "is_link_kept" (spLink K c) := by
  refine cal0 D sc_is_link_kept (fun vs H Q E h => ?_) (fun f cdv A outer s H vs Q E hr h => ?_)
  · obtain ⟨a, b, s, l, B, rfl, _⟩ := h
    rfl
  · obtain ⟨a, b, s, l, B, rfl, ⟨d, ha⟩, hS, hB, hi, hj, q⟩ := h
    refine ⟨_, (pss_cons (ps_set (i := 2) sc_is_link_kept.nd rfl (.inl rfl) (pe_op op_sub (pe_ix (ixL (K := K) rfl) (pv 1) (pe_op op_sub (pe_f (K := K) rfl (pv 0) rfl) pe_int) (fun _ _ => rfl)) (pe_ix (ixL (K := K) rfl) (pv 1) (pe_op op_sub (pe_f (K := K) rfl (pv 0) rfl) pe_int) (fun _ _ => rfl)))) (pss_one (ps_ret (pe_and (pe_cmpR op_le (pe_f (K := K) rfl (pv 0) rfl) (pv 2) (nomark _)) (pe_one (pe_or (pe_cmp (pc_isN (pe_f (K := K) rfl (pv 0) rfl))) (pe_one (pe_cmpR op_le (pv 2) (pe_f (K := K) rfl (pv 0) rfl) (nomark _))))))))), ?_⟩
    refine q_asg (ev_op (ev_bat (ev_var rfl) hS hB (ev_fld (ev_var rfl) ha T.lk T.lk_second (lkF_second _)) hj) (ev_bat (ev_var rfl) hS hB (ev_fld (ev_var rfl) ha T.lk T.lk_first (lkF_first _)) hi) rv_I0) fun H1 e1 => ?_
    have ha1 := e1 _ _ ha
    have hmo : Ev (tFld K (tVar 0) "most") [some (.ref a), some (.ref b), some (.int (at_ (0 :: B) l.j - at_ (0 :: B) l.i))] H1 (ov l.most) := ev_fld (ev_var rfl) ha1 T.lk T.lk_most (lkF_most _)
    refine s_ret (v := .bl (!linkOff l (0 :: B))) (ev_is (ev_andV (a := decide (l.least ≤ at_ (0 :: B) l.j - at_ (0 :: B) l.i)) (b := !(l.most.any fun m => decide (m < at_ (0 :: B) l.j - at_ (0 :: B) l.i))) (ev_op (ev_fld (ev_var rfl) ha1 T.lk T.lk_least (lkF_least _)) (ev_var rfl) rv_I0) fun _ => ?_) ?_) fun H2 e2 => q H2 (e1.trans e2)
    · cases em : l.most with
      | none =>
        rw [em] at hmo
        exact ev_is (ev_orV (a := true) (b := true) (ev_isN hmo) fun z => nomatch z) rfl
      | some m =>
        rw [em] at hmo
        refine ev_is (ev_orV (a := false) (b := decide (at_ (0 :: B) l.j - at_ (0 :: B) l.i ≤ m)) (ev_isN hmo) fun _ => ev_op (ev_var rfl) hmo rv_I0) ?_
        refine congrArg V.bl ?_
        show (false || decide (_ ≤ m)) = !(decide (m < _))
        rw [Bool.false_or, ← decide_not]
        congr 1
        exact propext Int.not_lt.symm
    · refine congrArg V.bl ?_
      unfold linkOff
      rw [Bool.not_or]
      congr 1
      rw [← decide_not]
      congr 1
      exact propext Int.not_lt.symm
end
end Uw
/-! W22: first_fault; the deed check. -/
namespace Uw
open PySem PySem.Spec PyProof.Rows L2 Evl
open Vbwbai (State Op Link Arrow size opAt numbers open_ okOp inR at_ endOf okPair broken firstOf pairsOf)
open Up (OkDs Good)

/-- numbers 1 .. n of a kind -/
def kind (n : Nat) (p : Nat → Bool) : List Nat := ((List.range n).map fun k => k + 1).filter p
theorem given_kind (n : Nat) (p : Nat → Bool) : given n (fun k => p (k + 1)) (fun k => nv (k + 1)) = nodes (kind n p) := by
  unfold given kind nodes
  rw [List.filter_map, List.map_map]
  rfl
theorem kind_len (n : Nat) (p : Nat → Bool) : (kind n p).length ≤ n := by
  unfold kind
  have := List.length_filter_le p ((List.range n).map fun k => k + 1)
  simpa using this
def p1 (s : State) (t : List Int) (i : Nat) : Bool := decide (at_ t i < Vbwbai.int (opAt s i).release)
def p2 (s : State) (t : List Int) (i : Nat) : Bool := (opAt s i).due.any fun d => decide (Vbwbai.int d < Vbwbai.ended s t i)
def p3 (s : State) (t : List Int) (k : Nat) : Bool := (s.links[k - 1]?).any fun l => linkOff l t
def p4 (s : State) (t : List Int) (k : Nat) : Bool := (s.fixed[k - 1]?).any fun p => !(okPair s t p.1 p.2)
/-- what is wrong, list by list -/
def faults (s : State) (B : List Int) : List (List Nat) := [kind (size s) (p1 s (0 :: B)), kind (size s) (p2 s (0 :: B)), kind s.links.length (p3 s (0 :: B)), kind s.fixed.length (p4 s (0 :: B))]
def fault5 (s : State) (B : List Int) : List Int := match (pairsOf s).filter (clashP s B) with
  | [] => []
  | p :: _ => [5, p.1, p.2]
/-- the first of them -/
def firstF : Nat → List (List Nat) → List Int → List Int
  | _, [], z => z
  | k, [] :: r, z => firstF (k + 1) r z
  | k, (i :: _) :: _, _ => [(k : Int), (i : Int)]
theorem firstOf_kind (k n : Nat) (p : Nat → Bool) : firstOf (k : Int) ((List.range n).map fun k => k + 1) p = match kind n p with
    | [] => none
    | i :: _ => some [(k : Int), (i : Int)] := by
  unfold firstOf kind
  rw [← List.head?_filter]
  cases ((List.range n).map fun k => k + 1).filter p <;> rfl
def brokenL (s : State) (B : List Int) : List Int := match broken s (0 :: B) with
  | none => []
  | some x => x
theorem broken_is (s : State) (B : List Int) : brokenL s B = firstF 1 (faults s B) (fault5 s B) := by
  unfold brokenL broken
  have h1 := firstOf_kind 1 (size s) (p1 s (0 :: B))
  have h2 := firstOf_kind 2 (size s) (p2 s (0 :: B))
  have h3 := firstOf_kind 3 s.links.length (p3 s (0 :: B))
  have h4 := firstOf_kind 4 s.fixed.length (p4 s (0 :: B))
  have h5 : ((pairsOf s).find? fun p => !(okPair s (0 :: B) p.1 p.2) && !(okPair s (0 :: B) p.2 p.1)) = ((pairsOf s).filter (clashP s B)).head? := (List.head?_filter).symm
  rw [h5]
  change firstOf 1 (numbers s) (p1 s (0 :: B)) = _ at h1
  change firstOf 2 (numbers s) (p2 s (0 :: B)) = _ at h2
  unfold faults fault5
  show (match (match firstOf 1 (numbers s) (p1 s (0 :: B)) with
    | some x => some x
    | none => match firstOf 2 (numbers s) (p2 s (0 :: B)) with
      | some x => some x
      | none => match firstOf 3 ((List.range s.links.length).map fun k => k + 1) (p3 s (0 :: B)) with
        | some x => some x
        | none => match firstOf 4 ((List.range s.fixed.length).map fun k => k + 1) (p4 s (0 :: B)) with
          | some x => some x
          | none => (((pairsOf s).filter (clashP s B)).head?).map fun p : Nat × Nat => [5, Vbwbai.int p.1, Vbwbai.int p.2]) with
    | none => []
    | some x => x) = _
  rw [h1, show firstOf 2 (numbers s) (p2 s (0 :: B)) = _ from h2, show firstOf 3 ((List.range s.links.length).map fun k => k + 1) (p3 s (0 :: B)) = _ from h3, show firstOf 4 ((List.range s.fixed.length).map fun k => k + 1) (p4 s (0 :: B)) = _ from h4]
  cases kind (size s) (p1 s (0 :: B)) with
  | cons i r => rfl
  | nil =>
    cases kind (size s) (p2 s (0 :: B)) with
    | cons i r => rfl
    | nil =>
      cases kind s.links.length (p3 s (0 :: B)) with
      | cons i r => rfl
      | nil =>
        cases kind s.fixed.length (p4 s (0 :: B)) with
        | cons i r => rfl
        | nil => cases (pairsOf s).filter (clashP s B) <;> rfl
section
variable {P : Program} {w : World} {K : PySem.W.Frag} {mg : Str → Option Value} {base : Heap} {c : Ad} {RF WT : Addr}
def spFault (K : PySem.W.Frag) (c : Ad) : Sp := fun vs H Q _ => ∃ (wk b : Addr) (s : State) (B : List Int), vs = [.ref wk, .ref b] ∧ WorksAt c H wk s ∧ Good s ∧ SqL K H b (B.map V.int) ∧ B.length = size s ∧ RL ((brokenL s B).map V.int) H Q
/-- [(1, a1), (2, a2), (3, a3), (4, a4)] -/
theorem ep_four {σ : L2.St} {H : Hp} {u1 u2 u3 u4 : TE} {x1 x2 x3 x4 : List V} (h1 : EvU u1 σ H x1) (h2 : EvU u2 σ H x2) (h3 : EvU u3 σ H x3) (h4 : EvU u4 σ H x4) : EvP (tLst (tCons u1 (tCons u2 (tCons u3 (tCons u4 tNil))))) σ H (fun v H1 => ∃ p t1 t2 t3 t4, v = .ref p ∧ H1 p = some (.lst [.ref t1, .ref t2, .ref t3, .ref t4]) ∧ H1 t1 = some (.tup x1) ∧ H1 t2 = some (.tup x2) ∧ H1 t3 = some (.tup x3) ∧ H1 t4 = some (.tup x4)) := fun H0 e0 Q q =>
  h1 H0 e0 _ fun t1 H1 n1 e1 g1 => h2 H1 (e0.trans e1) _ fun t2 H2 n2 e2 g2 => h3 H2 ((e0.trans e1).trans e2) _ fun t3 H3 n3 e3 g3 => h4 H3 (((e0.trans e1).trans e2).trans e3) _ fun t4 H4 n4 e4 g4 => ⟨by show 4 ≤ sizeLine; decide, fun p np => by
    have x := Ex.new (H := H4) (o := .lst [.ref t1, .ref t2, .ref t3, .ref t4]) np
    exact q _ _ ((((e1.trans e2).trans e3).trans e4).trans x) ⟨p, t1, t2, t3, t4, rfl, upd_same, x _ _ (e4 _ _ (e3 _ _ (e2 _ _ g1))), x _ _ (e4 _ _ (e3 _ _ g2)), x _ _ (e4 _ _ g3), x _ _ g4⟩⟩
theorem q_forEP {D : Ends} {tz tb : TS} {g : TG} {σ : L2.St} {H : Hp} {tl : TE} {P : V → Hp → Prop} (h : EvP tl σ H P) (k : ∀ v H1, Ex H H1 → P v H1 → ∃ (a : Addr) (xs : List V) (Pv : Nat → L2.St → Hp → Prop), v = .ref a ∧ SqL K H1 a xs ∧ Pv 0 σ H1 ∧ (∀ i σ' H', i ≤ xs.length → Pv i σ' H' → SqL K H' a xs) ∧
    (∀ i x σ' H', xs[i]? = some x → Pv i σ' H' → g x σ' H' fun σ2 H2 => tb { D with nx := Pv (i + 1), ct := Pv (i + 1), bk := tz D } σ2 H2) ∧ ∀ σ' H', Pv xs.length σ' H' → tz D σ' H') : tSeq (tFor (iList K tl) g tb) tz D σ H :=
  h H (Ex.refl _) _ fun v H1 e1 p => by
    obtain ⟨a, xs, Pv, ev, hx, h0, hl, hs, hd⟩ := k v H1 e1 p
    exact ⟨a, ev, ⟨xs, hx⟩, for_list Pv h0 hl hs hd⟩
theorem kind_snoc (n : Nat) (p : Nat → Bool) : kind (n + 1) p = kind n p ++ (if p (n + 1) = true then [n + 1] else []) := by
  unfold kind
  rw [List.range_succ, List.map_append, List.filter_append]
  congr 1
  by_cases h : p (n + 1) = true
  · rw [if_pos h]
    exact List.filter_cons_of_pos h
  · rw [if_neg h]
    exact List.filter_cons_of_neg h
abbrev s_first_fault : Stmt := topS 47
theorem sc_first_fault : FnScope ["works", "begins", "early", "late", "number", "links", "orders", "clashes", "one", "code", "some", "at", "link", "pair"] ["works", "begins"] (defScope s_first_fault) := ⟨rfl, rfl, rfl, by decide +kernel, rfl, by decide +kernel, by decide +kernel⟩
theorem ok_first_fault (T : Txt2 K mg c RF WT) (D : DefG K mg "first_fault" s_first_fault ["works", "begins"]) (M_Wk_numbers : Met P w K mg base CX0 1 c.Wk "numbers" (spNumbers c)) (M_Wk_operation : Met P w K mg base CX0 1 c.Wk "operation" (spOperation c)) (M_Wk_pairs : Met P w K mg base CX0 3 c.Wk "pairs" (spPairs c)) (C_clashes_of : Cal P w K mg base CX0 4 "clashes_of" (spClash K c)) (C_is_link_kept : Cal P w K mg base CX0 1 "is_link_kept" (spLink K c)) (C_is_order_kept : Cal P w K mg base CX0 3 "is_order_kept" (spOrd K c)) :
    Cal P w K mg base CX0 5 "first_fault" (spFault K c) := by
  refine cal0 D sc_first_fault (fun vs H Q E h => ?_) (fun f cdv A outer s H vs Q E hr h => ?_)
  · obtain ⟨wk, b, s, B, rfl, _⟩ := h
    rfl
  · obtain ⟨wk, b, s, B, rfl, hw, gd, hS, hB, q⟩ := h
    refine ⟨_, (pss_cons (ps_setLc (i := 2) (own := [("number", 4)]) rfl sc_first_fault.nd rfl rfl (sw_true rfl rfl rfl (by decide +kernel)) (pi_list (pe_mt0 M_Wk_numbers hr (by decide) pass0 (pv 0))) (blkOk_by (own := [("number", 4)]) (N := ["works", "begins", "early", "late", "number", "links", "orders", "clashes", "one", "code", "some", "at", "link", "pair"]) (sc := defScope s_first_fault) (by decide +kernel)) (fun _ _ _ _ _ => (pg_name (i := 4) sc_first_fault.nd rfl (.inl rfl))) (fun _ _ _ _ _ => (pts_one (pt_cmpR op_lt (pe_ix (ixL (K := K) rfl) (pv 1) (pe_op op_sub (pv 4) pe_int) (fun _ _ => rfl)) (pe_f (K := K) rfl (pe_mt M_Wk_operation hr (by decide) pass0 (pv 0) (pa_cons (pv 4) pa_nil)) rfl) (nomark _)))) (fun _ _ _ _ _ => (pv 4))) (pss_cons (ps_set (i := 3) sc_first_fault.nd rfl (.inl rfl) (pe_lst pa_nil)) (pss_cons (ps_for PassesOwn.never rfl (pi_list (pe_mt0 M_Wk_numbers hr (by decide) pass0 (pv 0))) (pg_name (i := 4) sc_first_fault.nd rfl (.inl rfl)) (pss_cons (ps_set (i := 8) sc_first_fault.nd rfl (.inl rfl) (pe_mt M_Wk_operation hr (by decide) pass0 (pv 0) (pa_cons (pv 4) pa_nil))) (pss_one (ps_if (PW.pt (pw_and (pt_cmpR op_ge (pe_f (K := K) rfl (pv 8) rfl) pe_int (nomark _)) (pw_and1 (pt_cmpR op_gt (pe_op op_add (pe_ix (ixL (K := K) rfl) (pv 1) (pe_op op_sub (pv 4) pe_int) (fun _ _ => rfl)) (pe_f (K := K) rfl (pv 8) rfl)) (pe_f (K := K) rfl (pv 8) rfl) (nomark _))))) (pss_one (ps_expr (pe_bm PySem.F.plainAttrs_list PySem.F.slot_list_append PySem.F.type_list_append mt_append (pv 3) (pa_cons (pv 4) pa_nil)))) pss_nil)))) (pss_cons (ps_setLc (i := 5) (g := gTup K 2 (gCons (gName 11) (gCons (gName 12) gNil))) (own := [("at", 11), ("link", 12)]) rfl sc_first_fault.nd rfl rfl (sw_true rfl rfl rfl (by decide +kernel)) (pi_enum (by rfl) T.enumerate (pa_cons (pe_f (K := K) rfl (pv 0) rfl) pa_nil)) (blkOk_by (own := [("at", 11), ("link", 12)]) (N := ["works", "begins", "early", "late", "number", "links", "orders", "clashes", "one", "code", "some", "at", "link", "pair"]) (sc := defScope s_first_fault) (by decide +kernel)) (fun _ _ _ _ _ => (pg_t (K := K) rfl rfl (pgs_cons (pg_name (i := 11) sc_first_fault.nd rfl (.inl rfl)) (pgs_cons (pg_name (i := 12) sc_first_fault.nd rfl (.inl rfl)) pgs_nil)))) (fun _ _ _ _ _ => (pts_one (pt_not (pt_val (pe_c C_is_link_kept hr (by decide) pass0 (by rfl) (pa_cons (pv 12) (pa_cons (pv 1) pa_nil))))))) (fun _ _ _ _ _ => (pe_op op_add (pv 11) pe_int))) (pss_cons (ps_setLc (i := 6) (g := gTup K 2 (gCons (gName 11) (gCons (gName 13) gNil))) (own := [("at", 11), ("pair", 13)]) rfl sc_first_fault.nd rfl rfl (sw_true rfl rfl rfl (by decide +kernel)) (pi_enum (by rfl) T.enumerate (pa_cons (pe_f (K := K) rfl (pv 0) rfl) pa_nil)) (blkOk_by (own := [("at", 11), ("pair", 13)]) (N := ["works", "begins", "early", "late", "number", "links", "orders", "clashes", "one", "code", "some", "at", "link", "pair"]) (sc := defScope s_first_fault) (by decide +kernel)) (fun _ _ _ _ _ => (pg_t (K := K) rfl rfl (pgs_cons (pg_name (i := 11) sc_first_fault.nd rfl (.inl rfl)) (pgs_cons (pg_name (i := 13) sc_first_fault.nd rfl (.inl rfl)) pgs_nil)))) (fun _ _ _ _ _ => (pts_one (pt_not (pt_val (pe_c C_is_order_kept hr (by decide) pass0 (by rfl) (pa_cons (pv 0) (pa_cons (pv 1) (pa_cons (pe_ix (ixT (K := K) rfl) (pv 13) pe_int (fun _ _ => rfl)) (pa_cons (pe_ix (ixT (K := K) rfl) (pv 13) pe_int (fun _ _ => rfl)) pa_nil))))))))) (fun _ _ _ _ _ => (pe_op op_add (pv 11) pe_int))) (pss_cons (ps_for PassesOwn.never rfl (pi_list (pe_lst (pa_cons (pe_tup (pa_cons pe_int (pa_cons (pv 2) pa_nil))) (pa_cons (pe_tup (pa_cons pe_int (pa_cons (pv 3) pa_nil))) (pa_cons (pe_tup (pa_cons pe_int (pa_cons (pv 5) pa_nil))) (pa_cons (pe_tup (pa_cons pe_int (pa_cons (pv 6) pa_nil))) pa_nil)))))) (pg_t (K := K) rfl rfl (pgs_cons (pg_name (i := 9) sc_first_fault.nd rfl (.inl rfl)) (pgs_cons (pg_name (i := 10) sc_first_fault.nd rfl (.inl rfl)) pgs_nil))) (pss_one (ps_if (pt_cmpR (op_neE hr.units0) (pv 10) (pe_lst pa_nil) (nomark _)) (pss_one (ps_ret (pe_lst (pa_cons (pv 9) (pa_cons (pe_ix (ixL (K := K) rfl) (pv 10) pe_int (fun _ _ => rfl)) pa_nil))))) pss_nil))) (pss_cons (ps_set (i := 7) sc_first_fault.nd rfl (.inl rfl) (pe_c C_clashes_of hr (by decide) pass0 (by rfl) (pa_cons (pv 0) (pa_cons (pv 1) (pa_cons (pe_mt0 M_Wk_pairs hr (by decide) pass0 (pv 0)) pa_nil))))) (pss_one (ps_ret (pe_ifExp (pt_cmpR (op_neE hr.units0) (pv 7) (pe_lst pa_nil) (nomark _)) (pe_op op_cat (pe_lst (pa_cons pe_int pa_nil)) (pe_callTy call_list_of (by rfl) T.list (by decide +kernel) (pa_cons (pe_ix (ixL (K := K) rfl) (pv 7) pe_int (fun _ _ => rfl)) pa_nil))) (pe_lst pa_nil))))))))))), ?_⟩
    have g8 : size s ≤ 8 := gd.ops
    have g16 := gd.lnk
    have fl := Up.fixed_few gd
    have TT := T.toTxt
    obtain ⟨dw, g, oo, l, f', os, ls, fs, hW⟩ := id hw
    have k1 := kind_len (size s) (p1 s (0 :: B))
    have k2 := kind_len (size s) (p2 s (0 :: B))
    have k3 := kind_len s.links.length (p3 s (0 :: B))
    have k4 := kind_len s.fixed.length (p4 s (0 :: B))
    -- early
    refine q_asgL (xs := nodes (kind (size s) (p1 s (0 :: B)))) (el_is (el_lcNL (xs := numsV s) (fun k => p1 s (0 :: B) (k + 1)) (fun k => nv (k + 1)) (el_numbers (ev_var rfl) hW g8) (by rw [nums_len]; omega) (fun _ => rfl) (fun k x H2 e2 hx => ?_) (fun k x H2 e2 hx _ => ?_)) (by rw [nums_len, given_kind])) fun ea H1 nea e1 hea => ?_
    · obtain ⟨rfl, hk⟩ := nums_get hx
      exact et_test (ev_op (ev_bat (ev_var rfl) (ex_l e2 hS) hB (ev_var rfl) ⟨by omega, by omega⟩) (ev_fldP (ep_oper (i := k + 1) (ev_var rfl) (hW.same e2) (ev_var rfl) ⟨by omega, by omega⟩) fun x H2 e2 ⟨p, d, e, hp⟩ => ⟨p, c.Op, d, _, e, hp, T.op, T.op_release, opF_release _⟩) rv_I0)
    · obtain ⟨rfl, hk⟩ := nums_get hx
      exact ev_var rfl
    -- late
    refine q_asgL (xs := []) (el_lst ea_nil (Nat.zero_le _)) fun la H2 nla e2 hla => ?_
    have nla0 := fresh_back e1 nla
    have ela : ea ≠ la := ne_of_none hea nla
    refine q_forNLn (el_numbers (ev_var rfl) (hW.same (e1.trans e2)) g8) (fun p k σ H3 => ∃ v4 v8, σ = [some (.ref wk), some (.ref b), some (.ref ea), some (.ref la), v4, none, none, none, v8, none, none, none, none, none] ∧ Ex H1 H3 ∧ H3 p = some (.lst (numsV s)) ∧ H3 la = some (.lst (nodes (kind k (p2 s (0 :: B))))) ∧ p ≠ la)
      (fun p H3 np e3 hp => ⟨none, none, rfl, e2.trans e3, hp, e3 _ _ hla, fun z => by rw [z, hla] at np; cases np⟩) (fun p i σ H3 _ ⟨_, _, _, _, hp, _⟩ => .of hp) ?_ ?_
    · rintro p k x σ H3 hx ⟨v4, v8, rfl, e3, hp, hl, npl⟩
      obtain ⟨rfl, hk⟩ := nums_get hx
      have e03 := e1.trans e3
      refine q_asgP (ep_oper (i := k + 1) (ev_var rfl) (hW.same e03) (ev_var rfl) ⟨by omega, by omega⟩) fun v H4 e4 ⟨oa, d, ev, hoa⟩ => ?_
      subst ev
      have kl := kind_len k (p2 s (0 :: B))
      rw [kind_snoc]
      have tst : EvT (tAnd (tTest (tOp (rI0 fun i j => .bl (decide (j ≤ i))) (tFld K (tVar 8) "due") (tC (.int 0)))) (tTest (tOp (rI0 fun i j => .bl (decide (j < i))) (tOp (rI0 fun i j => .int (i + j)) (tOp (rIxL K) (tVar 1) (tOp (rI0 fun i j => .int (i - j)) (tVar 4) (tC (.int 1)))) (tFld K (tVar 8) "minutes")) (tFld K (tVar 8) "due"))))
          [some (.ref wk), some (.ref b), some (.ref ea), some (.ref la), some (nv (k + 1)), none, none, none, some (.ref oa), none, none, none, none, none] H4 (p2 s (0 :: B) (k + 1)) := by
        have h1 : Ev (tFld K (tVar 8) "due") [some (.ref wk), some (.ref b), some (.ref ea), some (.ref la), some (nv (k + 1)), none, none, none, some (.ref oa), none, none, none, none, none] H4 (.int (dueI (opAt s (k + 1)).due)) := ev_fld (ev_var rfl) hoa T.op T.op_due (opF_due _)
        unfold p2
        cases ed : (opAt s (k + 1)).due with
        | none =>
          rw [ed] at h1
          exact et_and (a := false) (b := false) (et_test (ev_op h1 ev_c rv_I0)) fun z => nomatch z
        | some d' =>
          rw [ed] at h1
          refine et_is (et_and (a := decide ((0 : Int) ≤ (d' : Int))) (et_test (ev_op h1 ev_c rv_I0)) fun _ => et_test (ev_op (ev_op (ev_bat (ev_var rfl) (ex_l (e03.trans e4) hS) hB (ev_var rfl) ⟨by omega, by omega⟩) (ev_fld (ev_var rfl) hoa T.op T.op_minutes (opF_minutes _)) rv_I0) h1 rv_I0)) ?_
          rw [decide_eq_true (show (0 : Int) ≤ (d' : Int) by omega), Bool.true_and]
          rfl
      refine s_when tst (fun hb H5 e5 => ?_) (fun hb H5 e5 => ?_)
      · rw [if_pos hb]
        refine s_app ((e4.trans e5) _ _ hl) (ev_var rfl) (ev_var (v := nv (k + 1)) rfl) (by rw [List.length_map]; omega) fun H6 e6 => ⟨_, _, rfl, ?_, ?_, ?_, npl⟩
        · exact Ex.mut (((e3.trans e4).trans e5).trans e6) nla
        · rw [upd_ne npl]
          exact ((e4.trans e5).trans e6) _ _ hp
        · rw [upd_same]
          simp [nodes]
      · rw [if_neg (by rw [hb]; exact Bool.false_ne_true), List.append_nil]
        exact ⟨_, _, rfl, (e3.trans e4).trans e5, (e4.trans e5) _ _ hp, (e4.trans e5) _ _ hl, npl⟩
    · rintro p σ H3 ⟨v4, v8, rfl, e3, hp, hl, npl⟩
      rw [nums_len] at hl
      have e03 := e1.trans e3
      have hW3 := hW.same e03
      -- links
      refine q_asgL (xs := nodes (kind s.links.length (p3 s (0 :: B)))) (el_is (el_lcE (a := l) (xs := rf ls) (fun k => p3 s (0 :: B) (k + 1)) (fun k => nv (k + 1)) (ev_fld (ev_var rfl) hW3.me T.wk T.wk_links (wkF_links ..)) (.of hW3.links) (by rw [List.length_map, hW.lkA.1]; omega) (fun _ _ => rfl) (fun k y H4 e4 hy => ?_) (fun k y H4 e4 hy _ => ?_)) (by rw [List.length_map, hW.lkA.1, given_kind])) fun li H4 nli e4 hli => ?_
      · obtain ⟨t, ht, rfl⟩ := rf_get' hy
        obtain ⟨lk, elk, hlk⟩ := (hW3.same e4).lkA.at' ht
        obtain ⟨g1, g2⟩ := gd.links lk (List.mem_of_getElem? elk)
        refine et_is (et_not (et_test (ev_call' (ea_cons (ev_var (v := .ref t) rfl) (ea_cons (ev_var rfl) ea_nil)) fun H5 e5 Q q E => ⟨t, b, s, lk, B, rfl, ?_, ex_l ((e03.trans e4).trans e5) hS, hB, g1, g2, q⟩))) ?_
        · obtain ⟨d, hd⟩ := hlk
          exact ⟨d, e5 _ _ hd⟩
        · unfold p3
          rw [Nat.add_sub_cancel, elk, Bool.not_not]
          rfl
      · exact ev_is (ev_op (ev_var rfl) ev_c rv_I0) (by show V.int ((k : Int) + 1) = V.int ((k + 1 : Nat) : Int); rfl)
      have e04 := e03.trans e4
      have hW4 := hW.same e04
      -- orders
      refine q_asgL (xs := nodes (kind s.fixed.length (p4 s (0 :: B)))) (el_is (el_lcE (a := f') (xs := rf fs) (fun k => p4 s (0 :: B) (k + 1)) (fun k => nv (k + 1)) (ev_fld (ev_var rfl) hW4.me T.wk T.wk_fixed (wkF_fixed ..)) (.of hW4.fixed) (by rw [List.length_map, hW.fxA.1]; omega) (fun _ _ => rfl) (fun k y H5 e5 hy => ?_) (fun k y H5 e5 hy _ => ?_)) (by rw [List.length_map, hW.fxA.1, given_kind])) fun od H5 nod e5 hod => ?_
      · obtain ⟨t, ht, rfl⟩ := rf_get' hy
        obtain ⟨pr, epr, hpr⟩ := (hW4.same e5).fxA.at' ht
        obtain ⟨g1, g2⟩ := gd.fixed pr (List.mem_of_getElem? epr)
        refine et_is (et_not (et_test (ev_ord (i := pr.1) (j := pr.2) (ev_var rfl) (hw.same (e04.trans e5)) gd (ev_var rfl) (ex_l (e04.trans e5) hS) hB (ev_op (ev_var rfl) ev_c (rv_ixT (.of hpr) (atI_nat (j := 0) rfl))) (ev_op (ev_var rfl) ev_c (rv_ixT (.of hpr) (atI_nat (j := 1) rfl))) g1 g2))) ?_
        unfold p4
        rw [Nat.add_sub_cancel, epr]
        rfl
      · exact ev_is (ev_op (ev_var rfl) ev_c rv_I0) (by show V.int ((k : Int) + 1) = V.int ((k + 1 : Nat) : Int); rfl)
      have e05 := e04.trans e5
      have e35 := e4.trans e5
      have hea5 := (e3.trans e35) _ _ hea
      have hla5 := e35 _ _ hl
      have hli5 := e5 _ _ hli
      -- the first of them
      refine q_forEP (ep_four (x1 := [nv 1, .ref ea]) (x2 := [nv 2, .ref la]) (x3 := [nv 3, .ref li]) (x4 := [nv 4, .ref od]) (eu_tup (ea_cons (ev_c (v := nv 1)) (ea_cons (ev_var rfl) ea_nil)) (by show 2 ≤ 100000; decide)) (eu_tup (ea_cons (ev_c (v := nv 2)) (ea_cons (ev_var rfl) ea_nil)) (by show 2 ≤ 100000; decide)) (eu_tup (ea_cons (ev_c (v := nv 3)) (ea_cons (ev_var rfl) ea_nil)) (by show 2 ≤ 100000; decide)) (eu_tup (ea_cons (ev_c (v := nv 4)) (ea_cons (ev_var rfl) ea_nil)) (by show 2 ≤ 100000; decide))) fun v H6 e6 ⟨p4', t1, t2, t3, t4, ev, hp4, g1, g2, g3, g4⟩ => ?_
      subst ev
      have e06 := e05.trans e6
      -- one turn
      have all : ∀ (k : Nat) x, [V.ref t1, V.ref t2, V.ref t3, V.ref t4][k]? = some x → ∃ t a L, x = V.ref t ∧ H6 t = some (.tup [nv (k + 1), .ref a]) ∧ (faults s B)[k]? = some L ∧ H6 a = some (.lst (nodes L)) := by
        intro k x hx
        match k, hx with
        | 0, hx => exact ⟨t1, ea, _, (Option.some.inj hx).symm, g1, rfl, e6 _ _ hea5⟩
        | 1, hx => exact ⟨t2, la, _, (Option.some.inj hx).symm, g2, rfl, e6 _ _ hla5⟩
        | 2, hx => exact ⟨t3, li, _, (Option.some.inj hx).symm, g3, rfl, e6 _ _ hli5⟩
        | 3, hx => exact ⟨t4, od, _, (Option.some.inj hx).symm, g4, rfl, e6 _ _ hod⟩
        | k + 4, hx => simp at hx
      refine ⟨p4', [V.ref t1, V.ref t2, V.ref t3, V.ref t4], fun k σ H7 => ∃ v4 v8 v9 v10, σ = [some (.ref wk), some (.ref b), some (.ref ea), some (.ref la), v4, some (.ref li), some (.ref od), none, v8, v9, v10, none, none, none] ∧ Ex H6 H7 ∧ brokenL s B = firstF (1 + k) ((faults s B).drop k) (fault5 s B), rfl, .of hp4, ⟨_, _, none, none, rfl, Ex.refl _, broken_is s B⟩,
        (fun k σ H7 _ ⟨_, _, _, _, _, e7, _⟩ => .of (e7 _ _ hp4)), ?_, ?_⟩
      · rintro k x σ H7 hx ⟨v4, v8, v9, v10, rfl, e7, hbr⟩
        obtain ⟨t, a, L, rfl, ht, hL, ha⟩ := all k x hx
        have dr : (faults s B).drop k = L :: (faults s B).drop (k + 1) := by
          obtain ⟨hk, hL'⟩ := List.getElem?_eq_some_iff.mp hL
          rw [← hL', List.getElem_cons_drop hk]
        rw [dr] at hbr
        refine ⟨t, _, rfl, .inl (.inl (e7 _ _ ht)), rfl, _, _, rfl, _, _, rfl, rfl, ?_⟩
        have ha7 := e7 _ _ ha
        refine s_when (b := !(nodes L).isEmpty) (et_neE (ev_var rfl) (.of ha7)) (fun hb H8 e8 => ?_) (fun hb H8 e8 => ?_)
        · cases L with
          | nil => cases hb
          | cons i r =>
            refine s_retL (el_lst (vs := [nv (k + 1), nv i]) (ea_cons (ev_var rfl) (ea_cons (ev_op (ev_var rfl) ev_c (rv_ixL (.of (e8 _ _ ha7)) (atI_nat (j := 0) rfl))) ea_nil)) (by show 2 ≤ 100000; decide)) fun p' H9 np' e9 hp' => ?_
            have e09 := ((e06.trans e7).trans e8)
            refine q p' H9 (e09.trans e9) (fresh_back e09 np') ?_
            rw [hp', hbr]
            show _ = some (HO.lst [V.int ((1 + k : Nat) : Int), V.int (i : Int)])
            rw [Nat.add_comm 1 k]
        · cases L with
          | cons i r => cases hb
          | nil => exact ⟨_, _, _, _, rfl, e7.trans e8, hbr.trans (by show firstF (1 + k + 1) _ _ = _; rw [Nat.add_assoc])⟩
      · rintro σ H7 ⟨v4, v8, v9, v10, rfl, e7, hbr⟩
        have hb5 : brokenL s B = fault5 s B := hbr
        have e07 := e06.trans e7
        have pf := pairs_few g8
        have src : EvP (tMeth c.Wk "pairs" (spPairs c) [] E0 (tVar 0) tNil) [some (.ref wk), some (.ref b), some (.ref ea), some (.ref la), v4, some (.ref li), some (.ref od), none, v8, v9, v10, none, none, none] H7 (fun v H8 => ∃ p, v = .ref p ∧ PairsAt H8 p (pairsOf s)) :=
          ep_meth (ev_var rfl) (hW.same e07).me (wkF_no _ _ _ _ (by decide +kernel) (by decide +kernel) (by decide +kernel) (by decide +kernel)) ea_nil fun H8 e8 Q q E => ⟨wk, s, rfl, hw.same (e07.trans e8), g8, fun p H9 e9 _ hp => q _ _ e9 ⟨p, rfl, hp⟩⟩
        refine q_asgP (ep_clash (ev_var rfl) (hw.same e07) gd (fun H8 e8 Q k => ⟨_, rfl, k _ H8 (Ex.refl _) ⟨b, rfl, ex_l (e07.trans e8) hS⟩⟩) hB src (pairs_ok s) (by omega)) fun v H8 e8 ⟨cp, ev, cs, hcp, hcs⟩ => ?_
        subst ev
        have e08 := e07.trans e8
        rw [hb5] at q
        unfold fault5 at q
        cases hfl : (pairsOf s).filter (clashP s B) with
        | nil =>
          rw [hfl] at hcs q
          have : cs = [] := List.eq_nil_of_length_eq_zero hcs.1
          subst this
          refine s_retP (ep_if (P := NewL H8 []) (b := false) (et_neE (ev_var rfl) (.of hcp)) (fun z => nomatch z) fun _ => ep_L (el_lst ea_nil (Nat.zero_le _))) fun v H9 e9 ⟨p', ev, np', hp'⟩ => ?_
          subst ev
          exact q p' H9 (e08.trans e9) (fresh_back e08 np') hp'
        | cons pr r =>
          rw [hfl] at hcs q
          obtain ⟨t, ht, hpt⟩ := hcs.at (i := 0) (x := pr) rfl
          have hne : (!(rf cs).isEmpty) = true := by
            cases cs with
            | nil => simp at ht
            | cons a r => rfl
          refine s_retP (ep_if (P := NewL H8 ([.int 5] ++ pairV pr)) (b := true) (et_is (et_neE (ev_var rfl) (.of hcp)) hne) (fun _ => ?_) (fun z => nomatch z)) fun v H9 e9 ⟨p', ev, np', hp'⟩ => ?_
          · refine ep_cat (xs := [.int 5]) (ys := pairV pr) (ep_L (el_lst (ea_cons ev_c ea_nil) (by show 1 ≤ 100000; decide))) (Pb := NewL H8 (pairV pr)) (fun H9 e9 Q k => ?_) (fun x H4 _ p => newL_is p) (fun x H4 _ p => newL_is p) (few (by show 1 + 2 ≤ _; omega))
            refine (ev_op (ev_var rfl) ev_c (rv_ixL (.of hcp) (atI_nat (j := 0) (rf_get ht)))) H9 e9 _ fun H10 e10 => ⟨t, pairV pr, rfl, .inr (.of (e10 _ _ (e9 _ _ hpt))), fun n nn => k _ _ (e10.trans (Ex.new nn)) ⟨n, rfl, fresh_back (e9.trans e10) nn, upd_same⟩⟩
          · subst ev
            exact q p' H9 (e08.trans e9) (fresh_back e08 np') hp'
end
end Uw
/-! W23: the deeds check, begin, put_operation, put_link, fix, unfix. -/
namespace Uw
open PySem PySem.Spec PyProof.Rows L2 Evl
open Vbwbai (State Op Link Arrow size opAt numbers open_ okOp inR at_ endOf okPair broken firstOf pairsOf)
open Up (OkDs Good)

theorem firstOf_ne {k : Int} {l : List Nat} {p : Nat → Bool} {x : List Int} (h : firstOf k l p = some x) : x ≠ [] := by
  obtain ⟨i, _, rfl⟩ := Option.map_eq_some_iff.mp h
  intro z
  cases z
theorem broken_ne {s : State} {t : List Int} {x : List Int} (h : broken s t = some x) : x ≠ [] := by
  unfold broken at h
  split at h
  · next y e =>
    cases h
    exact firstOf_ne e
  · split at h
    · next y e =>
      cases h
      exact firstOf_ne e
    · split at h
      · next y e =>
        cases h
        exact firstOf_ne e
      · split at h
        · next y e =>
          cases h
          exact firstOf_ne e
        · obtain ⟨i, _, rfl⟩ := Option.map_eq_some_iff.mp h
          intro z
          cases z
theorem broken_ans (s : State) (B : List Int) (z : List Int) : (match broken s (0 :: B) with | none => z | some x => x) = if (brokenL s B).isEmpty = true then z else brokenL s B := by
  unfold brokenL
  cases e : broken s (0 :: B) with
  | none => rfl
  | some x =>
    have := broken_ne e
    cases x with
    | nil => exact absurd rfl this
    | cons a r => rfl
section
variable {P : Program} {w : World} {K : PySem.W.Frag} {mg : Str → Option Value} {base : Heap} {c : Ad} {RF WT : Addr}
/-- all([t(x) for x in xs]) -/
theorem el_tests {σ : L2.St} {H : Hp} {tl te : TE} {a : Addr} {j : Nat} {vs : List Nat} (ns : List Int) (f : Int → Bool) (h : Ev tl σ H (.ref a)) (hx : SqL K H a (ns.map V.int)) (hl : ns.length ≤ 40000) (hw : ∀ x, wipe ((wipe σ vs).set j (some x)) vs = wipe σ vs) (he : ∀ z H1, Ex H H1 → Ev te ((wipe σ vs).set j (some (.int z))) H1 (.bl (f z))) :
    EvL (tLc (iList K tl) (gName j) tYes te vs) σ H ((ns.map f).map V.bl) := by
  refine el_is (el_lcL (a := a) (xs := ns.map V.int) (fun _ => true) (fun i => V.bl (f (ns.getD i 0))) h hx (by rw [List.length_map]; omega) hw (fun i x H1 _ _ => fun H2 e2 Q q => q H2 (Ex.refl _)) (fun i x H1 e1 hx _ => ?_)) ?_
  · obtain ⟨z, hz, rfl⟩ := map_get' hx
    have hz' : ns.getD i 0 = z := by rw [List.getD_eq_getElem?_getD, hz]; rfl
    rw [hz']
    exact he z H1 e1
  · rw [List.length_map]
    exact given_bools ns f (fun i => f (ns.getD i 0)) fun i x hx => by
      show f (ns.getD i 0) = f x
      rw [List.getD_eq_getElem?_getD, hx]
      rfl
theorem all_map_id (ns : List Int) (f : Int → Bool) : (ns.map f).all id = ns.all f := by
  rw [List.all_map]
  rfl
/-- rows[0] -/
theorem ev_row0 {σ : L2.St} {H : Hp} {tr : TE} {rw' : Addr} {l : List Int} (h : Ev tr σ H (.ref rw')) (hr : RowsAt H rw' [l]) : ∃ b, H b = some (.lst (l.map V.int)) ∧ Ev (tOp (rIxL K) tr (tC (.int 0))) σ H (.ref b) := by
  obtain ⟨as, ha, A⟩ := hr
  obtain ⟨b, hb, hl⟩ := A.at (i := 0) (x := l) rfl
  exact ⟨b, hl, ev_op h ev_c (rv_ixL (.of ha) (atI_nat (j := 0) (rf_get hb)))⟩
/-! ### check -/
abbrev s_check : Stmt := topS 49
theorem sc_check : FnScope ["desk", "numbers", "rows", "works", "begins", "is_right", "fault", "one"] ["desk", "numbers", "rows"] (defScope s_check) := ⟨rfl, rfl, rfl, by decide +kernel, rfl, by decide +kernel, by decide +kernel⟩
theorem ok_d11 (T : Txt2 K mg c RF WT) (D : DefG K mg "check" s_check ["desk", "numbers", "rows"]) (C_require : Cal P w K mg base (L2.CX P w) 3 "require" (spReq RF)) (C_first_fault : Cal P w K mg base CX0 5 "first_fault" (spFault K c)) (M_Wk_end_of : Met P w K mg base CX0 1 c.Wk "end_of" (spEndOf (K := K) c)) : Cal P w K mg base (L2.CX P w) 6 "check" (spDeed c RF 11) := by
  refine calX D sc_check (fun vs H Q E h => deed_len h) (fun f cdv A outer s H vs Q E hr h => ?_)
  obtain ⟨dk, nu, rw', wk, dx, s, ns, rws, rfl, hdk, hw, gd, hn, hrw, sh, h5, qa, qr⟩ := deed_ro h
  obtain ⟨sh1, sh2⟩ := Prod.mk.inj (Option.some.inj sh)
  obtain rfl := nil_of sh1.symm
  obtain ⟨B, rfl⟩ := one_of sh2.symm
  refine ⟨_, (pss_cons (ps_set (i := 3) sc_check.nd rfl (.inl rfl) (pe_f (K := K) rfl (pv 0) rfl)) (pss_cons (ps_set (i := 4) sc_check.nd rfl (.inl rfl) (pe_ix (ixL (K := K) rfl) (pv 2) pe_int (fun _ _ => rfl))) (pss_cons (ps_set (i := 5) sc_check.nd rfl (.inl rfl) (pe_cmpR op_eq (pe_callB (lenR (K := K) rfl) (by rfl) T.len (by decide +kernel) (pa_cons (pv 4) pa_nil)) (pe_callB (lenR (K := K) rfl) (by rfl) T.len (by decide +kernel) (pa_cons (pe_f (K := K) rfl (pv 3) rfl) pa_nil)) (nomark _))) (pss_cons (ps_expr (pe_c C_require hr (by decide) (passes_call (takes_of rfl rfl rfl rfl) fun _ _ _ _ q => q) (by rfl) (pa_cons (pe_and (pv 5) (pe_one (pe_callB (cr_all rfl) (by rfl) T.all (by decide +kernel) (pa_cons (pe_lc (own := [("one", 7)]) rfl sc_check.nd (pi_list (pv 4)) (blkOk_by (own := [("one", 7)]) (N := ["desk", "numbers", "rows", "works", "begins", "is_right", "fault", "one"]) (sc := defScope s_check) (by decide +kernel)) (fun _ _ _ _ _ => (pg_name (i := 7) sc_check.nd rfl (.inl rfl))) (fun _ _ _ _ _ => pts_nil) (fun _ _ _ _ _ => (pe_chain op_le op_le pe_int (pv 7) (C8.pe_gc (by rfl) T.MOST_END)))) pa_nil)))) (pa_cons (pe_un un_neg pe_int) pa_nil)))) (pss_cons (ps_set (i := 6) sc_check.nd rfl (.inl rfl) (pe_c C_first_fault hr (by decide) pass0 (by rfl) (pa_cons (pv 3) (pa_cons (pv 4) pa_nil)))) (pss_one (ps_ret (pe_ifExp (pt_cmpR (op_neE hr.units0) (pv 6) (pe_lst pa_nil) (nomark _)) (pv 6) (pe_lst (pa_cons pe_int (pa_cons (pe_mt M_Wk_end_of hr (by decide) pass0 (pv 3) (pa_cons (pv 4) pa_nil)) pa_nil))))))))))), ?_⟩
  have g8 : size s ≤ 8 := gd.ops
  have TT := T.toTxt
  have b5 : B.length ≤ 5000 := h5 B (List.mem_singleton.mpr rfl)
  obtain ⟨dw, g, oo, l, f', os, ls, fs, hW⟩ := id hw
  have hol : (rf os).length = size s := by simp [hW.opA.1, size]
  have stepE : Vbwbai.step s [[11], B] = if B.length = size s ∧ (B.all fun x => inR x 0 1000000000000) = true then Vbwbai.ans s (match broken s (0 :: B) with | none => [0, endOf s (0 :: B)] | some x => x) else Vbwbai.ans s [-2] := rfl
  refine q_asg (ev_works TT (ev_var rfl) hdk) fun H1 e1 => ?_
  obtain ⟨b, hb, evb⟩ := ev_row0 (K := K) (σ := [some (.ref dk), some (.ref nu), some (.ref rw'), some (.ref wk), none, none, none, none]) (tr := tVar 2) (ev_var rfl) (show RowsAt H1 rw' [B] from by
    obtain ⟨as, ha, A⟩ := hrw
    exact ⟨as, e1 _ _ ha, A.mono fun a x _ r => e1 _ _ r⟩)
  refine q_asg evb fun H2 e2 => ?_
  have e12 := e1.trans e2
  have hb2 := e2 _ _ hb
  refine q_asg (v := .bl (decide (B.length = size s))) (ev_is (ev_op (ev_is (ev_lenL (ev_var rfl) hb2) (by rw [List.length_map])) (ev_is (ev_lenL (ev_fld (ev_var rfl) (hW.same e12).me T.wk T.wk_operations (wkF_operations ..)) (hW.same e12).ops) (by rw [hol])) (rv_eq rfl)) ?_) fun H3 e3 => ?_
  · refine congrArg V.bl ?_
    rw [Bool.eq_iff_iff, decide_eq_true_iff, decide_eq_true_iff]
    exact ⟨fun z => Int.ofNat.inj (V.int.inj z), fun z => by rw [z]⟩
  have e13 := e12.trans e3
  have hb3 := e3 _ _ hb2
  refine q_req (b := decide (B.length = size s) && B.all fun x => inR x 0 1000000000000) (ev_andV (ev_var rfl) fun _ => ev_is (ev_all (el_tests B (fun x => inR x 0 1000000000000) (ev_var rfl) (.of hb3) (by omega) (fun _ => rfl) fun z H4 e4 => ev_chain (i := 0) (j := z) (k := 1000000000000) ev_c (ev_var rfl) ev_c)) (by rw [all_map_id])) (ru_negI ru_neg) (fun hc H4 e4 => ?_) (fun hc => (qr (-2) ?_).same e13)
  · rw [Bool.and_eq_true, decide_eq_true_iff] at hc
    have hB := hc.1
    have e14 := e13.trans e4
    have hb4 := e4 _ _ hb3
    rw [stepE, if_pos hc, broken_ans] at qa
    refine q_asgL (xs := (brokenL s B).map V.int) (fun H5 e5 Q k => ⟨_, rfl, _, rfl, wk, b, s, B, rfl, hw.same (e14.trans e5), gd, .of (e5 _ _ hb4), hB, fun p H6 e6 np hp => k p H6 np e6 hp⟩) fun fa H5 nfa e5 hfa => ?_
    have e15 := e14.trans e5
    have hne : ((brokenL s B).map V.int).isEmpty = (brokenL s B).isEmpty := by cases brokenL s B <;> rfl
    refine s_retP (ep_if (P := fun v H6 => ∃ p, v = .ref p ∧ H4 p = none ∧ H6 p = some (.lst ((if (brokenL s B).isEmpty = true then [0, endOf s (0 :: B)] else brokenL s B).map V.int))) (b := !(brokenL s B).isEmpty) (et_is (et_neE (ev_var rfl) (.of hfa)) (by rw [hne])) (fun hx => ?_) (fun hx => ?_)) fun v H6 e6 ⟨p, ev, np, hp⟩ => ?_
    · rw [if_neg (by simpa using hx)]
      exact (ep_val (ev_var rfl)).imp fun v H6 e6 p => ⟨fa, p, nfa, e6 _ _ hfa⟩
    · rw [if_pos (by simpa using hx)]
      refine (ep_L (el_lst (vs := [.int 0, .int (endOf s (0 :: B))]) (ea_cons ev_c (ea_cons (ev_endOf (ev_var rfl) (hw.same e15) g8 (fun H6 e6 Q k => ⟨_, rfl, k _ H6 (Ex.refl _) ⟨b, rfl, .of (e6 _ _ (e5 _ _ hb4))⟩⟩) hB) ea_nil)) (by show 2 ≤ 100000; decide))).imp fun v H6 e6 ⟨p, ev, np, hp⟩ => ⟨p, ev, fresh_back e5 np, hp⟩
    · subst ev
      exact qa _ rfl p H6 (e15.trans e6) (fresh_back e14 np) hp
  · rw [stepE, if_neg]
    · rfl
    · intro z
      rw [decide_eq_true z.1, z.2] at hc
      cases hc
/-! ### what is written -/
theorem WkAt.setOps {H : Hp} {a dx g o l f : Addr} {os ls fs os' : List Addr} {s : State} {ops' : List Op} (h : WkAt c H a dx g o l f os ls fs s) (n1 : o ≠ l) (n2 : o ≠ f) (n3 : g ≠ o) (A : All2 (OpAt c H) os' ops') : WkAt c (upd H o (.lst (rf os'))) a dx g o l f os' ls fs ⟨s.gaps, ops', s.links, s.fixed⟩ where
  me := by rw [upd_ne (ne_of h.me h.ops (by intro z; cases z))]; exact h.me
  gaps := by rw [upd_ne n3]; exact h.gaps
  ops := upd_same
  opA := A.mono fun a x _ ⟨d, r⟩ => ⟨d, by rw [upd_ne (ne_of r h.ops (by intro z; cases z))]; exact r⟩
  links := by rw [upd_ne n1.symm]; exact h.links
  lkA := h.lkA.mono fun a x _ ⟨d, r⟩ => ⟨d, by rw [upd_ne (ne_of r h.ops (by intro z; cases z))]; exact r⟩
  fixed := by rw [upd_ne n2.symm]; exact h.fixed
  fxA := h.fxA.mono fun a x _ r => by
    have r' : H a = some (.tup (pairV x)) := r
    show upd H o _ a = _
    rw [upd_ne (ne_of r' h.ops (by intro z; cases z))]
    exact r'
theorem WkAt.setLinks {H : Hp} {a dx g o l f : Addr} {os ls fs ls' : List Addr} {s : State} {lks' : List Link} (h : WkAt c H a dx g o l f os ls fs s) (n1 : o ≠ l) (n2 : l ≠ f) (n3 : g ≠ l) (A : All2 (LkAt c H) ls' lks') : WkAt c (upd H l (.lst (rf ls'))) a dx g o l f os ls' fs ⟨s.gaps, s.ops, lks', s.fixed⟩ where
  me := by rw [upd_ne (ne_of h.me h.links (by intro z; cases z))]; exact h.me
  gaps := by rw [upd_ne n3]; exact h.gaps
  ops := by rw [upd_ne n1]; exact h.ops
  opA := h.opA.mono fun a x _ ⟨d, r⟩ => ⟨d, by rw [upd_ne (ne_of r h.links (by intro z; cases z))]; exact r⟩
  links := upd_same
  lkA := A.mono fun a x _ ⟨d, r⟩ => ⟨d, by rw [upd_ne (ne_of r h.links (by intro z; cases z))]; exact r⟩
  fixed := by rw [upd_ne n2.symm]; exact h.fixed
  fxA := h.fxA.mono fun a x _ r => by
    have r' : H a = some (.tup (pairV x)) := r
    show upd H l _ a = _
    rw [upd_ne (ne_of r' h.links (by intro z; cases z))]
    exact r'
theorem WkAt.setFixed {H : Hp} {a dx g o l f : Addr} {os ls fs fs' : List Addr} {s : State} {fx' : List (Nat × Nat)} (h : WkAt c H a dx g o l f os ls fs s) (n1 : o ≠ f) (n2 : l ≠ f) (n3 : g ≠ f) (A : All2 (PairAt H) fs' fx') : WkAt c (upd H f (.lst (rf fs'))) a dx g o l f os ls fs' ⟨s.gaps, s.ops, s.links, fx'⟩ where
  me := by rw [upd_ne (ne_of h.me h.fixed (by intro z; cases z))]; exact h.me
  gaps := by rw [upd_ne n3]; exact h.gaps
  ops := by rw [upd_ne n1]; exact h.ops
  opA := h.opA.mono fun a x _ ⟨d, r⟩ => ⟨d, by rw [upd_ne (ne_of r h.fixed (by intro z; cases z))]; exact r⟩
  links := by rw [upd_ne n2]; exact h.links
  lkA := h.lkA.mono fun a x _ ⟨d, r⟩ => ⟨d, by rw [upd_ne (ne_of r h.fixed (by intro z; cases z))]; exact r⟩
  fixed := upd_same
  fxA := A.mono fun a x _ r => by
    have r' : H a = some (.tup (pairV x)) := r
    show upd H f _ a = _
    rw [upd_ne (ne_of r' h.fixed (by intro z; cases z))]
    exact r'
/-- the end of a deed that writes -/
theorem deed_done {H H4 : Hp} {dk : Addr} {R R' : List Addr} {s' : State} {Q : VK} {ans : List Int} {st : State × List Int} (q1 : ∀ p H' R', SB R H H' → DeskAt c H' dk st.1 R' → (∀ b ∈ R', b ∈ R ∨ H b = none) → H p = none → p ∉ R' → H' p = some (.lst (st.2.map V.int)) → Q (.ref p) H') (e : st = (s', ans)) (sb : SB R H H4) (kn : ∀ b ∈ R, ∃ o, H4 b = some o) (hd : DeskAt c H4 dk s' R') (hR : ∀ b ∈ R', b ∈ R ∨ H b = none) :
    ∀ p H5, H4 p = none → Ex H4 H5 → H5 p = some (.lst (ans.map V.int)) → Q (.ref p) H5 := fun p H5 np e5 hp => by
  subst e
  refine q1 p H5 R' (sb.trans (SB.of e5)) (hd.same e5) hR ?_ (fun z => ?_) hp
  · cases eh : H p with
    | none => rfl
    | some o =>
      by_cases z : p ∈ R
      · obtain ⟨o', ho'⟩ := kn p z
        rw [np] at ho'
        cases ho'
      · have := sb p o z eh
        rw [np] at this
        cases this
  · obtain ⟨o, ho⟩ := hd.known z
    rw [np] at ho
    cases ho
/-! ### begin -/
abbrev s_begin : Stmt := topS 33
theorem sc_begin : FnScope ["desk", "numbers", "rows", "gaps", "gap"] ["desk", "numbers", "rows"] (defScope s_begin) := ⟨rfl, rfl, rfl, by decide +kernel, rfl, by decide +kernel, by decide +kernel⟩
theorem ok_d0 (T : Txt2 K mg c RF WT) (D : DefG K mg "begin" s_begin ["desk", "numbers", "rows"]) (C_require : Cal P w K mg base (L2.CX P w) 3 "require" (spReq RF)) (K_Wk : Mak P w K mg base CX0 1 "Works" c.Wk (spWkI c)) : Cal P w K mg base (L2.CX P w) 4 "begin" (spDeed c RF 0) := by
  refine calX D sc_begin (fun vs H Q E h => deed_len h) (fun f cdv A outer s H vs Q E hr h => ?_)
  obtain ⟨dk, nu, rw', s, R, ns, rws, rfl, hd, gd, hn, hrw, sh, h5, q1, q2⟩ := h
  obtain ⟨sh1, sh2⟩ := Prod.mk.inj (Option.some.inj sh)
  obtain rfl := nil_of sh1.symm
  obtain ⟨B, rfl⟩ := one_of sh2.symm
  refine ⟨_, (pss_cons (ps_set (i := 3) sc_begin.nd rfl (.inl rfl) (pe_ix (ixL (K := K) rfl) (pv 2) pe_int (fun _ _ => rfl))) (pss_cons (ps_expr (pe_c C_require hr (by decide) (passes_call (takes_of rfl rfl rfl rfl) fun _ _ _ _ q => q) (by rfl) (pa_cons (pe_and (pe_chain op_le op_le pe_int (pe_callB (lenR (K := K) rfl) (by rfl) T.len (by decide +kernel) (pa_cons (pv 3) pa_nil)) (C8.pe_gc (by rfl) T.MOST_GAPS)) (pe_one (pe_callB (cr_all rfl) (by rfl) T.all (by decide +kernel) (pa_cons (pe_lc (own := [("gap", 4)]) rfl sc_begin.nd (pi_list (pv 3)) (blkOk_by (own := [("gap", 4)]) (N := ["desk", "numbers", "rows", "gaps", "gap"]) (sc := defScope s_begin) (by decide +kernel)) (fun _ _ _ _ _ => (pg_name (i := 4) sc_begin.nd rfl (.inl rfl))) (fun _ _ _ _ _ => pts_nil) (fun _ _ _ _ _ => (pe_chain op_le op_le pe_int (pv 4) (C8.pe_gc (by rfl) T.MOST_GAP)))) pa_nil)))) (pa_cons (pe_un un_neg pe_int) pa_nil)))) (pss_cons (ps_fld (pv 0) (pe_mk K_Wk hr (by decide) pass0 (by rfl) (pa_cons (pe_callTy call_list_of (by rfl) T.list (by decide +kernel) (pa_cons (pv 3) pa_nil)) pa_nil)) rfl) (pss_one (ps_ret (pe_lst (pa_cons pe_int pa_nil))))))), ?_⟩
  obtain ⟨dx, wk, R0, hdk, hwr, hdR, rfl⟩ := id hd
  have b5 : B.length ≤ 5000 := h5 B (List.mem_singleton.mpr rfl)
  have stepE : Vbwbai.step s [[0], B] = if (decide (1 ≤ B.length) && (decide (B.length ≤ 6) && B.all fun x => inR x 0 1000000)) = false then Vbwbai.ans s [-2] else (⟨B.map Int.toNat, [], [], []⟩, [0]) := rfl
  obtain ⟨b, hb, evb⟩ := ev_row0 (K := K) (σ := [some (.ref dk), some (.ref nu), some (.ref rw'), none, none]) (tr := tVar 2) (ev_var rfl) hrw
  refine q_asg evb fun H1 e1 => ?_
  have hb1 := e1 _ _ hb
  refine q_req (b := (decide (1 ≤ B.length) && decide (B.length ≤ 6)) && B.all fun x => inR x 0 1000000) (ev_andV (ev_is (ev_chain (i := 1) (j := ((B.map V.int).length : Int)) (k := 6) ev_c (ev_lenL (ev_var rfl) hb1) ev_c) ?_) fun _ => ev_is (ev_all (el_tests B (fun x => inR x 0 1000000) (ev_var rfl) (.of hb1) (by omega) (fun _ => rfl) fun z H4 e4 => ev_chain (i := 0) (j := z) (k := 1000000) ev_c (ev_var rfl) ev_c)) (by rw [all_map_id])) (ru_negI ru_neg) (fun hc H2 e2 => ?_) (fun hc => (q2 (-2) (by rw [stepE, if_pos (by rw [← Bool.and_assoc]; exact hc)]; rfl)).same e1)
  · refine congrArg V.bl ?_
    rw [List.length_map]
    congr 1
    · rw [Bool.eq_iff_iff, decide_eq_true_iff, decide_eq_true_iff]; omega
    · rw [Bool.eq_iff_iff, decide_eq_true_iff, decide_eq_true_iff]; omega
  · have e12 := e1.trans e2
    have hall : ∀ x ∈ B, 0 ≤ x := fun x hx => by
      rw [Bool.and_eq_true] at hc
      have := List.all_eq_true.mp hc.2 x hx
      unfold Vbwbai.inR at this
      rw [Bool.and_eq_true] at this
      exact of_decide_eq_true this.1
    have hgv : B.map V.int = (B.map Int.toNat).map fun n => nv n := by
      rw [List.map_map]
      refine List.map_congr_left fun x hx => ?_
      show V.int x = V.int ((x.toNat : Nat) : Int)
      rw [Int.toNat_of_nonneg (hall x hx)]
    have hst : Vbwbai.step s [[0], B] = (⟨B.map Int.toNat, [], [], []⟩, [0]) := by
      rw [stepE, if_neg (by rw [← Bool.and_assoc, hc]; decide)]
    unfold tSeq sFld tMake
    refine ⟨_, rfl, b, B.map V.int, rfl, .inl (.of (e2 _ _ hb1)), fun gl ngl => ?_⟩
    have eg := Ex.new (H := H2) (o := .lst (B.map V.int)) ngl
    have hgl : (upd H2 gl (.lst (B.map V.int))) gl = some (.lst (B.map V.int)) := upd_same
    generalize upd H2 gl (.lst (B.map V.int)) = H3 at eg hgl ⊢
    intro x d nx nd nxd
    have e4 := make_ex0 (C := c.Wk) nx nd
    refine ⟨x, d, gl, rfl, upd_same, fun H5 o l f' sb hx no nl nf ol of lf ho hl hf => ⟨rfl, ?_⟩⟩
    have e35 := make_ex nx nd sb
    have e05 := (e12.trans eg).trans e35
    have hdk5 := e05 _ _ hdk
    have fb : ∀ {q : Addr}, (upd (upd H3 d (.own x)) x (.ins c.Wk d [])) q = none → H q = none := fun h => fresh_back ((e12.trans eg).trans e4) h
    have na : ∀ {q : Addr}, H q = none → q ≠ dk := fun h z => by rw [z, hdk] at h; cases h
    refine ⟨_, rfl, dk, c.Dk, dx, _, rfl, hdk5, T.dk, T.dk_works, by show 1 < 1000; decide, ?_⟩
    have hgn : H gl = none := fresh_back e12 ngl
    have sbF : SB (dk :: R0) H (upd H5 dk (.ins c.Dk dx (putF "works" (.ref x) (dkF wk)))) := (SB.of e05).trans (SB.upd (List.mem_cons_self ..))
    have ef : putF "works" (.ref x) (dkF wk) = dkF x := put_here
    rw [ef] at sbF ⊢
    have hgx := e4 _ _ hgl
    have hdF : DeskAt c (upd H5 dk (.ins c.Dk dx (dkF x))) dk ⟨B.map Int.toNat, [], [], []⟩ (dk :: [o, l, f', gl]) := by
      refine ⟨dx, x, [o, l, f', gl], upd_same, ⟨d, gl, o, l, f', [], [], [], ⟨?_, ?_, ?_, All2.nil, ?_, All2.nil, ?_, All2.nil⟩, rfl, ol, of, lf, ?_⟩, ?_, rfl⟩
      · rw [upd_ne (na (fresh_back (e12.trans eg) nx))]; exact hx
      · rw [upd_ne (na hgn), e35 _ _ hgl, hgv]
      · rw [upd_ne (na (fb no))]; exact ho
      · rw [upd_ne (na (fb nl))]; exact hl
      · rw [upd_ne (na (fb nf))]; exact hf
      · intro z
        rcases List.mem_cons.mp z with z | z
        · rw [z, no] at hgx; cases hgx
        rcases List.mem_cons.mp z with z | z
        · rw [z, nl] at hgx; cases hgx
        · rw [List.mem_singleton.mp z, nf] at hgx; cases hgx
      · intro z
        rcases List.mem_cons.mp z with z | z
        · exact na (fb no) z.symm
        rcases List.mem_cons.mp z with z | z
        · exact na (fb nl) z.symm
        rcases List.mem_cons.mp z with z | z
        · exact na (fb nf) z.symm
        · exact na hgn (List.mem_singleton.mp z).symm
    refine s_retL (σ := [some (.ref dk), some (.ref nu), some (.ref rw'), some (.ref b), none]) (el_lst (ea_cons ev_c ea_nil) (by show 1 ≤ 100000; decide)) fun p H7 np e7 hp => deed_done q1 hst sbF (fun q hq => ?_) hdF (fun q hq => ?_) p H7 np e7 hp
    · rcases List.mem_cons.mp hq with z | z
      · exact ⟨_, by rw [z]; exact upd_same⟩
      · obtain ⟨o', ho'⟩ := hd.known hq
        refine ⟨o', ?_⟩
        rw [upd_ne (show q ≠ dk from fun y => hdR (y ▸ z))]
        exact e05 _ _ ho'
    · rcases List.mem_cons.mp hq with z | z
      · exact .inl (z ▸ List.mem_cons_self ..)
      rcases List.mem_cons.mp z with z | z
      · exact .inr (z ▸ fb no)
      rcases List.mem_cons.mp z with z | z
      · exact .inr (z ▸ fb nl)
      rcases List.mem_cons.mp z with z | z
      · exact .inr (z ▸ fb nf)
      · exact .inr (List.mem_singleton.mp z ▸ hgn)
end
end Uw
/-! W24: the deeds put_operation, put_link, fix, unfix. -/
namespace Uw
open PySem PySem.Spec PyProof.Rows L2 Evl
open Vbwbai (State Op Link Arrow size opAt numbers open_ okOp at_)
open Up (OkDs Good)

theorem two_of {l : List Int} (h : l.length = 2) : ∃ a b, l = [a, b] := by
  match l, h with
  | [a, b], _ => exact ⟨a, b, rfl⟩
theorem four_of {l : List Int} (h : l.length = 4) : ∃ a b c d, l = [a, b, c, d] := by
  match l, h with
  | [a, b, c, d], _ => exact ⟨a, b, c, d, rfl⟩
theorem okOp_of {s : State} {i : Int} (h : okOp s i = true) : (0 < i.toNat ∧ i.toNat < size s + 1) ∧ i = (i.toNat : Int) := by
  unfold okOp Vbwbai.inR at h
  rw [Bool.and_eq_true, decide_eq_true_iff, decide_eq_true_iff] at h
  unfold Vbwbai.int at h
  simp only [Int.ofNat_eq_natCast] at h
  omega
theorem int_eq {i j : Int} (h : (!decide (V.int i = V.int j)) = false) : i = j := by
  have : V.int i = V.int j := of_decide_eq_true (by simpa using h)
  exact V.int.inj this
theorem pD_plain (p : Nat × Nat) : (pD p).plain = true := by simp [pD, PyData.plain, PyData.plainAll]
theorem pDs_plain : ∀ ps : List (Nat × Nat), PyData.plainAll (ps.map pD) = true
  | [] => by simp [PyData.plainAll]
  | p :: ps => by
    have h1 := pD_plain p
    have h2 := pDs_plain ps
    simp [PyData.plainAll, h1, h2]
theorem erase_filter : ∀ {l : List (Nat × Nat)} {j : Nat} {p : Nat × Nat}, l.Nodup → l[j]? = some p → l.eraseIdx j = l.filter fun q => q != p
  | [], j, p, _, h => by simp at h
  | q :: l, 0, p, nd, h => by
    cases h
    have hq : ∀ x ∈ l, (x != q) = true := fun x hx => by
      rw [bne_iff_ne]
      intro z
      exact (List.nodup_cons.mp nd).1 (z ▸ hx)
    rw [List.filter_cons_of_neg (by simp), List.filter_eq_self.mpr hq]
    rfl
  | q :: l, j + 1, p, nd, h => by
    have h' : l[j]? = some p := h
    have ne : (q != p) = true := by
      rw [bne_iff_ne]
      intro z
      exact (List.nodup_cons.mp nd).1 (z ▸ List.mem_of_getElem? h')
    rw [List.filter_cons_of_pos (p := fun q => q != p) ne, ← erase_filter (List.nodup_cons.mp nd).2 h']
    rfl
theorem place_pair {ps : List (Nat × Nat)} {p : Nat × Nat} (h : p ∈ ps) : ∃ j, SeqAt.dataPlace (ps.map pD) (pD p) = some j ∧ ps[j]? = some p := by
  unfold SeqAt.dataPlace
  cases e : (ps.map pD).findIdx? fun y => PyData.eqv y (pD p) with
  | none =>
    have := List.findIdx?_eq_none_iff.mp e (pD p) (List.mem_map.mpr ⟨p, h, rfl⟩)
    rw [pD_eqv] at this
    simp at this
  | some j =>
    obtain ⟨hj, he, _⟩ := List.findIdx?_eq_some_iff_getElem.mp e
    have hj' : j < ps.length := by simpa using hj
    refine ⟨j, rfl, ?_⟩
    rw [List.getElem_map, pD_eqv, Bool.and_eq_true, beq_iff_eq, beq_iff_eq] at he
    rw [List.getElem?_eq_getElem hj']
    exact congrArg some (Prod.ext he.1 he.2)
section
variable {P : Program} {w : World} {K : PySem.W.Frag} {mg : Str → Option Value} {base : Heap} {c : Ad} {RF WT : Addr}
theorem ep_mkOp {σ : L2.St} {H : Hp} {t1 t2 t3 t4 : TE} {x1 x2 x3 x4 : V} (h1 : Ev t1 σ H x1) (h2 : Ev t2 σ H x2) (h3 : Ev t3 σ H x3) (h4 : Ev t4 σ H x4) : EvP (tMake c.Op (spOpI c) [] E0 (tCons t1 (tCons t2 (tCons t3 (tCons t4 tNil))))) σ H (fun v H2 => ∃ a d, v = .ref a ∧ H2 a = some (.ins c.Op d [("unit", x1), ("minutes", x2), ("release", x3), ("due", x4)])) := fun H0 e0 Q k => by
  have hE : EvA (tCons t1 (tCons t2 (tCons t3 (tCons t4 tNil)))) σ H [x1, x2, x3, x4] := ea_cons h1 (ea_cons h2 (ea_cons h3 (ea_cons h4 ea_nil)))
  unfold tMake
  refine hE H0 e0 _ fun H1 e1 x dx nx ndx nxd => ⟨x, dx, x1, x2, x3, x4, rfl, upd_same, fun H' sb hx => ⟨rfl, ?_⟩⟩
  exact k _ H' (e1.trans (make_ex nx ndx sb)) ⟨x, dx, rfl, hx⟩
theorem ep_mkLk {σ : L2.St} {H : Hp} {t1 t2 t3 t4 : TE} {x1 x2 x3 x4 : V} (h1 : Ev t1 σ H x1) (h2 : Ev t2 σ H x2) (h3 : Ev t3 σ H x3) (h4 : Ev t4 σ H x4) : EvP (tMake c.Lk (spLkI c) [] E0 (tCons t1 (tCons t2 (tCons t3 (tCons t4 tNil))))) σ H (fun v H2 => ∃ a d, v = .ref a ∧ H2 a = some (.ins c.Lk d [("first", x1), ("second", x2), ("least", x3), ("most", x4)])) := fun H0 e0 Q k => by
  have hE : EvA (tCons t1 (tCons t2 (tCons t3 (tCons t4 tNil)))) σ H [x1, x2, x3, x4] := ea_cons h1 (ea_cons h2 (ea_cons h3 (ea_cons h4 ea_nil)))
  unfold tMake
  refine hE H0 e0 _ fun H1 e1 x dx nx ndx nxd => ⟨x, dx, x1, x2, x3, x4, rfl, upd_same, fun H' sb hx => ⟨rfl, ?_⟩⟩
  exact k _ H' (e1.trans (make_ex nx ndx sb)) ⟨x, dx, rfl, hx⟩
theorem wk_known {H : Hp} {dk wk dx g oo l f dw : Addr} {os ls fs : List Addr} {s : State} (hdk : H dk = some (.ins c.Dk dx (dkF wk))) (hW : WkAt c H wk dw g oo l f os ls fs s) : ∀ b ∈ dk :: [oo, l, f, g], ∃ o, H b = some o := fun b hb => by
  rcases List.mem_cons.mp hb with z | z
  · exact ⟨_, z ▸ hdk⟩
  rcases List.mem_cons.mp z with z | z
  · exact ⟨_, z ▸ hW.ops⟩
  rcases List.mem_cons.mp z with z | z
  · exact ⟨_, z ▸ hW.links⟩
  rcases List.mem_cons.mp z with z | z
  · exact ⟨_, z ▸ hW.fixed⟩
  · exact ⟨_, List.mem_singleton.mp z ▸ hW.gaps⟩
theorem ev_between {σ : L2.St} {H : Hp} {ta tb tc : TE} {i j k : Int} (ha : Ev ta σ H (.int i)) (hb : Ev tb σ H (.int j)) (hc : Ev tc σ H (.int k)) : Ev (tChain (rI0 fun i j => .bl (decide (i ≤ j))) (rI0 fun i j => .bl (decide (i ≤ j))) ta tb tc) σ H (.bl (decide (i ≤ j) && decide (j ≤ k))) := ev_chain ha hb hc
theorem q_unp4 {D : Ends} {tz : TS} {σ : L2.St} {H : Hp} {nu : Addr} {a b c d : Int} {i j k l m : Nat} (h : σ[m]? = some (some (.ref nu))) (hn : H nu = some (.lst ([a, b, c, d].map V.int))) (q : tz D ((((σ.set i (some (.int a))).set j (some (.int b))).set k (some (.int c))).set l (some (.int d))) H) : tSeq (tAsg (tVar m) (gLst K 4 (gCons (gName i) (gCons (gName j) (gCons (gName k) (gCons (gName l) gNil)))))) tz D σ H :=
  ⟨_, h, nu, _, rfl, .of hn, rfl, _, _, rfl, _, _, rfl, _, _, rfl, _, _, rfl, rfl, q⟩
theorem q_unp2 {D : Ends} {tz : TS} {σ : L2.St} {H : Hp} {nu : Addr} {a b : Int} {i j m : Nat} (h : σ[m]? = some (some (.ref nu))) (hn : H nu = some (.lst ([a, b].map V.int))) (q : tz D ((σ.set i (some (.int a))).set j (some (.int b))) H) : tSeq (tAsg (tVar m) (gLst K 2 (gCons (gName i) (gCons (gName j) gNil)))) tz D σ H :=
  ⟨_, h, nu, _, rfl, .of hn, rfl, _, _, rfl, _, _, rfl, rfl, q⟩
/-! ### put_operation -/
abbrev s_put_operation : Stmt := topS 34
theorem sc_put_operation : FnScope ["desk", "numbers", "rows", "works", "unit", "minutes", "release", "due"] ["desk", "numbers", "rows"] (defScope s_put_operation) := ⟨rfl, rfl, rfl, by decide +kernel, rfl, by decide +kernel, by decide +kernel⟩
theorem ok_d1 (T : Txt2 K mg c RF WT) (D : DefG K mg "put_operation" s_put_operation ["desk", "numbers", "rows"]) (C_require : Cal P w K mg base (L2.CX P w) 3 "require" (spReq RF)) (K_Op : Mak P w K mg base CX0 1 "Operation" c.Op (spOpI c)) : Cal P w K mg base (L2.CX P w) 4 "put_operation" (spDeed c RF 1) := by
  refine calX D sc_put_operation (fun vs H Q E h => deed_len h) (fun f cdv A outer s H vs Q E hr h => ?_)
  obtain ⟨dk, nu, rw', s, R, ns, rws, rfl, hd, gd, hn, hrw, sh, h5, q1, q2⟩ := h
  obtain ⟨sh1, sh2⟩ := Prod.mk.inj (Option.some.inj sh)
  obtain ⟨u, n, r, d, rfl⟩ := four_of sh1.symm
  obtain rfl := nil_of sh2.symm
  refine ⟨_, (pss_cons (ps_set (i := 3) sc_put_operation.nd rfl (.inl rfl) (pe_f (K := K) rfl (pv 0) rfl)) (pss_cons (ps_asg (pv 1) (pg_lst rfl (pgs_cons (pg_name (i := 4) sc_put_operation.nd rfl (.inl rfl)) (pgs_cons (pg_name (i := 5) sc_put_operation.nd rfl (.inl rfl)) (pgs_cons (pg_name (i := 6) sc_put_operation.nd rfl (.inl rfl)) (pgs_cons (pg_name (i := 7) sc_put_operation.nd rfl (.inl rfl)) pgs_nil)))))) (pss_cons (ps_expr (pe_c C_require hr (by decide) (passes_call (takes_of rfl rfl rfl rfl) fun _ _ _ _ q => q) (by rfl) (pa_cons (pe_and (pe_chain op_le op_lt pe_int (pv 4) (pe_callB (lenR (K := K) rfl) (by rfl) T.len (by decide +kernel) (pa_cons (pe_f (K := K) rfl (pv 3) rfl) pa_nil))) (pe_one (pe_chain op_le op_le pe_int (pv 5) (C8.pe_gc (by rfl) T.MOST_MINUTES)))) (pa_cons (pe_un un_neg pe_int) pa_nil)))) (pss_cons (ps_expr (pe_c C_require hr (by decide) (passes_call (takes_of rfl rfl rfl rfl) fun _ _ _ _ q => q) (by rfl) (pa_cons (pe_and (pe_chain op_le op_le pe_int (pv 6) (C8.pe_gc (by rfl) T.MOST_TIME)) (pe_one (pe_chain op_le op_le (pe_un un_neg pe_int) (pv 7) (C8.pe_gc (by rfl) T.MOST_TIME)))) (pa_cons (pe_un un_neg pe_int) pa_nil)))) (pss_cons (ps_expr (pe_c C_require hr (by decide) (passes_call (takes_of rfl rfl rfl rfl) fun _ _ _ _ q => q) (by rfl) (pa_cons (pe_cmpR op_lt (pe_callB (lenR (K := K) rfl) (by rfl) T.len (by decide +kernel) (pa_cons (pe_f (K := K) rfl (pv 3) rfl) pa_nil)) (C8.pe_gc (by rfl) T.MOST_OPERATIONS) (nomark _)) (pa_cons (pe_un un_neg pe_int) pa_nil)))) (pss_cons (ps_expr (pe_bm PySem.F.plainAttrs_list PySem.F.slot_list_append PySem.F.type_list_append mt_append (pe_f (K := K) rfl (pv 3) rfl) (pa_cons (pe_mk K_Op hr (by decide) pass0 (by rfl) (pa_cons (pv 4) (pa_cons (pv 5) (pa_cons (pv 6) (pa_cons (pv 7) pa_nil))))) pa_nil))) (pss_one (ps_ret (pe_lst (pa_cons (pe_callB (lenR (K := K) rfl) (by rfl) T.len (by decide +kernel) (pa_cons (pe_f (K := K) rfl (pv 3) rfl) pa_nil)) pa_nil)))))))))), ?_⟩
  have TT := T.toTxt
  obtain ⟨dx, wk, R0, hdk, ⟨dw, g, oo, l, f', os, ls, fs, hW, rfl, ol, of, lf, gn⟩, hdR, rfl⟩ := id hd
  have g8 : s.ops.length ≤ 8 := gd.ops
  have hol := hW.opA.1
  have stepE : Vbwbai.step s [[1, u, n, r, d]] = if (Vbwbai.inR u 0 (Vbwbai.int s.gaps.length - 1) && (Vbwbai.inR n 1 1000000 && (Vbwbai.inR r 0 1000000000 && Vbwbai.inR d (-1) 1000000000))) = false then Vbwbai.ans s [-1] else if 8 ≤ s.ops.length then Vbwbai.ans s [-6] else
      (⟨s.gaps, s.ops ++ [⟨u.toNat, n.toNat, r.toNat, if d < 0 then none else some d.toNat⟩], s.links, s.fixed⟩, [Vbwbai.int (s.ops.length + 1)]) := rfl
  have hcc : (Vbwbai.inR u 0 (Vbwbai.int s.gaps.length - 1) && (Vbwbai.inR n 1 1000000 && (Vbwbai.inR r 0 1000000000 && Vbwbai.inR d (-1) 1000000000))) = (((decide (0 ≤ u) && decide (u < ((s.gaps.map fun n => nv n).length : Int))) && (decide (1 ≤ n) && decide (n ≤ 1000000))) && ((decide (0 ≤ r) && decide (r ≤ 1000000000)) && (decide (-1 ≤ d) && decide (d ≤ 1000000000)))) := by
    unfold Vbwbai.inR Vbwbai.int
    rw [Bool.eq_iff_iff]
    simp only [Bool.and_eq_true, decide_eq_true_iff, List.length_map, Int.ofNat_eq_natCast]
    omega
  rw [hcc] at stepE
  refine q_asg (ev_works TT (ev_var rfl) hdk) fun H1 e1 => ?_
  refine q_unp4 rfl (e1 _ _ hn) ?_
  refine q_req (b := (decide (0 ≤ u) && decide (u < ((s.gaps.map fun n => nv n).length : Int))) && (decide (1 ≤ n) && decide (n ≤ 1000000))) (ev_andV (ev_chain (i := 0) (j := u) ev_c (ev_var rfl) (ev_lenL (ev_fld (ev_var rfl) (hW.same e1).me T.wk T.wk_gaps (wkF_gaps ..)) (hW.same e1).gaps)) fun _ => ev_between (i := 1) (j := n) (k := 1000000) ev_c (ev_var rfl) ev_c) (ru_negI ru_neg) (fun h1 H2 e2 => ?_) (fun h1 => (q2 (-1) (by rw [stepE, if_pos (by rw [h1]; rfl)]; rfl)).same e1)
  have e12 := e1.trans e2
  refine q_req (b := (decide (0 ≤ r) && decide (r ≤ 1000000000)) && (decide (-1 ≤ d) && decide (d ≤ 1000000000))) (ev_andV (ev_between (i := 0) (j := r) (k := 1000000000) ev_c (ev_var rfl) ev_c) fun _ => ev_between (i := -1) (j := d) (k := 1000000000) (ru_negI ru_neg) (ev_var rfl) ev_c) (ru_negI ru_neg) (fun h2 H3 e3 => ?_) (fun h2 => (q2 (-1) (by rw [stepE, if_pos (by rw [h1, h2]; rfl)]; rfl)).same e12)
  have e13 := e12.trans e3
  have hW3 := hW.same e13
  have hol' : ((rf os).length : Int) = s.ops.length := by rw [List.length_map, hol]
  refine q_req (b := decide (((rf os).length : Int) < 8)) (ev_op (ev_lenL (ev_fld (ev_var rfl) hW3.me T.wk T.wk_operations (wkF_operations ..)) hW3.ops) ev_c rv_I0) (ru_negI ru_neg) (fun h3 H4 e4 => ?_) (fun h3 => (q2 (-6) (by rw [stepE, if_neg (by rw [h1, h2]; decide), if_pos (by have := of_decide_eq_false h3; omega)]; rfl)).same e13)
  have e14 := e13.trans e4
  have hW4 := hW.same e14
  have lt8 : s.ops.length < 8 := by have := of_decide_eq_true h3; omega
  have hst : Vbwbai.step s [[1, u, n, r, d]] = (⟨s.gaps, s.ops ++ [⟨u.toNat, n.toNat, r.toNat, if d < 0 then none else some d.toNat⟩], s.links, s.fixed⟩, [Vbwbai.int (s.ops.length + 1)]) := by
    rw [stepE, if_neg (by rw [h1, h2]; decide), if_neg (by omega)]
  simp only [Bool.and_eq_true, decide_eq_true_iff] at h1 h2
  refine q_appP hW4.ops (ev_fld (ev_var rfl) hW4.me T.wk T.wk_operations (wkF_operations ..)) (ep_mkOp (x1 := .int u) (x2 := .int n) (x3 := .int r) (x4 := .int d) (ev_var rfl) (ev_var rfl) (ev_var rfl) (ev_var rfl)) (by rw [List.length_map, hol]; omega) fun v H5 e5 ⟨a, da, ev, ha⟩ => ?_
  subst ev
  have e15 := e14.trans e5
  have hW5 := hW.same e15
  have hop : OpAt c H5 a ⟨u.toNat, n.toNat, r.toNat, if d < 0 then none else some d.toNat⟩ := by
    refine ⟨da, ?_⟩
    rw [ha]
    unfold opF
    congr 2
    show [(("unit" : Str), V.int u), ("minutes", V.int n), ("release", V.int r), ("due", V.int d)] = ([("unit", nv u.toNat), ("minutes", nv n.toNat), ("release", nv r.toNat), ("due", .int (dueI (if d < 0 then none else some d.toNat)))] : List (Str × V))
    have a1 : (u.toNat : Int) = u := Int.toNat_of_nonneg (by omega)
    have a2 : (n.toNat : Int) = n := Int.toNat_of_nonneg (by omega)
    have a3 : (r.toNat : Int) = r := Int.toNat_of_nonneg (by omega)
    have a4 : dueI (if d < 0 then none else some d.toNat) = d := by
      by_cases z : d < 0
      · rw [if_pos z]
        show (-1 : Int) = d
        omega
      · rw [if_neg z]
        show (d.toNat : Int) = d
        exact Int.toNat_of_nonneg (by omega)
    show [(("unit" : Str), V.int u), ("minutes", V.int n), ("release", V.int r), ("due", V.int d)] = ([("unit", V.int (u.toNat : Int)), ("minutes", V.int (n.toNat : Int)), ("release", V.int (r.toNat : Int)), ("due", .int (dueI (if d < 0 then none else some d.toNat)))] : List (Str × V))
    rw [a1, a2, a3, a4]
  have hW6 := hW5.setOps ol of (fun z => gn (z ▸ List.mem_cons_self ..)) (hW5.opA.snoc hop)
  rw [show rf (os ++ [a]) = rf os ++ [V.ref a] by simp [rf]] at hW6
  have dko : dk ≠ oo := fun z => hdR (z ▸ List.mem_cons_self ..)
  have sb6 : SB (dk :: [oo, l, f', g]) H (upd H5 oo (.lst (rf os ++ [.ref a]))) := (SB.of e15).trans (SB.upd (List.mem_cons_of_mem _ (List.mem_cons_self ..)))
  have hdk6 : (upd H5 oo (.lst (rf os ++ [.ref a]))) dk = some (.ins c.Dk dx (dkF wk)) := by rw [upd_ne dko]; exact e15 _ _ hdk
  generalize upd H5 oo (.lst (rf os ++ [.ref a])) = H6 at hW6 sb6 hdk6 ⊢
  have hl6 : H6 oo = some (.lst (rf (os ++ [a]))) := hW6.ops
  refine s_retL (xs := [nv (s.ops.length + 1)]) (el_lst (ea_cons (ev_is (ev_lenL (ev_fld (ev_var rfl) hW6.me T.wk T.wk_operations (wkF_operations ..)) hl6) (by rw [List.length_map, List.length_append, hol]; rfl)) ea_nil) (by show 1 ≤ 100000; decide)) fun p H7 np e7 hp => ?_
  exact deed_done q1 hst sb6 (wk_known hdk6 hW6) ⟨dx, wk, [oo, l, f', g], hdk6, ⟨dw, g, oo, l, f', _, _, _, hW6, rfl, ol, of, lf, gn⟩, hdR, rfl⟩ (fun b hb => .inl hb) p H7 np e7 hp
/-! ### put_link -/
abbrev s_put_link : Stmt := topS 35
theorem sc_put_link : FnScope ["desk", "numbers", "rows", "works", "first", "second", "least", "most"] ["desk", "numbers", "rows"] (defScope s_put_link) := ⟨rfl, rfl, rfl, by decide +kernel, rfl, by decide +kernel, by decide +kernel⟩
theorem q_reqOps {D : Ends} {tz : TS} {σ : L2.St} {H : Hp} {t0 t1 : TE} {a : Addr} {s : State} {ns : List Int} {E : XK} (h0 : Ev t0 σ H (.ref a)) (hw : WorksAt c H a s) (h1 : EvP t1 σ H (fun v H1 => ∃ p, v = .ref p ∧ SqL K H1 p (ns.map V.int))) (hl : ns.length ≤ 10) (k : ns.all (okOp s) = true → ∀ H1, Ex H H1 → tz D σ H1) (k2 : ns.all (okOp s) = false → Rfz RF H E (-1)) :
    tSeq (tDrop (tCall (spReqOps K c RF) [] E (tCons t0 (tCons t1 tNil)))) tz D σ H := by
  unfold tSeq tDrop tCall
  refine h0 H (Ex.refl _) _ fun H1 e1 => h1 H1 e1 _ fun v H2 e2 ⟨p, ev, hp⟩ => ?_
  subst ev
  exact ⟨a, p, s, ns, rfl, hw.same (e1.trans e2), hp, hl, fun e H3 e3 => k e H3 ((e1.trans e2).trans e3), fun e => (k2 e).same (e1.trans e2)⟩
theorem ok_d2 (T : Txt2 K mg c RF WT) (D : DefG K mg "put_link" s_put_link ["desk", "numbers", "rows"]) (C_require : Cal P w K mg base (L2.CX P w) 3 "require" (spReq RF)) (C_require_operations : Cal P w K mg base (L2.CX P w) 4 "require_operations" (spReqOps K c RF)) (K_Lk : Mak P w K mg base CX0 1 "Link" c.Lk (spLkI c)) : Cal P w K mg base (L2.CX P w) 5 "put_link" (spDeed c RF 2) := by
  refine calX D sc_put_link (fun vs H Q E h => deed_len h) (fun f cdv A outer s H vs Q E hr h => ?_)
  obtain ⟨dk, nu, rw', s, R, ns, rws, rfl, hd, gd, hn, hrw, sh, h5, q1, q2⟩ := h
  obtain ⟨sh1, sh2⟩ := Prod.mk.inj (Option.some.inj sh)
  obtain ⟨i, j, a, b, rfl⟩ := four_of sh1.symm
  obtain rfl := nil_of sh2.symm
  refine ⟨_, (pss_cons (ps_set (i := 3) sc_put_link.nd rfl (.inl rfl) (pe_f (K := K) rfl (pv 0) rfl)) (pss_cons (ps_asg (pv 1) (pg_lst rfl (pgs_cons (pg_name (i := 4) sc_put_link.nd rfl (.inl rfl)) (pgs_cons (pg_name (i := 5) sc_put_link.nd rfl (.inl rfl)) (pgs_cons (pg_name (i := 6) sc_put_link.nd rfl (.inl rfl)) (pgs_cons (pg_name (i := 7) sc_put_link.nd rfl (.inl rfl)) pgs_nil)))))) (pss_cons (ps_expr (pe_c C_require_operations hr (by decide) (passes_call (takes_of rfl rfl rfl rfl) fun _ _ _ _ q => q) (by rfl) (pa_cons (pv 3) (pa_cons (pe_lst (pa_cons (pv 4) (pa_cons (pv 5) pa_nil))) pa_nil)))) (pss_cons (ps_expr (pe_c C_require hr (by decide) (passes_call (takes_of rfl rfl rfl rfl) fun _ _ _ _ q => q) (by rfl) (pa_cons (pe_and (pe_chain op_le op_le (pe_op op_sub pe_int (C8.pe_gc (by rfl) T.MOST_TIME)) (pv 6) (C8.pe_gc (by rfl) T.MOST_TIME)) (pe_one (pe_chain op_le op_le (pe_op op_sub pe_int (C8.pe_gc (by rfl) T.MOST_TIME)) (pv 7) (C8.pe_gc (by rfl) T.MOST_TIME)))) (pa_cons (pe_un un_neg pe_int) pa_nil)))) (pss_cons (ps_expr (pe_c C_require hr (by decide) (passes_call (takes_of rfl rfl rfl rfl) fun _ _ _ _ q => q) (by rfl) (pa_cons (pe_cmpR op_ne (pv 4) (pv 5) (nomark _)) (pa_cons (pe_un un_neg pe_int) pa_nil)))) (pss_cons (ps_expr (pe_c C_require hr (by decide) (passes_call (takes_of rfl rfl rfl rfl) fun _ _ _ _ q => q) (by rfl) (pa_cons (pe_cmpR op_lt (pe_callB (lenR (K := K) rfl) (by rfl) T.len (by decide +kernel) (pa_cons (pe_f (K := K) rfl (pv 3) rfl) pa_nil)) (C8.pe_gc (by rfl) T.MOST_LINKS) (nomark _)) (pa_cons (pe_un un_neg pe_int) pa_nil)))) (pss_cons (ps_expr (pe_bm PySem.F.plainAttrs_list PySem.F.slot_list_append PySem.F.type_list_append mt_append (pe_f (K := K) rfl (pv 3) rfl) (pa_cons (pe_mk K_Lk hr (by decide) pass0 (by rfl) (pa_cons (pv 4) (pa_cons (pv 5) (pa_cons (pv 6) (pa_cons (pe_ifExp (pt_cmpR op_lt (pv 7) (pv 6) (nomark _)) pe_non (pv 7)) pa_nil))))) pa_nil))) (pss_one (ps_ret (pe_lst (pa_cons (pe_callB (lenR (K := K) rfl) (by rfl) T.len (by decide +kernel) (pa_cons (pe_f (K := K) rfl (pv 3) rfl) pa_nil)) pa_nil))))))))))), ?_⟩
  have TT := T.toTxt
  obtain ⟨dx, wk, R0, hdk, ⟨dw, g, oo, l, f', os, ls, fs, hW, rfl, ol, of, lf, gn⟩, hdR, rfl⟩ := id hd
  have g16 := gd.lnk
  have hll := hW.lkA.1
  have stepE : Vbwbai.step s [[2, i, j, a, b]] = if (okOp s i && (okOp s j && (Vbwbai.inR a (-1000000000) 1000000000 && Vbwbai.inR b (-1000000000) 1000000000))) = false then Vbwbai.ans s [-1] else if i = j then Vbwbai.ans s [-4] else if 16 ≤ s.links.length then Vbwbai.ans s [-6] else
      (⟨s.gaps, s.ops, s.links ++ [⟨i.toNat, j.toNat, a, if b < a then none else some b⟩], s.fixed⟩, [Vbwbai.int (s.links.length + 1)]) := rfl
  have hcc : (okOp s i && (okOp s j && (Vbwbai.inR a (-1000000000) 1000000000 && Vbwbai.inR b (-1000000000) 1000000000))) = (([i, j] : List Int).all (okOp s) && ((decide (0 - 1000000000 ≤ a) && decide (a ≤ 1000000000)) && (decide (0 - 1000000000 ≤ b) && decide (b ≤ 1000000000)))) := by
    unfold Vbwbai.inR
    simp only [List.all_cons, List.all_nil, Bool.and_true, Bool.and_assoc]
    rfl
  rw [hcc] at stepE
  refine q_asg (ev_works TT (ev_var rfl) hdk) fun H1 e1 => ?_
  refine q_unp4 rfl (e1 _ _ hn) ?_
  have hw : WorksAt c H wk s := ⟨dw, g, oo, l, f', os, ls, fs, hW⟩
  refine q_reqOps (s := s) (ns := [i, j]) (ev_var rfl) (hw.same e1) ((ep_L (el_lst (vs := [.int i, .int j]) (ea_cons (ev_var rfl) (ea_cons (ev_var rfl) ea_nil)) (by show 2 ≤ 100000; decide))).imp fun v H2 _ ⟨p, ev, _, hp⟩ => ⟨p, ev, .of hp⟩) (by show 2 ≤ 10; decide) (fun h1 H2 e2 => ?_) (fun h1 => (q2 (-1) (by rw [stepE, if_pos (by rw [h1]; rfl)]; rfl)).same e1)
  have e12 := e1.trans e2
  refine q_req (b := (decide (0 - 1000000000 ≤ a) && decide (a ≤ 1000000000)) && (decide (0 - 1000000000 ≤ b) && decide (b ≤ 1000000000))) (ev_andV (ev_between (i := 0 - 1000000000) (j := a) (k := 1000000000) (ev_op ev_c ev_c rv_I0) (ev_var rfl) ev_c) fun _ => ev_between (i := 0 - 1000000000) (j := b) (k := 1000000000) (ev_op ev_c ev_c rv_I0) (ev_var rfl) ev_c) (ru_negI ru_neg) (fun h2 H3 e3 => ?_) (fun h2 => (q2 (-1) (by rw [stepE, if_pos (by rw [h1, h2]; rfl)]; rfl)).same e12)
  have e13 := e12.trans e3
  refine q_req (b := !decide (V.int i = V.int j)) (ev_op (ev_var rfl) (ev_var rfl) (rv_ne rfl)) (ru_negI ru_neg) (fun h3 H4 e4 => ?_) (fun h3 => (q2 (-4) (by rw [stepE, if_neg (by rw [h1, h2]; decide), if_pos (int_eq h3)]; rfl)).same e13)
  have hij : i ≠ j := fun z => by
    subst z
    simp at h3
  have e14 := e13.trans e4
  have hW4 := hW.same e14
  have hll' : ((rf ls).length : Int) = s.links.length := by rw [List.length_map, hll]
  refine q_req (b := decide (((rf ls).length : Int) < 16)) (ev_op (ev_lenL (ev_fld (ev_var rfl) hW4.me T.wk T.wk_links (wkF_links ..)) hW4.links) ev_c rv_I0) (ru_negI ru_neg) (fun h4 H5 e5 => ?_) (fun h4 => (q2 (-6) (by rw [stepE, if_neg (by rw [h1, h2]; decide), if_neg hij, if_pos (by have := of_decide_eq_false h4; omega)]; rfl)).same e14)
  have e15 := e14.trans e5
  have hW5 := hW.same e15
  have lt16 : s.links.length < 16 := by have := of_decide_eq_true h4; omega
  have hst : Vbwbai.step s [[2, i, j, a, b]] = (⟨s.gaps, s.ops, s.links ++ [⟨i.toNat, j.toNat, a, if b < a then none else some b⟩], s.fixed⟩, [Vbwbai.int (s.links.length + 1)]) := by
    rw [stepE, if_neg (by rw [h1, h2]; decide), if_neg hij, if_neg (by omega)]
  have hi := (okOp_of (List.all_eq_true.mp h1 i (List.mem_cons_self ..))).2
  have hj := (okOp_of (List.all_eq_true.mp h1 j (List.mem_cons_of_mem _ (List.mem_cons_self ..)))).2
  refine q_appP hW5.links (ev_fld (ev_var rfl) hW5.me T.wk T.wk_links (wkF_links ..)) (ep_mkLk (x1 := .int i) (x2 := .int j) (x3 := .int a) (x4 := ov (if b < a then none else some b)) (ev_var rfl) (ev_var rfl) (ev_var rfl)
    (ev_if (b := decide (b < a)) (et_test (ev_op (ev_var rfl) (ev_var rfl) rv_I0)) (fun h => by rw [if_pos (of_decide_eq_true h)]; exact ev_c) (fun h => by rw [if_neg (of_decide_eq_false h)]; exact ev_var rfl))) (by rw [List.length_map, hll]; omega) fun v H6 e6 ⟨x, da, ev, hx⟩ => ?_
  subst ev
  have e16 := e15.trans e6
  have hW6 := hW.same e16
  have hlk : LkAt c H6 x ⟨i.toNat, j.toNat, a, if b < a then none else some b⟩ := by
    refine ⟨da, ?_⟩
    rw [hx]
    unfold lkF
    congr 2
    show [(("first" : Str), V.int i), ("second", V.int j), ("least", V.int a), ("most", ov (if b < a then none else some b))] = ([("first", V.int (i.toNat : Int)), ("second", V.int (j.toNat : Int)), ("least", .int a), ("most", ov (if b < a then none else some b))] : List (Str × V))
    rw [← hi, ← hj]
  have hW7 := hW6.setLinks ol lf (fun z => gn (z ▸ List.mem_cons_of_mem _ (List.mem_cons_self ..))) (hW6.lkA.snoc hlk)
  rw [show rf (ls ++ [x]) = rf ls ++ [V.ref x] by simp [rf]] at hW7
  have dko : dk ≠ l := fun z => hdR (z ▸ List.mem_cons_of_mem _ (List.mem_cons_self ..))
  have sb7 : SB (dk :: [oo, l, f', g]) H (upd H6 l (.lst (rf ls ++ [.ref x]))) := (SB.of e16).trans (SB.upd (List.mem_cons_of_mem _ (List.mem_cons_of_mem _ (List.mem_cons_self ..))))
  have hdk7 : (upd H6 l (.lst (rf ls ++ [.ref x]))) dk = some (.ins c.Dk dx (dkF wk)) := by rw [upd_ne dko]; exact e16 _ _ hdk
  generalize upd H6 l (.lst (rf ls ++ [.ref x])) = H7 at hW7 sb7 hdk7 ⊢
  have hl7 : H7 l = some (.lst (rf (ls ++ [x]))) := hW7.links
  refine s_retL (xs := [nv (s.links.length + 1)]) (el_lst (ea_cons (ev_is (ev_lenL (ev_fld (ev_var rfl) hW7.me T.wk T.wk_links (wkF_links ..)) hl7) (by rw [List.length_map, List.length_append, hll]; rfl)) ea_nil) (by show 1 ≤ 100000; decide)) fun p H8 np e8 hp => ?_
  exact deed_done q1 hst sb7 (wk_known hdk7 hW7) ⟨dx, wk, [oo, l, f', g], hdk7, ⟨dw, g, oo, l, f', _, _, _, hW7, rfl, ol, of, lf, gn⟩, hdR, rfl⟩ (fun b hb => .inl hb) p H8 np e8 hp
theorem q_appU {D : Ends} {tz : TS} {σ : L2.St} {H : Hp} {ta te : TE} {l : Addr} {xs ys : List V} (hl : H l = some (.lst xs)) (ha : Ev ta σ H (.ref l)) (h : EvU te σ H ys) (hz : xs.length < 100000) (k : ∀ p H1, H p = none → Ex H H1 → H1 p = some (.tup ys) → tz D σ (upd H1 l (.lst (xs ++ [.ref p])))) :
    tSeq (tDrop (tBM K "list" rAppend ta (tCons te tNil))) tz D σ H := s_appU (D := { D with nx := tz D }) hl ha h hz k
theorem q_rem {D : Ends} {tz : TS} {σ : L2.St} {H : Hp} {ta te : TE} {l : Addr} {xs ys : List V} (hl : H l = some (.lst ys)) (ha : Ev ta σ H (.ref l)) (h : EvU te σ H xs) (k : ∀ t H1, Ex H H1 → H1 t = some (.tup xs) → rRemD K (.ref l) [.ref t] H1 fun _ H2 => tz D σ H2) : tSeq (tDrop (tBM K "list" (rRemD K) ta (tCons te tNil))) tz D σ H :=
  ha H (Ex.refl H) _ fun H1 e1 => ⟨Or.inl ⟨rfl, ys, sq_of (e1 l _ hl)⟩, h H1 e1 _ fun t H2 nt e2 ht => k t H2 (e1.trans e2) ht⟩
/-! ### fix -/
abbrev s_fix : Stmt := topS 36
theorem sc_fix : FnScope ["desk", "numbers", "rows", "works", "first", "second"] ["desk", "numbers", "rows"] (defScope s_fix) := ⟨rfl, rfl, rfl, by decide +kernel, rfl, by decide +kernel, by decide +kernel⟩
theorem ok_d3 (T : Txt2 K mg c RF WT) (D : DefG K mg "fix" s_fix ["desk", "numbers", "rows"]) (C_require : Cal P w K mg base (L2.CX P w) 3 "require" (spReq RF)) (C_require_operations : Cal P w K mg base (L2.CX P w) 4 "require_operations" (spReqOps K c RF)) (M_Wk_is_one_unit : Met P w K mg base CX0 2 c.Wk "is_one_unit" (spOneUnit c)) (M_Wk_is_fixed : Met P w K mg base CX0 1 c.Wk "is_fixed" (spIsFixed c)) : Cal P w K mg base (L2.CX P w) 5 "fix" (spDeed c RF 3) := by
  refine calX D sc_fix (fun vs H Q E h => deed_len h) (fun f cdv A outer s H vs Q E hr h => ?_)
  obtain ⟨dk, nu, rw', s, R, ns, rws, rfl, hd, gd, hn, hrw, sh, h5, q1, q2⟩ := h
  obtain ⟨sh1, sh2⟩ := Prod.mk.inj (Option.some.inj sh)
  obtain ⟨i, j, rfl⟩ := two_of sh1.symm
  obtain rfl := nil_of sh2.symm
  refine ⟨_, (pss_cons (ps_set (i := 3) sc_fix.nd rfl (.inl rfl) (pe_f (K := K) rfl (pv 0) rfl)) (pss_cons (ps_asg (pv 1) (pg_lst rfl (pgs_cons (pg_name (i := 4) sc_fix.nd rfl (.inl rfl)) (pgs_cons (pg_name (i := 5) sc_fix.nd rfl (.inl rfl)) pgs_nil)))) (pss_cons (ps_expr (pe_c C_require_operations hr (by decide) (passes_call (takes_of rfl rfl rfl rfl) fun _ _ _ _ q => q) (by rfl) (pa_cons (pv 3) (pa_cons (pv 1) pa_nil)))) (pss_cons (ps_expr (pe_c C_require hr (by decide) (passes_call (takes_of rfl rfl rfl rfl) fun _ _ _ _ q => q) (by rfl) (pa_cons (pe_mt M_Wk_is_one_unit hr (by decide) pass0 (pv 3) (pa_cons (pv 4) (pa_cons (pv 5) pa_nil))) (pa_cons (pe_un un_neg pe_int) pa_nil)))) (pss_cons (ps_expr (pe_c C_require hr (by decide) (passes_call (takes_of rfl rfl rfl rfl) fun _ _ _ _ q => q) (by rfl) (pa_cons (pe_not (pe_mt M_Wk_is_fixed hr (by decide) pass0 (pv 3) (pa_cons (pv 4) (pa_cons (pv 5) pa_nil)))) (pa_cons (pe_un un_neg pe_int) pa_nil)))) (pss_cons (ps_expr (pe_bm PySem.F.plainAttrs_list PySem.F.slot_list_append PySem.F.type_list_append mt_append (pe_f (K := K) rfl (pv 3) rfl) (pa_cons (pe_tup (pa_cons (pv 4) (pa_cons (pv 5) pa_nil))) pa_nil))) (pss_one (ps_ret (pe_lst (pa_cons pe_int pa_nil)))))))))), ?_⟩
  have TT := T.toTxt
  obtain ⟨dx, wk, R0, hdk, ⟨dw, g, oo, l, f', os, ls, fs, hW, rfl, ol, of, lf, gn⟩, hdR, rfl⟩ := id hd
  have fl := Up.fixed_few gd
  have hfl := hW.fxA.1
  have stepE : Vbwbai.step s [[3, i, j]] = if (okOp s i && okOp s j) = false then Vbwbai.ans s [-1] else if i = j ∨ (opAt s i.toNat).unit ≠ (opAt s j.toNat).unit then Vbwbai.ans s [-4] else if Vbwbai.fixedBy s.fixed i.toNat j.toNat = true then Vbwbai.ans s [-3] else (⟨s.gaps, s.ops, s.links, s.fixed ++ [(i.toNat, j.toNat)]⟩, [0]) := rfl
  have hcc : (okOp s i && okOp s j) = ([i, j] : List Int).all (okOp s) := by simp only [List.all_cons, List.all_nil, Bool.and_true]
  rw [hcc] at stepE
  have hw : WorksAt c H wk s := ⟨dw, g, oo, l, f', os, ls, fs, hW⟩
  refine q_asg (ev_works TT (ev_var rfl) hdk) fun H1 e1 => ?_
  refine q_unp2 rfl (e1 _ _ hn) ?_
  refine q_reqOps (s := s) (ns := [i, j]) (ev_var rfl) (hw.same e1) (fun H2 e2 Q k => ⟨_, rfl, k _ H2 (Ex.refl _) ⟨nu, rfl, .of (e2 _ _ (e1 _ _ hn))⟩⟩) (by show 2 ≤ 10; decide) (fun h1 H2 e2 => ?_) (fun h1 => (q2 (-1) (by rw [stepE, if_pos h1]; rfl)).same e1)
  have hi := okOp_of (List.all_eq_true.mp h1 i (List.mem_cons_self ..))
  have hj := okOp_of (List.all_eq_true.mp h1 j (List.mem_cons_of_mem _ (List.mem_cons_self ..)))
  have e12 := e1.trans e2
  have vi : V.int i = nv i.toNat := congrArg V.int hi.2
  have vj : V.int j = nv j.toNat := congrArg V.int hj.2
  have hou : oneUnit s i.toNat j.toNat = true ↔ ¬ (i = j ∨ (opAt s i.toNat).unit ≠ (opAt s j.toNat).unit) := by
    unfold oneUnit
    rw [Bool.and_eq_true, decide_eq_true_iff, beq_iff_eq, not_or, Classical.not_not]
    refine and_congr_left fun _ => not_congr ?_
    constructor
    · intro z; rw [hi.2, hj.2, z]
    · intro z; rw [z]
  refine q_req (b := oneUnit s i.toNat j.toNat) (ev_meth (ev_var rfl) (hW.same e12).me (wkF_no _ _ _ _ (by decide +kernel) (by decide +kernel) (by decide +kernel) (by decide +kernel)) (ea_cons (ev_var rfl) (ea_cons (ev_var rfl) ea_nil)) fun H3 e3 Q q E => ⟨wk, s, i.toNat, j.toNat, by rw [vi, vj], hw.same (e12.trans e3), hi.1, hj.1, q⟩) (ru_negI ru_neg) (fun h2 H3 e3 => ?_) (fun h2 => (q2 (-4) (by rw [stepE, if_neg (by rw [h1]; decide), if_pos (Classical.byContradiction fun z => by rw [hou.mpr z] at h2; cases h2)]; rfl)).same e12)
  have h2' := hou.mp h2
  have e13 := e12.trans e3
  refine q_req (b := !Vbwbai.fixedBy s.fixed i.toNat j.toNat) (ev_notV (ev_meth (ev_var rfl) (hW.same e13).me (wkF_no _ _ _ _ (by decide +kernel) (by decide +kernel) (by decide +kernel) (by decide +kernel)) (ea_cons (ev_var rfl) (ea_cons (ev_var rfl) ea_nil)) fun H4 e4 Q q E => ⟨wk, s, i.toNat, j.toNat, by rw [vi, vj], hw.same (e13.trans e4), q⟩)) (ru_negI ru_neg) (fun h3 H4 e4 => ?_) (fun h3 => (q2 (-3) (by rw [stepE, if_neg (by rw [h1]; decide), if_neg h2', if_pos (by simpa using h3)]; rfl)).same e13)
  have h3' : ¬ Vbwbai.fixedBy s.fixed i.toNat j.toNat = true := by simpa using h3
  have e14 := e13.trans e4
  have hW4 := hW.same e14
  have hst : Vbwbai.step s [[3, i, j]] = (⟨s.gaps, s.ops, s.links, s.fixed ++ [(i.toNat, j.toNat)]⟩, [0]) := by rw [stepE, if_neg (by rw [h1]; decide), if_neg h2', if_neg h3']
  refine q_appU (ys := [.int i, .int j]) hW4.fixed (ev_fld (ev_var rfl) hW4.me T.wk T.wk_fixed (wkF_fixed ..)) (eu_tup (ea_cons (ev_var rfl) (ea_cons (ev_var rfl) ea_nil)) (by show 2 ≤ 100000; decide)) (by rw [List.length_map, hfl]; omega) fun t H6 nt e6 ht => ?_
  have e16 := e14.trans e6
  have hW6 := hW.same e16
  have hpt : PairAt H6 t (i.toNat, j.toNat) := by
    show H6 t = some (.tup [nv i.toNat, nv j.toNat])
    rw [ht, vi, vj]
  have hW7 := hW6.setFixed of lf (fun z => gn (z ▸ List.mem_cons_of_mem _ (List.mem_cons_of_mem _ (List.mem_cons_self ..)))) (hW6.fxA.snoc hpt)
  rw [show rf (fs ++ [t]) = rf fs ++ [V.ref t] by simp [rf]] at hW7
  have dko : dk ≠ f' := fun z => hdR (z ▸ List.mem_cons_of_mem _ (List.mem_cons_of_mem _ (List.mem_cons_self ..)))
  have sb7 : SB (dk :: [oo, l, f', g]) H (upd H6 f' (.lst (rf fs ++ [.ref t]))) := (SB.of e16).trans (SB.upd (List.mem_cons_of_mem _ (List.mem_cons_of_mem _ (List.mem_cons_of_mem _ (List.mem_cons_self ..)))))
  have hdk7 : (upd H6 f' (.lst (rf fs ++ [.ref t]))) dk = some (.ins c.Dk dx (dkF wk)) := by rw [upd_ne dko]; exact e16 _ _ hdk
  generalize upd H6 f' (.lst (rf fs ++ [.ref t])) = H7 at hW7 sb7 hdk7 ⊢
  refine s_retL (el_lst (ea_cons ev_c ea_nil) (by show 1 ≤ 100000; decide)) fun p H8 np e8 hp => ?_
  exact deed_done q1 hst sb7 (wk_known hdk7 hW7) ⟨dx, wk, [oo, l, f', g], hdk7, ⟨dw, g, oo, l, f', _, _, _, hW7, rfl, ol, of, lf, gn⟩, hdR, rfl⟩ (fun b hb => .inl hb) p H8 np e8 hp
/-! ### unfix -/
abbrev s_unfix : Stmt := topS 37
theorem sc_unfix : FnScope ["desk", "numbers", "rows", "works", "first", "second"] ["desk", "numbers", "rows"] (defScope s_unfix) := ⟨rfl, rfl, rfl, by decide +kernel, rfl, by decide +kernel, by decide +kernel⟩
theorem ok_d4 (T : Txt2 K mg c RF WT) (D : DefG K mg "unfix" s_unfix ["desk", "numbers", "rows"]) (C_require : Cal P w K mg base (L2.CX P w) 3 "require" (spReq RF)) (C_require_operations : Cal P w K mg base (L2.CX P w) 4 "require_operations" (spReqOps K c RF)) : Cal P w K mg base (L2.CX P w) 5 "unfix" (spDeed c RF 4) := by
  refine calX D sc_unfix (fun vs H Q E h => deed_len h) (fun f cdv A outer s H vs Q E hr h => ?_)
  obtain ⟨dk, nu, rw', s, R, ns, rws, rfl, hd, gd, hn, hrw, sh, h5, q1, q2⟩ := h
  obtain ⟨sh1, sh2⟩ := Prod.mk.inj (Option.some.inj sh)
  obtain ⟨i, j, rfl⟩ := two_of sh1.symm
  obtain rfl := nil_of sh2.symm
  refine ⟨_, (pss_cons (ps_set (i := 3) sc_unfix.nd rfl (.inl rfl) (pe_f (K := K) rfl (pv 0) rfl)) (pss_cons (ps_asg (pv 1) (pg_lst rfl (pgs_cons (pg_name (i := 4) sc_unfix.nd rfl (.inl rfl)) (pgs_cons (pg_name (i := 5) sc_unfix.nd rfl (.inl rfl)) pgs_nil)))) (pss_cons (ps_expr (pe_c C_require_operations hr (by decide) (passes_call (takes_of rfl rfl rfl rfl) fun _ _ _ _ q => q) (by rfl) (pa_cons (pv 3) (pa_cons (pv 1) pa_nil)))) (pss_cons (ps_expr (pe_c C_require hr (by decide) (passes_call (takes_of rfl rfl rfl rfl) fun _ _ _ _ q => q) (by rfl) (pa_cons (pe_cmpR (op_inD hr.units65) (pe_tup (pa_cons (pv 4) (pa_cons (pv 5) pa_nil))) (pe_f (K := K) rfl (pv 3) rfl) (by with_unfolding_all rfl)) (pa_cons (pe_un un_neg pe_int) pa_nil)))) (pss_cons (ps_expr (pe_bm PySem.F.plainAttrs_list PySem.F.slot_list_remove PySem.F.type_list_remove (mt_remD hr.units) (pe_f (K := K) rfl (pv 3) rfl) (pa_cons (pe_tup (pa_cons (pv 4) (pa_cons (pv 5) pa_nil))) pa_nil))) (pss_one (ps_ret (pe_lst (pa_cons pe_int pa_nil))))))))), ?_⟩
  have TT := T.toTxt
  obtain ⟨dx, wk, R0, hdk, ⟨dw, g, oo, l, f', os, ls, fs, hW, rfl, ol, of, lf, gn⟩, hdR, rfl⟩ := id hd
  have fl := Up.fixed_few gd
  have hfl := hW.fxA.1
  have stepE : Vbwbai.step s [[4, i, j]] = if (okOp s i && okOp s j) = false then Vbwbai.ans s [-1] else if s.fixed.contains (i.toNat, j.toNat) = false then Vbwbai.ans s [-7] else (⟨s.gaps, s.ops, s.links, s.fixed.filter fun p => p != (i.toNat, j.toNat)⟩, [0]) := rfl
  have hcc : (okOp s i && okOp s j) = ([i, j] : List Int).all (okOp s) := by simp only [List.all_cons, List.all_nil, Bool.and_true]
  rw [hcc] at stepE
  have hw : WorksAt c H wk s := ⟨dw, g, oo, l, f', os, ls, fs, hW⟩
  refine q_asg (ev_works TT (ev_var rfl) hdk) fun H1 e1 => ?_
  refine q_unp2 rfl (e1 _ _ hn) ?_
  refine q_reqOps (s := s) (ns := [i, j]) (ev_var rfl) (hw.same e1) (fun H2 e2 Q k => ⟨_, rfl, k _ H2 (Ex.refl _) ⟨nu, rfl, .of (e2 _ _ (e1 _ _ hn))⟩⟩) (by show 2 ≤ 10; decide) (fun h1 H2 e2 => ?_) (fun h1 => (q2 (-1) (by rw [stepE, if_pos h1]; rfl)).same e1)
  have hi := okOp_of (List.all_eq_true.mp h1 i (List.mem_cons_self ..))
  have hj := okOp_of (List.all_eq_true.mp h1 j (List.mem_cons_of_mem _ (List.mem_cons_self ..)))
  have e12 := e1.trans e2
  have vi : V.int i = nv i.toNat := congrArg V.int hi.2
  have vj : V.int j = nv j.toNat := congrArg V.int hj.2
  have hcon : s.fixed.contains (i.toNat, j.toNat) = s.fixed.any fun z => z.1 == i.toNat && z.2 == j.toNat := by
    rw [Bool.eq_iff_iff, List.contains_iff_mem, List.any_eq_true]
    constructor
    · intro z; exact ⟨_, z, by simp⟩
    · rintro ⟨x, hx, he⟩
      rw [Bool.and_eq_true, beq_iff_eq, beq_iff_eq] at he
      rw [← he.1, ← he.2]
      exact hx
  have tup : ∀ {σ : L2.St} {H3 : Hp}, σ[4]? = some (some (.int i)) → σ[5]? = some (some (.int j)) → EvU (tTup (tCons (tVar 4) (tCons (tVar 5) tNil))) σ H3 (pairV (i.toNat, j.toNat)) := fun {σ H3} a b => by
    show EvU _ _ _ [nv i.toNat, nv j.toNat]
    rw [← vi, ← vj]
    exact eu_tup (ea_cons (ev_var a) (ea_cons (ev_var b) ea_nil)) (by show 2 ≤ 100000; decide)
  have hW2 := hW.same e12
  refine q_req (b := s.fixed.any fun z => z.1 == i.toNat && z.2 == j.toNat) (ev_inPairs (p := (i.toNat, j.toNat)) (tup rfl rfl) (ev_fld (ev_var rfl) hW2.me T.wk T.wk_fixed (wkF_fixed ..)) ⟨fs, hW2.fixed, hW2.fxA⟩) (ru_negI ru_neg) (fun h2 H3 e3 => ?_) (fun h2 => (q2 (-7) (by rw [stepE, if_neg (by rw [h1]; decide), if_pos (by rw [hcon]; exact h2)]; rfl)).same e12)
  have e13 := e12.trans e3
  have hW3 := hW.same e13
  have hmem : (i.toNat, j.toNat) ∈ s.fixed := List.contains_iff_mem.mp (by rw [hcon]; exact h2)
  obtain ⟨k, hk1, hk2⟩ := place_pair hmem
  have hst : Vbwbai.step s [[4, i, j]] = (⟨s.gaps, s.ops, s.links, s.fixed.filter fun p => p != (i.toNat, j.toNat)⟩, [0]) := by rw [stepE, if_neg (by rw [h1]; decide), if_neg (by rw [hcon, h2]; decide)]
  refine q_rem hW3.fixed (ev_fld (ev_var rfl) hW3.me T.wk T.wk_fixed (wkF_fixed ..)) (tup rfl rfl) fun t H6 e6 ht => ?_
  have e16 := e13.trans e6
  have hW6 := hW.same e16
  refine ⟨f', rf fs, .ref t, pD (i.toNat, j.toNat), s.fixed.map pD, k, rfl, rfl, hW6.fixed, dp_all hW6.fxA, dp_pair ht, pDs_plain _, pD_plain _, ?_, hk1, ?_⟩
  · have := pD_deep (i.toNat, j.toNat)
    omega
  · have hW7 := hW6.setFixed of lf (fun z => gn (z ▸ List.mem_cons_of_mem _ (List.mem_cons_of_mem _ (List.mem_cons_self ..)))) (hW6.fxA.erase k)
    rw [erase_filter gd.nd hk2] at hW7
    have er : rf (fs.eraseIdx k) = (rf fs).eraseIdx k := by
      show (fs.eraseIdx k).map V.ref = (fs.map V.ref).eraseIdx k
      rw [List.eraseIdx_eq_take_drop_succ, List.eraseIdx_eq_take_drop_succ, List.map_append, List.map_take, List.map_drop]
    rw [er] at hW7
    have dko : dk ≠ f' := fun z => hdR (z ▸ List.mem_cons_of_mem _ (List.mem_cons_of_mem _ (List.mem_cons_self ..)))
    have sb7 : SB (dk :: [oo, l, f', g]) H (upd H6 f' (.lst ((rf fs).eraseIdx k))) := (SB.of e16).trans (SB.upd (List.mem_cons_of_mem _ (List.mem_cons_of_mem _ (List.mem_cons_of_mem _ (List.mem_cons_self ..)))))
    have hdk7 : (upd H6 f' (.lst ((rf fs).eraseIdx k))) dk = some (.ins c.Dk dx (dkF wk)) := by rw [upd_ne dko]; exact e16 _ _ hdk
    show tRet _ _ _ (upd H6 f' (.lst ((rf fs).eraseIdx k)))
    generalize upd H6 f' (.lst ((rf fs).eraseIdx k)) = H7 at hW7 sb7 hdk7 ⊢
    refine s_retL (el_lst (ea_cons ev_c ea_nil) (by show 1 ≤ 100000; decide)) fun p H8 np e8 hp => ?_
    exact deed_done q1 hst sb7 (wk_known hdk7 hW7) ⟨dx, wk, [oo, l, f', g], hdk7, ⟨dw, g, oo, l, f', _, _, _, hW7, rfl, ol, of, lf, gn⟩, hdR, rfl⟩ (fun b hb => .inl hb) p H8 np e8 hp
end
end Uw
/-! W25: a list comprehension whose element may raise. -/
namespace Uw
open PySem PySem.Spec PyProof.Rows L2
theorem hok_lose {P : Program} {w : World} {H : Hp} {h h' : Heap} {C : Addr} (x : HOk P w H h) (nC : H C = none) (k : ∀ b o, b ≠ C → h.get? b = some o → h'.get? b = some o) : HOk P w H h' := fun a o e =>
  (x a o e).stay (fun c v hc q => k c v (fun z => by
    subst z
    rcases hc with z | z
    · rw [← z, nC] at e; cases e
    · rw [nC] at z; cases z) q) (fun _ q => q) fun _ _ q => q
theorem frames_no {h base : Heap} : ∀ {l : List Env}, h.FunFrames base l → ∀ L ∈ frs l, base.get? L = none
  | [], _, L, z => by cases z
  | e :: l, ⟨_, ⟨L', o, hf, hb, _⟩, r⟩, L, z => by
    have z' : L ∈ (e :: l).filterMap (·.frame) := z
    rw [List.filterMap_cons, hf] at z'
    rcases List.mem_cons.mp z' with q | q
    · rw [q]; exact hb
    · exact frames_no r L q
section
variable {X : Cx}
/-- what a call in the block let out goes on in the def -/
theorem blk_out {pins : List (Addr × Obj)} {σ : L2.St} {H' : Hp} {s' s'' : Shared} {ce : Env} {m : Str → Option Value} {E : XK} {W : WX} {u : Value} (I : Inv X pins σ H' s') (hn : s'.heap.Ns ce.locals m) (hC : FpOk X pins H' ce.locals) (hce : ce.frame = X.env.frame)
    (hs : X.stack = X.env :: X.outer) (hf : X.env.frame = some X.env.locals) (tk : L2N.Takes X W) (hW : ∀ cls d σ H, E cls d H → W cls d σ H) (hCs : ce.locals ∉ frs X.stack) (cx : L2N.CX X.prog X.w X.stack H' s' E u s'') :
    notedBy (model X.prog X.w) X.A ce (CompFails (model X.prog X.w) X.A X.xe ce) u s'' := by
  obtain ⟨a, B, G, cls, d, rfl, fl, okB, ub, na, hos, hag, hE⟩ := cx
  obtain ⟨oC, es, ep, hoC, hdC, rest⟩ := id hn
  have hBC : B.get? ce.locals = some oC := ub.keep _ _ hoC hC.1 hCs
  have hn2 : s''.heap.Ns ce.locals m := ⟨oC, es, ep, fl.1 _ _ hBC, hdC, rest⟩
  have gC : G ce.locals = none := ub.free _ _ hoC hC.1
  have ndC : ∀ vs, oC.data ≠ .fields vs := fun vs z => by rw [hdC] at z; cases z
  -- the state without the exception and without the block
  obtain ⟨F, F1, F2⟩ := restrict s''.heap fun b => decide (b ≠ ce.locals) && ((B.get? b).isSome || decide (b ∈ frs X.stack))
  obtain ⟨B', B1, B2⟩ := restrict B fun b => decide (b ≠ ce.locals)
  have b1 : ∀ b, b ≠ ce.locals → B'.get? b = B.get? b := fun b hb => B1 b (decide_eq_true hb)
  have b2 : B'.get? ce.locals = none := B2 _ (by simp)
  have bB : ∀ b o, B'.get? b = some o → B.get? b = some o ∧ b ≠ ce.locals := fun b o e => by
    by_cases hb : b = ce.locals
    · rw [hb, b2] at e; cases e
    · exact ⟨by rw [← b1 b hb]; exact e, hb⟩
  have fB : ∀ b o, b ≠ ce.locals → B.get? b = some o → F.get? b = some o := fun b o hb e => by
    rw [F1 b (by simp [e, hb])]
    exact fl.1 b o e
  have fS : ∀ b, b ≠ ce.locals → b ∈ frs X.stack → F.get? b = s''.heap.get? b := fun b hb z => F1 b (by simp [hb, z])
  have fO : ∀ b o, F.get? b = some o → s''.heap.get? b = some o ∧ b ≠ ce.locals ∧ ((B.get? b).isSome = true ∨ b ∈ frs X.stack) := fun b o e => by
    cases q : (decide (b ≠ ce.locals) && ((B.get? b).isSome || decide (b ∈ frs X.stack))) with
    | false =>
      rw [F2 b q] at e
      cases e
    | true =>
      rw [F1 b q] at e
      rw [Bool.and_eq_true, Bool.or_eq_true, decide_eq_true_iff, decide_eq_true_iff] at q
      exact ⟨e, q.1, q.2⟩
  have J : Inv X pins σ G { s' with heap := F, gens := s''.gens, drawn := s''.drawn, toks := s''.toks } := by
    refine I.call' (ch := [ce.locals]) rfl ⟨fun b o e n hb hc => ?_, fun b o e n hb hc => ?_, fun b o e n _ => ub.free b o e n, fun b o e hc => ?_, ub.tups, ub.frzs, ub.tbls⟩ (hok_lose okB gC fB) hag fun b hb => ?_
    · exact fB b o (fun z => hc (List.mem_singleton.mpr z)) (ub.keep b o e n hb)
    · obtain ⟨sl, q⟩ := ub.slot b o e hb
      exact ⟨sl, by rw [fS b (fun z => hc (List.mem_singleton.mpr z)) hb]; exact q⟩
    · have hb' : b ≠ ce.locals := fun z => hc (List.mem_singleton.mpr z)
      by_cases hb : b ∈ frs X.stack
      · obtain ⟨sl, q⟩ := ub.slot b o e hb
        exact ⟨_, by rw [fS b hb' hb]; exact q⟩
      · obtain ⟨o', q⟩ := ub.there b o e hb
        exact ⟨o', fB b o' hb' q⟩
    · rw [List.mem_singleton.mp hb]
      exact ⟨hC.2.2.2.1, hC.2.1, hC.2.2.2.2.1, hC.2.2.2.2.2⟩
  -- the note
  have hfr : X.A.frames = some (X.env :: X.outer) := by rw [← hs]; exact I.ok.frames
  have fl' : HandSPX.FlyingZ B (X.env :: X.outer) a (L2N.Zn cls d) s''.heap := by rw [← hs]; exact fl
  show wpAny _ _ (noteFrame (.ref a) ce) _ _ s''
  rw [noteFrame_env _ hce]
  refine PXN.looks_onZ L2N.Zn.steady hfr hf fl' fun h1 held up1 => ⟨m, Heap.UpToSlots.ns up1 hn2, fun h2 m2 hns2 sb2 => ?_⟩
  obtain ⟨k1, k2, k3, oe, vs, T, oT, ts, he, hz, hd, hv1, hnT, hTe, hT, hdT, hts⟩ := held
  obtain ⟨sl, hC1⟩ := up1 _ _ (fl.1 _ _ hBC) ndC
  have aC : a ≠ ce.locals := fun z => by
    rw [z, hC1] at he
    cases he
    exact ndC vs hd
  have TC : T ≠ ce.locals := fun z => by
    rw [z, hC1] at hT
    cases hT
    exact ndC ts hdT
  have he2 : h2.get? a = some oe := (sb2.2 a aC).trans he
  have held2 : HandSPX.HeldZ B' (X.env :: X.outer) a (L2N.Zn cls d) X.env.locals h2 := by
    refine ⟨fun b o e => ?_, ?_, ?_, oe, vs, T, oT, ts, he2, hz, hd, hv1, by rw [b1 T TC]; exact hnT, hTe, (sb2.2 T TC).trans hT, hdT, hts⟩
    · obtain ⟨e', hb⟩ := bB b o e
      exact (sb2.2 b hb).trans (k1 b o e')
    · rw [b1 a aC]; exact k2
    · have q := Heap.FunFrames.sameBut sb2 hns2 k3
      refine funFrames_none q fun L hL => ?_
      have z := frames_no q L hL
      by_cases y : L = ce.locals
      · rw [y]; exact b2
      · rw [b1 L y]; exact z
  unfold PySem.passOn
  refine wpAny_bind (wpAny_field he2 hd hv1 ?_)
  rw [if_neg (show ¬ ((Value.ref T == Value.none) = true) by simp), hce, hf]
  refine wpAny_bind (HandSPX.setFlight_onZ held2 fun h3 held3 up3 => wpAny_throw ?_)
  refine tk _ _ ⟨a, B', _, pins, σ, G, cls, d, rfl, J, fun b o e hb => ?_, fun b o e nd => ?_, ?_, na, hos, hag, hW _ _ _ _ hE⟩
  · obtain ⟨e1, e2, e3⟩ := fO b o e
    rcases e3 with z | z
    · obtain ⟨o', q⟩ := Option.isSome_iff_exists.mp z
      have y := fl.1 b o' q
      rw [e1] at y
      cases y
      rw [b1 b e2]
      exact q
    · exact absurd z hb
  · obtain ⟨e1, e2, _⟩ := fO b o e
    obtain ⟨sl1, q1⟩ := up1 b o e1 nd
    obtain ⟨sl3, q3⟩ := up3 b _ ((sb2.2 b e2).trans q1) nd
    exact ⟨sl3, q3⟩
  · rw [hs]
    exact .inr (.inr held3)
/-- the block's context, with a way out -/
abbrev blkE (X : Cx) (s : Shared) (H : Hp) (scope : Scope) (ce : Env) (fp : List Addr) (xe : Value → Shared → Prop) : Cx := (X.blk s H scope ce fp).tr [] xe
/-- out of the block nothing but E comes -/
def EltOk (X : Cx) (scope : Scope) (E : XK) (R : Cx → Prop) : Prop := ∀ (s : Shared) (H : Hp) (C : Addr) (cl : List (Str × Addr)) (fp : List Addr) (xe : Value → Shared → Prop), Passes (L2N.CX X.prog X.w) (blkE X s H scope (compEnvC scope cl C X.env) fp xe) E → R (blkE X s H scope (compEnvC scope cl C X.env) fp xe)
theorem lcE_core {pins : List (Addr × Obj)} {s : Shared} {σ : L2.St} {H : Hp} {Q : VK} {elt tg iter : Expr} {scope : Scope} {own : List (Str × Nat)} {pos pos' : Pos} {wi : TI} {g : TG} {te : TE} {u : Value → Sem Unit} {Qf : Value → Shared → Prop} {E : XK} {W : WX}
    (hc : X.calm = true) (hN : X.N.Nodup) (I : Inv X pins σ H s) (hi : PI X tg iter wi) (ok : BlkOk X.N X.env.scope scope own) (hs : X.stack = X.env :: X.outer) (hf : X.env.frame = some X.env.locals) (tk : L2N.Takes X W) (hW : ∀ cls d σ H, E cls d H → W cls d σ H)
    (hg : EltOk X scope E fun Y => PG Y tg g) (he : EltOk X scope E fun Y => PE Y elt te) (hfo : ∀ x, foldedSetIterable iter X.env x = pure x) (h : tLc wi g tYes te (own.map (·.2)) σ H Q)
    (hRR : ∀ D (ce : Env) s' m H', Inv X pins σ H' s' → Q (.ref D) H' → s'.heap.Ns ce.locals m → FpOk X pins H' ce.locals → compEnds (model X.prog X.w) X.A X.xe (some u) Qf (.ref D) ce (.ok .next) s') :
    wpAny (model X.prog X.w) X.A (comprehension (.ListComp elt [⟨tg, iter, [], 0⟩] scope pos) scope X.env pos' (newList []) false (eval iter X.env) (some u)) Qf X.xe s := by
  have fr : ∀ y ∈ scope.names, y.2 = .free → ∃ c, X.env.cells.lookup y.1 = some c := fun y hy e => (ok.free y hy e).elim (fun k => I.ok.has _ (.inl k)) fun k => I.ok.has _ (.inr k)
  refine comprehension_at (use := some u) rfl hfo (closure_ok fr) ok.kind (fun y hy e => by rw [ok.uniq y hy, e]) (thn (hi.run pins s σ H _ I h) fun xv sa qa => thn qa fun itv sb qb => ?_)
  obtain ⟨it, fp, tn, J, Hb, e, Ib, T, stb, fb, q⟩ := qb
  subst e
  refine wpAny_newObj_type (newEnv_comp ?_) (Nat.zero_le _)
  -- the new list at D
  have hD : Hb sb.heap.objs.size = none := Ib.hok.fresh (Nat.le_refl _)
  obtain ⟨Wm, ⟨m0, w0⟩, turn⟩ := q _ hD
  have Ic : Inv X pins σ (upd Hb sb.heap.objs.size (.lst [])) { sb with heap := sb.heap.push { cls := .type "list", data := .seq ([] : List Value).toArray } } :=
    Ib.laid (t' := sb.toks) (fun b o e => Heap.get?_push_of_some _ e) (Nat.le_refl _) ⟨Nat.zero_le _, [], 0, .nil, Heap.get?_push_size _ rfl⟩
  have lt : ∀ b ∈ fp, b < sb.heap.objs.size := fun b hb => by
    obtain ⟨o, e, _⟩ := T.obj _ _ stb b hb
    exact Heap.lt_size e
  generalize hsc : ({ sb with heap := sb.heap.push { cls := .type "list", data := .seq ([] : List Value).toArray } } : Shared) = sc at Ic
  have hh : sc.heap = sb.heap.push { cls := .type "list", data := .seq ([] : List Value).toArray } := by rw [← hsc]
  have fc : ∀ b ∈ fp, FpOk X pins (upd Hb sb.heap.objs.size (.lst [])) b ∧ b < sc.heap.objs.size := fun b hb => by
    have z := lt b hb
    exact ⟨⟨by rw [upd_ne (Nat.ne_of_lt z)]; exact (fb b hb).1, (fb b hb).2⟩, by rw [hh, Heap.size_push]; exact Nat.lt_succ_of_lt z⟩
  have stc : tn 0 sc.heap := T.keep _ _ _ stb fun b _ o e => by rw [hh]; exact Heap.get?_push_of_some _ e
  generalize sb.heap.objs.size = D at hD w0 turn Ic fc lt ⊢
  generalize hH : upd Hb D (.lst []) = Hc at w0 Ic fc
  -- the block's names at C
  have Id := (block_start Ic ok hN fc)
  show codeAny _ _ (.compStart (.ListComp elt [⟨tg, iter, [], 0⟩] scope pos) 0 (.ref it) (.ref D) (compEnvC scope (cellsFrom (sc.heap.objs.size + 1) scope.names (cloFrom X.env.cells scope.names [])) sc.heap.objs.size X.env)) (compEnds (model X.prog X.w) X.A X.xe (some u) Qf (.ref D) (compEnvC scope (cellsFrom (sc.heap.objs.size + 1) scope.names (cloFrom X.env.cells scope.names [])) sc.heap.objs.size X.env)) { sc with heap := pushCells (sc.heap.push { cls := .type "dict", data := .dict #[] }) scope.names }
  have hgs := hg sc Hc sc.heap.objs.size (cellsFrom (sc.heap.objs.size + 1) scope.names (cloFrom X.env.cells scope.names [])) fp
  have hes := he sc Hc sc.heap.objs.size (cellsFrom (sc.heap.objs.size + 1) scope.names (cloFrom X.env.cells scope.names [])) fp
  generalize hce : compEnvC scope (cellsFrom (sc.heap.objs.size + 1) scope.names (cloFrom X.env.cells scope.names [])) sc.heap.objs.size X.env = ce at Id hgs hes ⊢
  have cL : ce.locals = sc.heap.objs.size := by rw [← hce]; rfl
  have cF : ce.frame = X.env.frame := by rw [← hce]; rfl
  have cS : ce.locals ∉ frs X.stack := fun z => by
    obtain ⟨_, o, e, _⟩ := Ic.stack.mem z
    rw [cL] at e
    exact absurd (Heap.lt_size e) (Nat.lt_irrefl _)
  generalize hxe : (notedBy (model X.prog X.w) X.A ce fun e s' => compEnds (model X.prog X.w) X.A X.xe (some u) Qf (.ref D) ce (.error e) s') = xe
  have Ie : Inv (blkE X sc Hc scope ce fp xe) [] (wipe σ (own.map (·.2))) Hc { sc with heap := pushCells (sc.heap.push { cls := .type "dict", data := .dict #[] }) scope.names } := Id.toTry xe
  have ste : tn 0 (pushCells (sc.heap.push { cls := .type "dict", data := .dict #[] }) scope.names) := T.keep _ _ _ stc fun b _ o e => pushCells_keeps _ _ _ _ (Heap.get?_push_of_some _ e)
  have nfp : ∀ b ∈ fp, Hc b = none := fun b hb => (fc b hb).1.1
  -- back in the def
  have back : ∀ {pn : List (Addr × Obj)} {σ' : L2.St} {H' : Hp} {s' : Shared}, Inv (blkE X sc Hc scope ce fp xe) pn σ' H' s' → Inv X pins σ H' s' ∧ (∃ m, s'.heap.Ns ce.locals m) ∧ FpOk X pins H' ce.locals := fun {pn σ' H' s'} I' => by
    have nC : H' ce.locals = none := I'.free
    obtain ⟨m, hm, _⟩ := I'.loc
    refine ⟨Ic.call' (ch := fp) I'.os I'.base I'.hok I'.bare fun b hb => ?_, ⟨m, hm⟩, Ic.fpOk (Nat.le_of_eq cL.symm) nC⟩
    obtain ⟨_, p1, _, p3, p4, p5⟩ := (fc b hb).1
    exact ⟨p3, p1, p4, p5⟩
  have pass : Passes (L2N.CX X.prog X.w) (blkE X sc Hc scope ce fp xe) E := fun pn σ' H' s' e' s'' I' cx => by
    obtain ⟨J1, ⟨m, J2⟩, J3⟩ := back I'
    show xe e' s''
    rw [← hxe]
    exact blk_out J1 J2 J3 cF hs hf tk hW cS cx
  have pg := hgs xe pass
  have pe := hes xe pass
  have own' : ∀ {σ' : L2.St} {H' : Hp} {s' : Shared}, Inv (blkE X sc Hc scope ce fp xe) [] σ' H' s' → (∀ b ∈ fp, H' b = none) → ∀ b ∈ fp, FpOk (blkE X sc Hc scope ce fp xe) [] H' b := fun {σ' H' s'} I' z b hb =>
    ⟨z b hb, (I'.ok.exf b hb).1, I'.ok.exfs b hb, .inl hb, fun x c e => (I'.ok.exf b hb).2 x c e, fun p hp => by cases hp⟩
  have loop : codeAny (model X.prog X.w) X.A (.compLoop (.ListComp elt [⟨tg, iter, [], 0⟩] scope pos) 0 (.ref it) (.ref D) ce) (compEnds (model X.prog X.w) X.A X.xe (some u) Qf (.ref D) ce) { sc with heap := pushCells (sc.heap.push { cls := .type "dict", data := .dict #[] }) scope.names } := by
    refine compLoop_any (fun n s' => ∃ i H', Inv (blkE X sc Hc scope ce fp xe) [] (wipe σ (own.map (·.2))) H' s' ∧ tn i s'.heap ∧ (∀ b ∈ fp, H' b = none) ∧ Wm i n H') (fun n s1 hI => ?_) m0 ⟨0, Hc, Ie, ste, nfp, w0⟩
    rw [hxe]
    obtain ⟨i, H1, I1, st1, n1, w1⟩ := hI
    rcases turn i n H1 w1 with ⟨stop, qq⟩ | ⟨go, Nx, hNx, step⟩
    · refine thn (T.done (blkE X sc Hc scope ce fp xe) rfl rfl rfl hc i [] s1 _ H1 xe I1 (own' I1 n1) st1 stop) fun r s2 q2 => ?_
      obtain ⟨rfl, I2⟩ := q2
      obtain ⟨J1, ⟨m, J2⟩, J3⟩ := back I2
      exact hRR D ce s2 m H1 J1 qq J2 J3
    · refine thn (T.item (blkE X sc Hc scope ce fp xe) rfl rfl rfl hc i [] s1 _ H1 xe I1 (own' I1 n1) st1 go) fun r s2 q2 => ?_
      obtain ⟨v, rfl, q2⟩ := q2
      refine thn q2 fun _ s3 q3 => ?_
      obtain ⟨x, H3, I3, r3, y3, st3, n3⟩ := q3
      have I3' := I3.pinned (own' I3 n3) (T.obj _ _ st3)
      refine thn (pg.run _ s3 _ H3 x v _ I3' r3 (step x H3 y3)) fun _ s4 q4 => ?_
      obtain ⟨σ4, H4, I4, hw4, q4⟩ := q4
      refine thn ((pts_nil (X := blkE X sc Hc scope ce fp xe)).run _ s4 σ4 H4 _ I4 q4) fun b s5 q5 => ?_
      obtain ⟨H5, I5, q5⟩ := q5
      have fin : ∀ {s' : Shared} {H' : Hp}, Inv (blkE X sc Hc scope ce fp xe) ([] ++ pinsAt fp s3.heap) σ4 H' s' → Nx H' → ∃ m, m < n ∧ ∃ i H', Inv (blkE X sc Hc scope ce fp xe) [] (wipe σ (own.map (·.2))) H' s' ∧ tn i s'.heap ∧ (∀ b ∈ fp, H' b = none) ∧ Wm i m H' := fun {s' H'} I' nx => by
        obtain ⟨m', hm, w'⟩ := hNx H' nx
        have pin : ∀ b ∈ fp, ∀ o, s3.heap.get? b = some o → s'.heap.get? b = some o ∧ H' b = none := fun b hb o e => by
          obtain ⟨z1, z2, _⟩ := I'.pin (b, o) (List.mem_append_right _ (List.mem_append_right _ (mem_pinsAt hb e)))
          exact ⟨z1, z2⟩
        refine ⟨m', hm, i + 1, H', (I'.unpinned (pins := [])).weak (by rw [← hw4, wipe_length]) (fun j v e => ?_), T.keep _ _ _ st3 fun b hb o e => (pin b hb o e).1, fun b hb => ?_, w'⟩
        · rw [← hw4] at e
          exact (wipe_some e).1
        · obtain ⟨o, e, _⟩ := T.obj _ _ st3 b hb
          exact (pin b hb o e).2
      cases b with
      | false =>
        simp only [Bool.false_eq_true, if_false] at q5 ⊢
        exact fin I5 q5
      | true =>
        simp only [if_true] at q5 ⊢
        refine thn (pe.run _ s5 σ4 H5 _ I5 q5) fun z s6 q6 => ?_
        obtain ⟨yv, H6, I6, r6, acc, hD6, hz6, nx⟩ := q6
        exact app_ok (X := blkE X sc Hc scope ce fp xe) I6 hD6 hz6 r6 fun s7 I7 => fin I7 nx
  exact codeAny_compStart_list loop (T.self X.A 0 _ _ _ ste loop)
/-- name = [..] on one line, the element may raise -/
theorem ps_setLcE {i : Nat} {y : Str} {py : Pos} {elt tg iter : Expr} {scope : Scope} {own : List (Str × Nat)} {pos spos : Pos} {wi : TI} {g : TG} {te : TE} {E : XK} {W : WX} (hc : X.calm = true) (hN : X.N.Nodup) (hy : X.N[i]? = some y) (hyl : X.env.scope.names.lookup y = some .local)
    (hsw : swapsWith (.ListComp elt [⟨tg, iter, [], 0⟩] scope pos) (some (.Name y py)) spos.line X.env = pure true) (hi : PI X tg iter wi) (ok : BlkOk X.N X.env.scope scope own) (hs : X.stack = X.env :: X.outer) (hf : X.env.frame = some X.env.locals) (tk : L2N.Takes X W) (hW : ∀ cls d σ H, E cls d H → W cls d σ H)
    (hg : EltOk X scope E fun Y => PG Y tg g) (he : EltOk X scope E fun Y => PE Y elt te) (hfo : ∀ x, foldedSetIterable iter X.env x = pure x := by intro _; rfl) :
    PS X (.Assign [.Name y py] (.ListComp elt [⟨tg, iter, [], 0⟩] scope pos) spos) (tAsg (tLc wi g tYes te (own.map (·.2))) (gName i)) := by
  refine ⟨fun pins s σ H D I h => ?_⟩
  rw [exec_Assign_Name_used _ _ _ _ hsw]
  have h : tLc wi g tYes te (own.map (·.2)) σ H (fun x H1 => gName i x σ H1 D.nx) := h
  refine wpAny_bind (wpAny_standAt (wpAny_bind (wpAny_bind (thn (lcE_core (Qf := fun _ s' => SP X pins D .next s') hc hN I hi ok hs hf tk hW hg he hfo h fun L ce s' m H' I' q hn f => ?_) fun _ s' hq => wpAny_pure (wpAny_pure hq)))))
  show wpAny _ _ (assign (.Name y py) X.env (.ref L)) _ _ _
  obtain ⟨f0, f1, f2, f3, f4, f5⟩ := f
  refine wpAny_assign_Name (store_ok2 (v := V.ref L) I' hN hy (.inl hyl) rfl (fun s2 I2 ⟨a, sb, ha⟩ => ?_) (.inr hyl))
  have haC : ce.locals ≠ a := ha.elim (fun z => by rw [z]; exact f1) fun z e => f4 y a z e.symm
  exact ⟨m, hn.sameBut sb haC, fun h3 sb3 => ⟨_, H', I2.turned (t' := s2.toks) (fun b o hb e => (sb3.2 b hb).trans e) f0 f1 f3 f4 f5, q⟩⟩
end
end Uw
/-! W26: the reader of trees. -/
namespace Uw
open PySem PySem.Spec PyProof.Rows L2 Evl
open Vbwbai (State Op Link Arrow size opAt numbers best arrows at_ treeIn checked leafOk)
open Up (OkDs Good)

/-! ### trees read, by the first numbers -/
theorem tin0 (n f : Nat) (k : Int) (r : List Int) : treeIn n (f + 1) (0 :: k :: r) = if Vbwbai.inR k 1 20 = true ∧ k.toNat ≤ r.length ∧ ((r.take k.toNat).all fun x => Vbwbai.inR x 0 (Vbwbai.int n)) = true then some (.leaf ((r.take k.toNat).map Int.toNat), r.drop k.toNat) else none := rfl
theorem tin1 (n f : Nat) (i j : Int) (r : List Int) : treeIn n (f + 1) (1 :: i :: j :: r) = if (Vbwbai.inR i 1 (Vbwbai.int n) && Vbwbai.inR j 1 (Vbwbai.int n)) = false then none else match treeIn n f r with
      | none => none
      | some a => match treeIn n f a.2 with
        | none => none
        | some b => some (.node i.toNat j.toNat a.1 b.1, b.2) := rfl
theorem tin_nil (n f : Nat) : treeIn n (f + 1) [] = none := rfl
theorem tin_0 (n f : Nat) : treeIn n (f + 1) [0] = none := rfl
theorem tin_1 (n f : Nat) : treeIn n (f + 1) [1] = none := rfl
theorem tin_2 (n f : Nat) (i : Int) : treeIn n (f + 1) [1, i] = none := rfl
theorem tin_no (n f : Nat) {x : Int} {r : List Int} (h0 : x ≠ 0) (h1 : x ≠ 1) : treeIn n (f + 1) (x :: r) = none := by
  unfold treeIn
  split
  · next h => exact absurd (List.cons.inj h).1 h0
  · next h => exact absurd (List.cons.inj h).1 h1
  · rfl
theorem drop_cons {ns : List Int} {k : Nat} {x : Int} (h : ns[k]? = some x) : ns.drop k = x :: ns.drop (k + 1) := by
  obtain ⟨hk, e⟩ := List.getElem?_eq_some_iff.mp h
  rw [← e, List.getElem_cons_drop hk]
theorem drop_none {ns : List Int} {k : Nat} (h : ns[k]? = none) : ns.drop k = [] := List.drop_eq_nil_of_le (List.getElem?_eq_none_iff.mp h)
/-- WrongTree() -/
theorem pmk_wt {X : Cx} {WT : Addr} {p pos : Pos} (T : PySem.W.excIn X.K WT PySem.HandSPX.veTail "ValueError.__new__" = true ∧ X.mg "WrongTree" = some (.ref WT) ∧ PySem.W.keepIn X.K (.ref WT) = true ∧ PySem.W.subIn X.K (.ref WT) (.type "BaseException") = some true ∧ PySem.W.typeIn X.K (.ref WT) = some (.type "type")) (hg : Gl X "WrongTree") :
    L2N.PMk X (.Call (.Name "WrongTree" p) [] [] pos) (fun _ H Q => Q (.ref WT) none H) := by
  obtain ⟨q, g, k, s1, t1⟩ := T
  intro pins s σ H Q I h
  refine wpAny_Call_Name_kw (ld_glob I hg g (PySem.W.callWith_K0 I.kIn k ?_))
  obtain ⟨bm, N, nm, qn, bs, hdct, sn, sub, ab, col, dd, k0, k1, k2, k3, k5, mN, hC, hN, hni, T⟩ := exc_obj I.kIn q
  exact wpAny_call_exc_subT F.excBase_ValueError T hC hN hni (fun h' e hm => L2N.mk_of I hm (raises_own s1 t1) h (I.hok.gone hm.new)) (Nat.zero_le _)
section
variable {P : Program} {w : World} {K : PySem.W.Frag} {mg : Str → Option Value} {base : Heap} {c : Ad} {RF WT : Addr}
theorem wt_of (T : Txt2 K mg c RF WT) : PySem.W.excIn K WT PySem.HandSPX.veTail "ValueError.__new__" = true ∧ mg "WrongTree" = some (.ref WT) ∧ PySem.W.keepIn K (.ref WT) = true ∧ PySem.W.subIn K (.ref WT) (.type "BaseException") = some true ∧ PySem.W.typeIn K (.ref WT) = some (.type "type") := ⟨T.wt_x, T.wt_g, T.wt_k, T.wt_s, T.wt_t⟩
theorem metN {k : Nat} {C : Addr} {m qual : Str} {st : Stmt} {N ps : List Str} {sp : Sp} (D : DefM K C m qual st ps) (c : Cls K C) (S : FnScope N ps (defScope st)) (len : ∀ vs H Q E, sp vs H Q E → vs.length = ps.length)
    (hbody : ∀ (f : Addr) (cdv : Value) (A : Around) (outer : List Env) (s : Shared) (H : Hp) (vs : List V) (Q : VK) (E : XK), Room k (A.deeper (envOfC qual (defScope st) s.heap.objs.size f cdv)) → sp vs H Q E →
      ∃ t, PSs (cxOf (L2N.CX P w) P w K mg base N qual (defScope st) f cdv A outer s H E) (defBody st) t ∧ t { nx := fun _ H' => Q .non H', rt := Q } (start N vs) H) : Met P w K mg base (L2N.CX P w) (k + 1) C m sp := by
  obtain ⟨f, fd, me, F, b⟩ := D.ex
  obtain ⟨oc, od, kV, doc, pm, an, cdv, ct, osl, rfl, lk, hcd⟩ := F.ex
  exact ⟨⟨f, _, ps, c, me, fn_of lk hcd S len fun A outer s H vs Q E hr hsp => hbody f cdv A outer s H vs Q E hr hsp, b⟩⟩
/-! ### take -/
def RdAt (c : Ad) (H : Hp) (a dx w : Addr) (mi : Int) (g : Addr) (k : Nat) : Prop := H a = some (.ins c.Rd dx (rdF w mi g k))
theorem rd_works {w g : Addr} {mi : Int} {k : Nat} : (rdF w mi g k).lookup ("works" : Str) = some (.ref w) := lk_here
theorem rd_minute {w g : Addr} {mi : Int} {k : Nat} : (rdF w mi g k).lookup ("minute" : Str) = some (.int mi) := (lk_past (by decide +kernel)).trans lk_here
theorem rd_given {w g : Addr} {mi : Int} {k : Nat} : (rdF w mi g k).lookup ("given" : Str) = some (.ref g) := (lk_past (by decide +kernel)).trans ((lk_past (by decide +kernel)).trans lk_here)
theorem rd_at {w g : Addr} {mi : Int} {k : Nat} : (rdF w mi g k).lookup ("at" : Str) = some (nv k) := (lk_past (by decide +kernel)).trans ((lk_past (by decide +kernel)).trans ((lk_past (by decide +kernel)).trans lk_here))
theorem rd_no {w g : Addr} {mi : Int} {k : Nat} {m : Str} (h1 : (m == ("works" : Str)) = false) (h2 : (m == ("minute" : Str)) = false) (h3 : (m == ("given" : Str)) = false) (h4 : (m == ("at" : Str)) = false) : (rdF w mi g k).lookup m = none :=
  (lk_past h1).trans ((lk_past h2).trans ((lk_past h3).trans ((lk_past h4).trans rfl)))
theorem rd_put {w g : Addr} {mi : Int} {k : Nat} {v : V} {k' : Nat} (e : v = nv k') : putF "at" v (rdF w mi g k) = rdF w mi g k' := by
  subst e
  exact (put_past (by decide +kernel)).trans (congrArg _ ((put_past (by decide +kernel)).trans (congrArg _ ((put_past (by decide +kernel)).trans (congrArg _ put_here)))))
/-- the way out by WrongTree -/
def Wtf (WT a : Addr) (H : Hp) (E : XK) : Prop := ∀ H', SB [a] H H' → E (.ref WT) none H'
theorem Wtf.sb {a : Addr} {H H' : Hp} {E : XK} (h : Wtf WT a H E) (e : SB [a] H H') : Wtf WT a H' E := fun H2 e2 => h H2 (e.trans e2)
def inB (ns : List Int) (k : Nat) (lo hi : Int) : Bool := match ns[k]? with
  | none => false
  | some x => decide (lo ≤ x) && decide (x ≤ hi)
def spTake (c : Ad) (WT : Addr) : Sp := fun vs H Q E => ∃ (a dx w g : Addr) (mi : Int) (k : Nat) (ns : List Int) (lo hi : Int), vs = [.ref a, .int lo, .int hi] ∧ RdAt c H a dx w mi g k ∧ H g = some (.lst (ns.map V.int)) ∧
  (inB ns k lo hi = true → ∀ H', SB [a] H H' → RdAt c H' a dx w mi g (k + 1) → Q (.int (ns.getD k 0)) H') ∧ (inB ns k lo hi = false → Wtf WT a H E)
abbrev s_Rd_take : Stmt := inClass (topS 15) 1
theorem sc_Rd_take : FnScope ["self", "least", "most"] ["self", "least", "most"] (defScope s_Rd_take) := ⟨rfl, rfl, rfl, by decide +kernel, rfl, by decide +kernel, by decide +kernel⟩
theorem ok_take (T : Txt2 K mg c RF WT) (D : DefM K c.Rd "take" "Reader.take" s_Rd_take ["self", "least", "most"]) : Met P w K mg base (L2N.CX P w) 1 c.Rd "take" (spTake c WT) := by
  have TW := wt_of T
  refine metN D T.rd sc_Rd_take (fun vs H Q E h => ?_) (fun f cdv A outer s H vs Q E hr h => ?_)
  · obtain ⟨a, dx, w, g, mi, k, ns, lo, hi, rfl, _⟩ := h
    rfl
  · obtain ⟨a, dx, w, g, mi, k, ns, lo, hi, rfl, hR, hg, q1, q2⟩ := h
    refine ⟨_, (pss_cons (ps_if (PW.pt (pw_or (pt_cmpR op_ge (pe_f (K := K) rfl (pv 0) rfl) (pe_callB (lenR (K := K) rfl) (by rfl) T.len (by decide +kernel) (pa_cons (pe_f (K := K) rfl (pv 0) rfl) pa_nil)) (nomark _)) (pw_or1 (pt_not (pt_chain op_le op_le (pv 1) (pe_ix (ixL (K := K) rfl) (pe_f (K := K) rfl (pv 0) rfl) (pe_f (K := K) rfl (pv 0) rfl) (fun _ _ => rfl)) (pv 2)))))) (pss_one (L2N.ps_raise rfl (L2N.takes_of rfl rfl rfl rfl) (pmk_wt TW (by rfl)))) pss_nil) (pss_cons (ps_fldaug (pv 0) pe_int in_add) (pss_one (ps_ret (pe_ix (ixL (K := K) rfl) (pe_f (K := K) rfl (pv 0) rfl) (pe_op op_sub (pe_f (K := K) rfl (pv 0) rfl) pe_int) (fun _ _ => rfl)))))), ?_⟩
    have at1 : ∀ {H1 : Hp}, Ex H H1 → Ev (tFld K (tVar 0) "at") [some (.ref a), some (.int lo), some (.int hi)] H1 (nv k) := fun e => ev_fld (ev_var rfl) (e _ _ hR) T.rd T.rd_at rd_at
    have gv : ∀ {H1 : Hp}, Ex H H1 → Ev (tFld K (tVar 0) "given") [some (.ref a), some (.int lo), some (.int hi)] H1 (.ref g) := fun e => ev_fld (ev_var rfl) (e _ _ hR) T.rd T.rd_given rd_given
    refine q_when (b := !inB ns k lo hi) ?_ (fun hb H1 e1 => ?_) (fun hb H1 e1 => ?_)
    · cases hx : ns[k]? with
      | none =>
        have hl : ns.length ≤ k := List.getElem?_eq_none_iff.mp hx
        refine et_is (et_or (a := decide (((ns.map V.int).length : Int) ≤ (k : Int))) (b := true) (et_test (ev_op (at1 (Ex.refl _)) (ev_lenL (gv (Ex.refl _)) hg) rv_I0)) fun z => ?_) ?_
        · rw [List.length_map] at z
          have := of_decide_eq_false z
          omega
        · unfold inB
          rw [hx, Bool.or_true]
          rfl
      | some x =>
        have hl : k < ns.length := (List.getElem?_eq_some_iff.mp hx).1
        refine et_is (et_or (a := decide (((ns.map V.int).length : Int) ≤ (k : Int))) (b := !(decide (lo ≤ x) && decide (x ≤ hi))) (et_test (ev_op (at1 (Ex.refl _)) (ev_lenL (gv (Ex.refl _)) hg) rv_I0)) fun _ => et_not (et_test (ev_chain (ev_var rfl) (ev_op (gv (Ex.refl _)) (at1 (Ex.refl _)) (rv_ixL (.of hg) (atI_nat (map_get hx)))) (ev_var rfl)))) ?_
        unfold inB
        rw [hx, decide_eq_false (by rw [List.length_map]; omega), Bool.false_or]
    · have hb' : inB ns k lo hi = false := by simpa using hb
      exact q2 hb' H1 (.of e1)
    · have hb' : inB ns k lo hi = true := by simpa using hb
      obtain ⟨x, hx⟩ : ∃ x, ns[k]? = some x := by
        unfold inB at hb'
        cases e : ns[k]? with
        | none => rw [e] at hb'; cases hb'
        | some x => exact ⟨x, rfl⟩
      have hR1 := e1 _ _ hR
      refine ⟨_, rfl, a, c.Rd, dx, _, _, rfl, hR1, T.rd, T.rd_at, rd_at, (k : Int), 1, rfl, rfl, dx, _, hR1, by show 4 < 1000; decide, ?_⟩
      rw [show putF "at" (V.int ((k : Int) + 1)) (rdF w mi g k) = rdF w mi g (k + 1) from rd_put rfl]
      have hR2 : (upd H1 a (.ins c.Rd dx (rdF w mi g (k + 1)))) a = some (.ins c.Rd dx (rdF w mi g (k + 1))) := upd_same
      have ga : g ≠ a := ne_of hg hR (by intro z; cases z)
      have hg2 : (upd H1 a (.ins c.Rd dx (rdF w mi g (k + 1)))) g = some (.lst (ns.map V.int)) := by rw [upd_ne ga]; exact e1 _ _ hg
      have sb2 : SB [a] H (upd H1 a (.ins c.Rd dx (rdF w mi g (k + 1)))) := sb_fld (SB.refl _ _) e1
      generalize upd H1 a (.ins c.Rd dx (rdF w mi g (k + 1))) = H2 at hR2 hg2 sb2 ⊢
      refine s_ret (σ := [some (.ref a), some (.int lo), some (.int hi)]) (v := .int x) (ev_op (ev_fld (ev_var rfl) hR2 T.rd T.rd_given rd_given) (ev_op (ev_fld (ev_var rfl) hR2 T.rd T.rd_at rd_at) ev_c rv_I0) (rv_ixL (.of hg2) (at_of (by show ((k + 1 : Nat) : Int) - 1 = ((k : Nat) : Int); omega) (map_get hx)))) fun H3 e3 => ?_
      have := q1 hb' H3 (sb2.trans (.of e3)) (e3 _ _ hR2)
      rw [List.getD_eq_getElem?_getD, hx] at this
      exact this
/-! ### is_leaf_right -/
def spLeafR (c : Ad) : Sp := fun vs H Q _ => ∃ (a wl o dx w g : Addr) (mi : Int) (k : Nat) (s : State) (ws : List Nat) (ds : List (Nat × Nat)), vs = [.ref a, .ref wl, .ref o] ∧ RdAt c H a dx w mi g k ∧ WorksAt c H w s ∧ Good s ∧ H wl = some (.lst (nodes ws)) ∧ (0 < ws.length ∧ ws.length ≤ 1000) ∧ (∀ n ∈ ws, n < size s + 1) ∧
  PairsAt H o ds ∧ OkDs s ds ∧ RV' (.bl (leafOk s ds mi ws)) H Q
abbrev s_Rd_is_leaf_right : Stmt := inClass (topS 15) 2
theorem sc_Rd_is_leaf_right : FnScope ["self", "walk", "orders", "arrows", "total"] ["self", "walk", "orders"] (defScope s_Rd_is_leaf_right) := ⟨rfl, rfl, rfl, by decide +kernel, rfl, by decide +kernel, by decide +kernel⟩
theorem leafOk_eq (s : State) (ds : List (Nat × Nat)) (e : Int) (ws : List Nat) {p : List Nat} {l h : Nat} (hh : ws.head? = some h) (hl : ws.getLast? = some l) : leafOk s ds e ws = match sumL (best (arrows s ds)) ws with
  | none => false
  | some x => (decide (2 ≤ ws.length) && (decide (h = l) && decide (0 < x))) || (decide (h = 0) && (decide (1 ≤ l) && decide (e ≤ x + Vbwbai.int (opAt s l).long))) := by
  unfold leafOk
  rw [sumL_of]
  have hd : ws.getLastD 0 = l := by
    rw [List.getLastD_eq_getLast?, hl]
    rfl
  rw [hd, hh, hl]
  cases sumL (best (arrows s ds)) ws with
  | none => rfl
  | some x =>
    have e1 : ((some h : Option Nat) == some l) = decide (h = l) := by rw [Bool.eq_iff_iff]; simp
    have e2 : ((some h : Option Nat) == some 0) = decide (h = 0) := by rw [Bool.eq_iff_iff]; simp
    show ((decide (2 ≤ ws.length) && (((some h : Option Nat) == some l) && decide (0 < x))) || (((some h : Option Nat) == some 0) && _)) = _
    rw [e1, e2]
theorem ok_is_leaf_right (T : Txt2 K mg c RF WT) (D : DefM K c.Rd "is_leaf_right" "Reader.is_leaf_right" s_Rd_is_leaf_right ["self", "walk", "orders"]) (K_Arr : Mak P w K mg base CX0 3 "Arrows" c.Arr (spArrI c)) (M_Arr_sum_of : Met P w K mg base CX0 1 c.Arr "sum_of" (spSumOf K c)) (M_Wk_operation : Met P w K mg base CX0 1 c.Wk "operation" (spOperation c)) : Met P w K mg base CX0 5 c.Rd "is_leaf_right" (spLeafR c) := by
  refine met0 D T.rd sc_Rd_is_leaf_right (fun vs H Q E h => ?_) (fun f cdv A outer s H vs Q E hr h => ?_)
  · obtain ⟨a, wl, o, dx, w, g, mi, k, s, ws, ds, rfl, _⟩ := h
    rfl
  · obtain ⟨a, wl, o, dx, w, g, mi, k, s, ws, ds, rfl, hR, hw, gd, hwl, hlen, hN, ho, hd, q⟩ := h
    refine ⟨_, (pss_cons (ps_set (i := 3) sc_Rd_is_leaf_right.nd rfl (.inl rfl) (pe_mk K_Arr hr (by decide) pass0 (by rfl) (pa_cons (pe_f (K := K) rfl (pv 0) rfl) (pa_cons (pv 2) pa_nil)))) (pss_cons (ps_set (i := 4) sc_Rd_is_leaf_right.nd rfl (.inl rfl) (pe_mt M_Arr_sum_of hr (by decide) pass0 (pv 3) (pa_cons (pv 1) pa_nil))) (pss_cons (ps_if (PW.pt (pw_or (pt_cmp (pc_isN (pv 4))) (pw_or1 (pt_cmpR op_lt (pe_callB (lenR (K := K) rfl) (by rfl) T.len (by decide +kernel) (pa_cons (pv 1) pa_nil)) pe_int (nomark _))))) (pss_one (ps_ret pe_bl)) pss_nil) (pss_cons (ps_if (PW.pt (pw_and (pt_cmpR op_eq (pe_ix (ixL (K := K) rfl) (pv 1) pe_int (fun _ _ => rfl)) (pe_ix (ixL (K := K) rfl) (pv 1) (pe_un un_neg pe_int) (fun _ _ => rfl)) (nomark _)) (pw_and1 (pt_cmpR op_gt (pv 4) pe_int (nomark _))))) (pss_one (ps_ret pe_bl)) pss_nil) (pss_cons (ps_if (PW.pt (pw_or (pt_cmpR op_ne (pe_ix (ixL (K := K) rfl) (pv 1) pe_int (fun _ _ => rfl)) pe_int (nomark _)) (pw_or1 (pt_cmpR op_eq (pe_ix (ixL (K := K) rfl) (pv 1) (pe_un un_neg pe_int) (fun _ _ => rfl)) pe_int (nomark _))))) (pss_one (ps_ret pe_bl)) pss_nil) (pss_one (ps_ret (pe_cmpR op_ge (pe_op op_add (pv 4) (pe_f (K := K) rfl (pe_mt M_Wk_operation hr (by decide) pass0 (pe_f (K := K) rfl (pv 0) rfl) (pa_cons (pe_ix (ixL (K := K) rfl) (pv 1) (pe_un un_neg pe_int) (fun _ _ => rfl)) pa_nil)) rfl)) (pe_f (K := K) rfl (pv 0) rfl) (nomark _))))))))), ?_⟩
    have g8 : size s ≤ 8 := gd.ops
    obtain ⟨hh, ehh⟩ : ∃ h, ws.head? = some h := by
      cases ws with
      | nil => simp at hlen
      | cons a r => exact ⟨a, rfl⟩
    have h0 : ws[0]? = some hh := by rw [← List.head?_eq_getElem?]; exact ehh
    have ll : ws.length - 1 < ws.length := by omega
    have hlast : ws.getLast? = some ws[ws.length - 1] := by
      rw [List.getLast?_eq_getElem?, List.getElem?_eq_getElem ll]
    generalize hl' : ws[ws.length - 1] = l at hlast
    have l0 : ws[ws.length - 1]? = some l := by rw [List.getElem?_eq_getElem ll, hl']
    have lN : l < size s + 1 := hN l (List.mem_of_getElem? l0)
    have lb : (nodes ws)[(nodes ws).length - 1]? = some (nv l) := by rw [List.length_map]; exact map_get l0
    rw [leafOk_eq (p := []) s ds mi ws ehh hlast] at q
    refine q_asgP (ep_arrows (ev_fld (ev_var rfl) hR T.rd T.rd_works rd_works) hw gd (fun H1 e1 Q k => ⟨_, rfl, k _ H1 (Ex.refl _) ⟨o, rfl, ho.same e1⟩⟩) hd) fun v H1 e1 ⟨ar, da, r, rs, ev, nar, hAB⟩ => ?_
    subst ev
    refine q_asg (v := ov (sumL (best (arrows s ds)) ws)) (ev_meth (ev_var rfl) hAB.arr.me (arF_no _ _ _ (by decide +kernel) (by decide +kernel) (by decide +kernel)) (ea_cons (ev_var rfl) ea_nil) fun H2 e2 Q q E => ⟨ar, da, w, r, wl, rs, size s + 1, _, ws, rfl, hAB.arr.same e2, .of (e2 _ _ (e1 _ _ hwl)), hlen, hN, q⟩) fun H2 e2 => ?_
    have e12 := e1.trans e2
    have fst : ∀ {σ : L2.St} {H3 : Hp}, Ex H H3 → σ[1]? = some (some (.ref wl)) → Ev (tOp (rIxL K) (tVar 1) (tC (.int 0))) σ H3 (nv hh) := fun e h => ev_op (ev_var h) ev_c (rv_ixL (.of (e _ _ hwl)) (atI_nat (j := 0) (map_get h0)))
    have lst : ∀ {σ : L2.St} {H3 : Hp}, Ex H H3 → σ[1]? = some (some (.ref wl)) → Ev (tOp (rIxL K) (tVar 1) (tUn (rU fun i => .int (-i)) (tC (.int 1)))) σ H3 (nv l) := fun e h => ev_op (ev_var h) (ev_un ev_c ru_neg) (rv_ixL (.of (e _ _ hwl)) (atI_back lb))
    have len2 : ∀ {σ : L2.St} {H3 : Hp}, Ex H H3 → σ[1]? = some (some (.ref wl)) → Ev (tCB (rLen K) (tCons (tVar 1) tNil)) σ H3 (.int ((nodes ws).length : Int)) := fun e h => ev_lenL (ev_var h) (e _ _ hwl)
    cases hs : sumL (best (arrows s ds)) ws with
    | none =>
      rw [hs] at q
      refine q_when (b := true) (et_or (a := true) (b := true) (et_isN (ev_var (v := .non) rfl)) fun z => nomatch z) (fun _ H3 e3 => ?_) (fun z => nomatch z)
      exact s_ret ev_c fun H4 e4 => q H4 ((e12.trans e3).trans e4)
    | some x =>
      rw [hs] at q
      refine q_when (b := decide (((nodes ws).length : Int) < 2)) (et_or (a := false) (et_isN (ev_var (v := .int x) rfl)) fun _ => et_test (ev_op (len2 e12 rfl) ev_c rv_I0)) (fun hb H3 e3 => ?_) (fun hb H3 e3 => ?_)
      · -- one node alone
        have hl1 : ws.length = 1 := by
          have := of_decide_eq_true hb
          rw [List.length_map] at this
          omega
        have hhl : hh = l := by
          rw [hl1] at l0
          rw [h0] at l0
          exact Option.some.inj l0
        have : ((decide (2 ≤ ws.length) && (decide (hh = l) && decide (0 < x))) || (decide (hh = 0) && (decide (1 ≤ l) && decide (mi ≤ x + Vbwbai.int (opAt s l).long)))) = false := by
          rw [hl1, hhl]
          by_cases z : l = 0
          · subst z; simp
          · simp [z]
        refine s_ret ev_c fun H4 e4 => ?_
        have qq := q H4 ((e12.trans e3).trans e4)
        change Q (.bl ((decide (2 ≤ ws.length) && (decide (hh = l) && decide (0 < x))) || (decide (hh = 0) && (decide (1 ≤ l) && decide (mi ≤ x + Vbwbai.int (opAt s l).long))))) H4 at qq
        rw [this] at qq
        exact qq
      · have hl2 : 2 ≤ ws.length := by
          have := of_decide_eq_false hb
          rw [List.length_map] at this
          omega
        change RV' (.bl ((decide (2 ≤ ws.length) && (decide (hh = l) && decide (0 < x))) || (decide (hh = 0) && (decide (1 ≤ l) && decide (mi ≤ x + Vbwbai.int (opAt s l).long))))) H Q at q
        rw [decide_eq_true hl2, Bool.true_and] at q
        have e13 := e12.trans e3
        refine q_when (b := decide (hh = l) && decide (0 < x)) (et_and (et_test (ev_is (ev_op (fst e13 rfl) (lst e13 rfl) (rv_eq rfl)) (by rw [dec_goal]))) fun _ => et_test (ev_op (ev_var (v := .int x) rfl) ev_c rv_I0)) (fun hb2 H4 e4 => ?_) (fun hb2 H4 e4 => ?_)
        · rw [hb2, Bool.true_or] at q
          exact s_ret ev_c fun H5 e5 => q H5 ((e13.trans e4).trans e5)
        · rw [hb2, Bool.false_or] at q
          have e14 := e13.trans e4
          refine q_when (b := decide (hh ≠ 0) || decide (l = 0)) (et_or (et_test (ev_is (ev_op (fst e14 rfl) (ev_c (v := nv 0)) (rv_ne rfl)) (by rw [dec_nv]))) fun _ => et_test (ev_is (ev_op (lst e14 rfl) (ev_c (v := nv 0)) (rv_eq rfl)) (by rw [dec_goal]))) (fun hb3 H5 e5 => ?_) (fun hb3 H5 e5 => ?_)
          · have : (decide (hh = 0) && (decide (1 ≤ l) && decide (mi ≤ x + Vbwbai.int (opAt s l).long))) = false := by
              by_cases z : hh = 0
              · subst z
                simp at hb3
                subst hb3
                simp
              · simp [z]
            rw [this] at q
            exact s_ret ev_c fun H6 e6 => q H6 ((e14.trans e5).trans e6)
          · simp at hb3
            obtain ⟨z0, z1⟩ := hb3
            rw [decide_eq_true z0, decide_eq_true (show 1 ≤ l by omega), Bool.true_and, Bool.true_and] at q
            have e15 := e14.trans e5
            obtain ⟨dw, g', oo, ll', f', os, ls, fs, hW⟩ := hw
            have src : EvP (tMeth c.Wk "operation" (spOperation c) [] E0 (tFld K (tVar 0) "works") (tCons (tOp (rIxL K) (tVar 1) (tUn (rU fun i => .int (-i)) (tC (.int 1)))) tNil)) [some (.ref a), some (.ref wl), some (.ref o), some (.ref ar), some (.int x)] H5 (fun v H1 => ∃ p d, v = .ref p ∧ H1 p = some (.ins c.Op d (opF (opAt s l)))) :=
              ep_oper (ev_fld (ev_var rfl) (e15 _ _ hR) T.rd T.rd_works rd_works) (hW.same e15) (lst e15 rfl) ⟨by omega, lN⟩
            exact s_ret (ev_op (ev_op (ev_var (v := .int x) rfl) (ev_fldP src fun v H6 e6 ⟨p, d, e, hp⟩ => ⟨p, c.Op, d, _, e, hp, T.op, T.op_minutes, opF_minutes _⟩) rv_I0) (ev_fld (ev_var rfl) (e15 _ _ hR) T.rd T.rd_minute rd_minute) rv_I0) fun H6 e6 => q H6 (e15.trans e6)
end
end Uw
/-! W27: the reader of trees: read, shows. -/
namespace Uw
open PySem PySem.Spec PyProof.Rows L2 Evl
open Vbwbai (State Op Link Arrow size opAt numbers best arrows at_ treeIn checked leafOk)
open Up (OkDs Good)

theorem inB_of {ns : List Int} {k : Nat} {x lo hi : Int} (h : ns[k]? = some x) : inB ns k lo hi = Vbwbai.inR x lo hi := by
  unfold inB Vbwbai.inR
  rw [h]
theorem inB_some {ns : List Int} {k : Nat} {lo hi : Int} (h : inB ns k lo hi = true) : ∃ x, ns[k]? = some x ∧ ns.getD k 0 = x ∧ lo ≤ x ∧ x ≤ hi ∧ k < ns.length := by
  unfold inB at h
  cases e : ns[k]? with
  | none => rw [e] at h; cases h
  | some x =>
    rw [e] at h
    rw [Bool.and_eq_true, decide_eq_true_iff, decide_eq_true_iff] at h
    exact ⟨x, rfl, by rw [List.getD_eq_getElem?_getD, e]; rfl, h.1, h.2, (List.getElem?_eq_some_iff.mp e).1⟩
theorem inB_no {ns : List Int} {k : Nat} {lo hi : Int} (h : inB ns k lo hi = false) : ns.drop k = [] ∨ ∃ x, ns.drop k = x :: ns.drop (k + 1) ∧ Vbwbai.inR x lo hi = false := by
  cases e : ns[k]? with
  | none => exact .inl (drop_none e)
  | some x => exact .inr ⟨x, drop_cons e, by rw [← inB_of e]; exact h⟩
theorem int_of {n : Nat} : Vbwbai.int n = (n : Int) := rfl
section
variable {P : Program} {w : World} {K : PySem.W.Frag} {mg : Str → Option Value} {base : Heap} {c : Ad} {RF WT : Addr}
theorem ev_take {σ : L2.St} {H : Hp} {Q : VK} {E : XK} {ta tlo thi : TE} {a dx w g : Addr} {mi : Int} {k : Nat} {ns : List Int} {lo hi : Int} (ha : Ev ta σ H (.ref a)) (hR : RdAt c H a dx w mi g k) (hg : H g = some (.lst (ns.map V.int))) (hlo : Ev tlo σ H (.int lo)) (hhi : Ev thi σ H (.int hi))
    (q1 : inB ns k lo hi = true → ∀ H', SB [a] H H' → RdAt c H' a dx w mi g (k + 1) → Q (.int (ns.getD k 0)) H') (q2 : inB ns k lo hi = false → Wtf WT a H E) : tMeth c.Rd "take" (spTake c WT) [] E ta (tCons tlo (tCons thi tNil)) σ H Q :=
  ha H (Ex.refl _) _ fun H1 e1 => ⟨a, dx, _, rfl, e1 _ _ hR, rd_no (by decide +kernel) (by decide +kernel) (by decide +kernel) (by decide +kernel), (ea_cons hlo (ea_cons hhi ea_nil)) H1 e1 _ fun H2 e2 => by
    rw [List.append_nil]
    have e := e1.trans e2
    exact ⟨a, dx, w, g, mi, k, ns, lo, hi, rfl, e _ _ hR, e _ _ hg, fun h H' sb hr => q1 h H' ((SB.of e).trans sb) hr, fun h => (q2 h).sb (.of e)⟩⟩
theorem q_testK {D : Ends} {tu tz : TS} {te tb : TE} {r : R2} {σ : L2.St} {H : Hp} (h : te σ H fun x H1 => tb σ H1 fun y H2 => r x y H2 fun v H3 => ∃ b, v = .bl b ∧ if b = true then tu { D with nx := tz D } σ H3 else tz D σ H3) : tSeq (tIfS (tTest (tOp r te tb)) tu tNext) tz D σ H := h
theorem q_asgK {D : Ends} {tz : TS} {te : TE} {i : Nat} {σ : L2.St} {H : Hp} (h : te σ H fun v H1 => tz D (σ.set i (some v)) H1) : tSeq (tAsg te (gName i)) tz D σ H := h
/-- [self.take(..) for turn in range(self.take(..))] -/
theorem lc_takes {σ : L2.St} {H : Hp} {Q : VK} {E : XK} {ta tlo thi te : TE} {j : Nat} {vs : List Nat} {a dx w g : Addr} {mi : Int} {k : Nat} {ns : List Int} {lo hi : Int} (ha : Ev ta σ H (.ref a)) (hR : RdAt c H a dx w mi g k) (hg : H g = some (.lst (ns.map V.int))) (hlo : Ev tlo σ H (.int lo)) (hhi : Ev thi σ H (.int hi)) (h1 : 0 ≤ lo) (h2 : hi ≤ 1000)
    (hw : ∀ x, wipe ((wipe σ vs).set j (some x)) vs = wipe σ vs) (q2 : inB ns k lo hi = false → Wtf WT a H E)
    (q1 : inB ns k lo hi = true → ∀ H1, SB [a] H H1 → RdAt c H1 a dx w mi g (k + 1) → ∀ D, H1 D = none → ∃ Pv : Nat → Hp → Prop, Pv 0 (upd H1 D (.lst [])) ∧
      (∀ i H', i < (ns.getD k 0).toNat → Pv i H' → te ((wipe σ vs).set j (some (.int (0 + (i : Int))))) H' fun y H4 => ∃ acc, H4 D = some (.lst acc) ∧ acc.length < sizeLine ∧ Pv (i + 1) (upd H4 D (.lst (acc ++ [y])))) ∧ ∀ H', Pv (ns.getD k 0).toNat H' → Q (.ref D) H') :
    tLc (iRng1 (tCons (tMeth c.Rd "take" (spTake c WT) [] E ta (tCons tlo (tCons thi tNil))) tNil)) (gName j) tYes te vs σ H Q := by
  have hT : ∀ R : List V → Hp → Prop, (tMeth c.Rd "take" (spTake c WT) [] E ta (tCons tlo (tCons thi tNil)) σ H fun v H1 => R [v] H1) → tCons (tMeth c.Rd "take" (spTake c WT) [] E ta (tCons tlo (tCons thi tNil))) tNil σ H R := fun R h => h
  unfold tLc iRng1
  refine hT _ (ev_take ha hR hg hlo hhi (fun hin H1 sb1 hR1 => ?_) q2)
  obtain ⟨x, hx, hd, l1, l2, hk⟩ := inB_some hin
  refine ⟨ns.getD k 0, rfl, by rw [hd]; omega, by rw [hd]; omega, fun D nD => ?_⟩
  obtain ⟨Pv, p0, ps, pd⟩ := q1 hin H1 sb1 hR1 D nD
  exact lc_range (lo := 0) Pv p0 (fun i H' hi hp => ⟨hw _, ps i H' hi hp⟩) pd
def spRead (c : Ad) (WT : Addr) (n : Nat) : Sp := fun vs H Q E => ∃ (a o dx w g : Addr) (mi : Int) (k f : Nat) (ns : List Int) (s : State) (ds : List (Nat × Nat)) (H0 : Hp), vs = [.ref a, .ref o, .int (13 - (f : Int))] ∧ f < n ∧ Ex H0 H ∧ H0 a = none ∧ WorksAt c H0 w s ∧ H0 g = some (.lst (ns.map V.int)) ∧ Good s ∧ RdAt c H a dx w mi g k ∧
  PairsAt H o ds ∧ OkDs s ds ∧ ds.length + f ≤ 200 ∧ (f ≤ 12 ∧ k ≤ ns.length) ∧
  (∀ t r, treeIn (size s) f (ns.drop k) = some (t, r) → ∀ H' k', SB [a] H H' → RdAt c H' a dx w mi g k' → ns.drop k' = r → k' ≤ ns.length → Q (.bl (checked s mi ds t)) H') ∧ (treeIn (size s) f (ns.drop k) = none → Wtf WT a H E)
theorem PairsAt.sbi {H H' : Hp} {a o C dx : Addr} {fs : List (Str × V)} {ds : List (Nat × Nat)} (h : PairsAt H o ds) (ha : H a = some (.ins C dx fs)) (sb : SB [a] H H') : PairsAt H' o ds := by
  obtain ⟨as, ho, A⟩ := h
  refine ⟨as, sb _ _ (fun z => ?_) ho, A.mono fun b p _ r => sb _ _ (fun z => ?_) r⟩
  · rw [List.mem_singleton.mp z, ha] at ho
    cases ho
  · have r' : H b = some (.tup (pairV p)) := r
    rw [List.mem_singleton.mp z, ha] at r'
    cases r'
theorem ev_read {σ : L2.St} {H : Hp} {Q : VK} {E : XK} {ta to td : TE} {a dx w g : Addr} {mi : Int} {k f n : Nat} {ns : List Int} {s : State} {ds : List (Nat × Nat)} {H0 : Hp} (ha : Ev ta σ H (.ref a)) (hfn : f < n) (e0 : Ex H0 H) (na : H0 a = none) (hw0 : WorksAt c H0 w s) (hg0 : H0 g = some (.lst (ns.map V.int))) (gd : Good s) (hR : RdAt c H a dx w mi g k)
    (ho : EvP to σ H (fun v H1 => ∃ p, v = .ref p ∧ PairsAt H1 p ds)) (hdp : Ev td σ H (.int (13 - (f : Int)))) (hd : OkDs s ds) (hdl : ds.length + f ≤ 200) (hf : f ≤ 12) (hk : k ≤ ns.length)
    (q1 : ∀ t r, treeIn (size s) f (ns.drop k) = some (t, r) → ∀ H' k', SB [a] H H' → RdAt c H' a dx w mi g k' → ns.drop k' = r → k' ≤ ns.length → Q (.bl (checked s mi ds t)) H') (q2 : treeIn (size s) f (ns.drop k) = none → Wtf WT a H E) :
    tMeth c.Rd "read" (spRead c WT n) [] E ta (tCons to (tCons td tNil)) σ H Q :=
  ha H (Ex.refl _) _ fun H1 e1 => ⟨a, dx, _, rfl, e1 _ _ hR, rd_no (by decide +kernel) (by decide +kernel) (by decide +kernel) (by decide +kernel), ho H1 e1 _ fun v H2 e2 ⟨o, ev, hp⟩ => hdp H2 (e1.trans e2) _ fun H3 e3 => by
    subst ev
    have e := (e1.trans e2).trans e3
    exact ⟨a, o, dx, w, g, mi, k, f, ns, s, ds, H0, rfl, hfn, e0.trans e, na, hw0, hg0, gd, e _ _ hR, hp.same e3, hd, hdl, ⟨hf, hk⟩, fun t r h H' k' sb => q1 t r h H' k' ((SB.of e).trans sb), fun h => (q2 h).sb (.of e)⟩⟩
abbrev s_Rd_read : Stmt := inClass (topS 15) 3
theorem sc_Rd_read : FnScope ["self", "orders", "deep", "many", "first", "second", "is_right", "left", "right", "walk", "turn"] ["self", "orders", "deep"] (defScope s_Rd_read) := ⟨rfl, rfl, rfl, by decide +kernel, rfl, by decide +kernel, by decide +kernel⟩
theorem ok_read0 (T : Txt2 K mg c RF WT) (D : DefM K c.Rd "read" "Reader.read" s_Rd_read ["self", "orders", "deep"]) : Met P w K mg base (L2N.CX P w) 6 c.Rd "read" (spRead c WT 0) := by
  refine metN D T.rd sc_Rd_read (fun vs H Q E h => ?_) (fun f cdv A outer s H vs Q E hr h => ?_)
  · obtain ⟨a, o, dx, w, g, mi, k, f, ns, s, ds, H0, rfl, _⟩ := h
    rfl
  · obtain ⟨a, o, dx, w, g, mi, k, f, ns, s, ds, H0, rfl, h, _⟩ := h
    exact absurd h (Nat.not_lt_zero _)
theorem ok_read1 (T : Txt2 K mg c RF WT) (D : DefM K c.Rd "read" "Reader.read" s_Rd_read ["self", "orders", "deep"]) (M_Rd_take : Met P w K mg base (L2N.CX P w) 1 c.Rd "take" (spTake c WT)) (M_Rd_is_leaf_right : Met P w K mg base CX0 5 c.Rd "is_leaf_right" (spLeafR c)) (M_Wk_is_one_unit : Met P w K mg base CX0 2 c.Wk "is_one_unit" (spOneUnit c)) (n : Nat)
    (M_Rd_read : Met P w K mg base (L2N.CX P w) (6 + n) c.Rd "read" (spRead c WT n)) : Met P w K mg base (L2N.CX P w) (6 + n + 1) c.Rd "read" (spRead c WT (n + 1)) := by
  have TW := wt_of T
  refine metN D T.rd sc_Rd_read (fun vs H Q E h => ?_) (fun f cdv A outer s H vs Q E hr h => ?_)
  · obtain ⟨a, o, dx, w, g, mi, k, f, ns, s, ds, H0, rfl, _⟩ := h
    rfl
  · obtain ⟨a, o, dx, w, g, mi, k, f, ns, s, ds, H0, rfl, hfn, e0, na, hw0, hg0, gd, hR, ho, hd, hdl, ⟨hf12, hk⟩, q1, q2⟩ := h
    refine ⟨_, (pss_cons (ps_if (pt_cmpR op_gt (pv 2) (C8.pe_gc (by rfl) T.MOST_DEEP) (nomark _)) (pss_one (L2N.ps_raise rfl (L2N.takes_of rfl rfl rfl rfl) (pmk_wt TW (by rfl)))) pss_nil) (pss_cons (ps_set (i := 3) sc_Rd_read.nd rfl (.inr rfl) (pe_callB (lenR (K := K) rfl) (by rfl) T.len (by decide +kernel) (pa_cons (pe_f (K := K) rfl (pe_f (K := K) rfl (pv 0) rfl) rfl) pa_nil))) (pss_cons (ps_if (pt_cmpR op_eq (pe_mt M_Rd_take hr (by omega) (L2N.passes_call (L2N.takes_of rfl rfl rfl rfl) fun _ _ _ _ q => q) (pv 0) (pa_cons pe_int (pa_cons pe_int pa_nil))) pe_int (nomark _)) (pss_cons (ps_setLcE (i := 9) (own := [("turn", 10)]) rfl sc_Rd_read.nd rfl rfl (sw_true rfl rfl rfl (by decide +kernel)) (pi_range1 (by rfl) T.range (pa_cons (pe_mt M_Rd_take hr (by omega) (L2N.passes_call (L2N.takes_of rfl rfl rfl rfl) fun _ _ _ _ q => q) (pv 0) (pa_cons pe_int (pa_cons (C8.pe_gc (by rfl) T.MOST_NODES) pa_nil))) pa_nil)) (blkOk_by (own := [("turn", 10)]) (N := ["self", "orders", "deep", "many", "first", "second", "is_right", "left", "right", "walk", "turn"]) (sc := defScope s_Rd_read) (by decide +kernel)) rfl rfl (L2N.takes_of rfl rfl rfl rfl) (fun _ _ _ _ q => q) (fun _ _ _ _ _ xe pass => (pg_name (i := 10) sc_Rd_read.nd rfl (.inl rfl))) (fun _ _ _ _ _ xe pass => (pe_mt M_Rd_take hr (by omega) pass (pv 0) (pa_cons pe_int (pa_cons (pv 3) pa_nil))))) (pss_one (ps_ret (pe_mt M_Rd_is_leaf_right hr (by omega) pass0 (pv 0) (pa_cons (pv 9) (pa_cons (pv 1) pa_nil)))))) pss_nil) (pss_cons (ps_set (i := 4) sc_Rd_read.nd rfl (.inl rfl) (pe_mt M_Rd_take hr (by omega) (L2N.passes_call (L2N.takes_of rfl rfl rfl rfl) fun _ _ _ _ q => q) (pv 0) (pa_cons pe_int (pa_cons (pv 3) pa_nil)))) (pss_cons (ps_set (i := 5) sc_Rd_read.nd rfl (.inl rfl) (pe_mt M_Rd_take hr (by omega) (L2N.passes_call (L2N.takes_of rfl rfl rfl rfl) fun _ _ _ _ q => q) (pv 0) (pa_cons pe_int (pa_cons (pv 3) pa_nil)))) (pss_cons (ps_set (i := 6) sc_Rd_read.nd rfl (.inl rfl) (pe_mt M_Wk_is_one_unit hr (by omega) pass0 (pe_f (K := K) rfl (pv 0) rfl) (pa_cons (pv 4) (pa_cons (pv 5) pa_nil)))) (pss_cons (ps_set (i := 7) sc_Rd_read.nd rfl (.inl rfl) (pe_mt M_Rd_read hr (by omega) (L2N.passes_call (L2N.takes_of rfl rfl rfl rfl) fun _ _ _ _ q => q) (pv 0) (pa_cons (pe_op op_cat (pv 1) (pe_lst (pa_cons (pe_tup (pa_cons (pv 4) (pa_cons (pv 5) pa_nil))) pa_nil))) (pa_cons (pe_op op_add (pv 2) pe_int) pa_nil)))) (pss_cons (ps_set (i := 8) sc_Rd_read.nd rfl (.inl rfl) (pe_mt M_Rd_read hr (by omega) (L2N.passes_call (L2N.takes_of rfl rfl rfl rfl) fun _ _ _ _ q => q) (pv 0) (pa_cons (pe_op op_cat (pv 1) (pe_lst (pa_cons (pe_tup (pa_cons (pv 5) (pa_cons (pv 4) pa_nil))) pa_nil))) (pa_cons (pe_op op_add (pv 2) pe_int) pa_nil)))) (pss_one (ps_ret (pe_and (pv 6) (pe_and (pv 7) (pe_one (pv 8)))))))))))))), ?_⟩
    have g8 : size s ≤ 8 := gd.ops
    refine q_when (b := decide ((12 : Int) < 13 - (f : Int))) (et_test (ev_op (ev_var rfl) ev_c rv_I0)) (fun hb H1 e1 => ?_) (fun hb H1 e1 => ?_)
    · have : f = 0 := by have := of_decide_eq_true hb; omega
      subst this
      exact q2 rfl H1 (.of e1)
    · obtain ⟨f', rfl⟩ : ∃ f', f = f' + 1 := ⟨f - 1, by have := of_decide_eq_false hb; omega⟩
      have e01 := e0.trans e1
      obtain ⟨dw, g', oo, ll', lf', os, ls, fs, hW0⟩ := id hw0
      have hW1 := hW0.same e01
      have hol : (rf os).length = size s := by simp [hW0.opA.1, size]
      refine q_asg (v := nv (size s)) (ev_is (ev_lenL (ev_fld (ev_fld (ev_var rfl) (e1 _ _ hR) T.rd T.rd_works rd_works) hW1.me T.wk T.wk_operations (wkF_operations ..)) hW1.ops) (by rw [hol])) fun H2 e2 => ?_
      have e12 := e1.trans e2
      have hR2 := e12 _ _ hR
      have e02 := e0.trans e12
      have ho2 := ho.same e12
      -- what stands while the reader moves
      have stay : ∀ {H' : Hp}, SB [a] H H' → Ex H0 H' := fun sb => SB.same e0 sb fun b hb => by rw [List.mem_singleton.mp hb]; exact na
      refine q_testK (ev_take (ev_var rfl) hR2 (e02 _ _ hg0) ev_c ev_c (fun hin H3 sb3 hR3 => ?_) fun hno => ?_)
      · obtain ⟨x, hx, hgd, l1, l2, hkl⟩ := inB_some hin
        rw [hgd]
        have sbH3 := (SB.of e12).trans sb3
        refine ⟨rfl, decide (V.int x = V.int 0), rfl, ?_⟩
        have sb4 : SB [a] H H3 := sbH3
        have hR4 := hR3
        have e04 := stay sb4
        have ho4 := ho.sbi hR sb4
        have dk := drop_cons hx
        by_cases hx0 : x = 0
        · subst hx0
          rw [if_pos (decide_eq_true rfl)]
          rw [dk] at q1 q2
          have none_if : ¬ (Vbwbai.inR (ns.getD (k + 1) 0) 1 20 = true ∧ (ns.getD (k + 1) 0).toNat ≤ (ns.drop (k + 2)).length ∧ (((ns.drop (k + 2)).take (ns.getD (k + 1) 0).toNat).all fun x => Vbwbai.inR x 0 (Vbwbai.int (size s))) = true) → treeIn (size s) (f' + 1) (0 :: ns.drop (k + 1)) = none := fun h => by
            cases e : ns[k + 1]? with
            | none => rw [drop_none e]; rfl
            | some y =>
              rw [drop_cons e, tin0, if_neg]
              rw [List.getD_eq_getElem?_getD, e] at h
              exact h
          refine q_asgK (lc_takes (ev_var rfl) hR4 (e04 _ _ hg0) ev_c ev_c (by decide) (by decide) (fun _ => rfl) (fun hno => ?_) fun hin5 H5 sb5 hR5 D nD => ?_)
          · refine (q2 (none_if fun h => ?_)).sb sb4
            have := h.1
            unfold Vbwbai.inR at this
            unfold inB at hno
            cases e : ns[k + 1]? with
            | none =>
              rw [List.getD_eq_getElem?_getD, e] at this
              cases this
            | some y =>
              rw [e] at hno
              rw [List.getD_eq_getElem?_getD, e] at this
              exact absurd ((show (decide (1 ≤ y) && decide (y ≤ 20)) = false from hno).symm.trans this) Bool.false_ne_true
          · obtain ⟨y, hy, hyd, y1, y2, hyl⟩ := inB_some hin5
            have sbH5 := sb4.trans sb5
            have Da : D ≠ a := fun z => by rw [z, hR5] at nD; cases nD
            have dk1 := drop_cons hy
            have hHD : H D = none := by
              cases e : H D with
              | none => rfl
              | some o' =>
                have := sbH5 D o' (fun q => Da (List.mem_singleton.mp q)) e
                rw [nD] at this
                cases this
            rw [hyd] at none_if ⊢
            have tl : ∀ i, (ns.drop (k + 2))[i]? = ns[k + 2 + i]? := fun i => List.getElem?_drop
            refine ⟨fun i H' => SB [a] H H' ∧ RdAt c H' a dx w mi g (k + 2 + i) ∧ H' D = some (.lst (((ns.drop (k + 2)).take i).map V.int)) ∧ i ≤ (ns.drop (k + 2)).length ∧ (∀ z ∈ (ns.drop (k + 2)).take i, Vbwbai.inR z 0 (Vbwbai.int (size s)) = true), ⟨sbH5.trans (.of (Ex.new nD)), ?_, upd_same, Nat.zero_le _, fun z hz => by simp at hz⟩, ?_, ?_⟩
            · show upd H5 D _ a = _
              rw [upd_ne Da.symm]
              exact hR5
            · rintro i H' hi ⟨sb', hR', hD', hil, hall⟩
              have e0' := stay sb'
              refine ev_take (ev_var rfl) hR' (e0' _ _ hg0) ev_c (ev_var rfl) (fun hin6 H6 sb6 hR6 => ?_) fun hno => ?_
              · obtain ⟨z, hz, hzd, z1, z2, hzl⟩ := inB_some hin6
                have hD6 : H6 D = some (.lst (((ns.drop (k + 2)).take i).map V.int)) := sb6 _ _ (fun q => Da (List.mem_singleton.mp q)) hD'
                have hz' : (ns.drop (k + 2))[i]? = some z := by rw [tl]; exact hz
                refine ⟨_, hD6, by rw [List.length_map, List.length_take]; exact few' (by omega), (fun b o nb hb => ?_), ?_, ?_, ?_, ?_⟩
                · rw [upd_ne (ne_of_none hb hHD)]
                  exact (sb'.trans sb6) b o nb hb
                · show upd H6 D _ a = _
                  rw [upd_ne Da.symm]
                  exact hR6
                · rw [upd_same, hzd, take_more hz', List.map_append]
                  rfl
                · have := (List.getElem?_eq_some_iff.mp hz').1
                  omega
                · intro q hq
                  rw [take_more hz'] at hq
                  rcases List.mem_append.mp hq with hq | hq
                  · exact hall q hq
                  · rw [List.mem_singleton.mp hq]
                    unfold Vbwbai.inR
                    rw [decide_eq_true z1, decide_eq_true (show z ≤ Vbwbai.int (size s) from z2)]
                    rfl
              · refine (q2 (none_if fun h => ?_)).sb sb'
                obtain ⟨_, h2, h3⟩ := h
                have hlt : i < (ns.drop (k + 2)).length := by omega
                have hzz := List.getElem?_eq_getElem hlt
                have hzz' := hzz
                rw [tl] at hzz
                rw [inB_of hzz] at hno
                have := List.all_eq_true.mp h3 _ (List.mem_of_getElem? (show ((ns.drop (k + 2)).take y.toNat)[i]? = _ from by rw [List.getElem?_take_of_lt (by omega)]; exact hzz'))
                rw [int_of] at this
                rw [this] at hno
                cases hno
            · rintro H' ⟨sb', hR', hD', hil, hall⟩
              have e0' := stay sb'
              have hP : Vbwbai.inR y 1 20 = true ∧ y.toNat ≤ (ns.drop (k + 2)).length ∧ (((ns.drop (k + 2)).take y.toNat).all fun x => Vbwbai.inR x 0 (Vbwbai.int (size s))) = true := ⟨by unfold Vbwbai.inR; rw [decide_eq_true y1, decide_eq_true y2]; rfl, hil, List.all_eq_true.mpr hall⟩
              have ht : treeIn (size s) (f' + 1) (0 :: ns.drop (k + 1)) = some (.leaf (((ns.drop (k + 2)).take y.toNat).map Int.toNat), (ns.drop (k + 2)).drop y.toNat) := by rw [dk1, tin0, if_pos hP]
              have hnn : ∀ z ∈ (ns.drop (k + 2)).take y.toNat, 0 ≤ z ∧ z ≤ (size s : Int) := fun z hz => by
                have := hall z hz
                unfold Vbwbai.inR at this
                rw [Bool.and_eq_true, decide_eq_true_iff, decide_eq_true_iff] at this
                exact this
              have hnv : ((ns.drop (k + 2)).take y.toNat).map V.int = nodes (((ns.drop (k + 2)).take y.toNat).map Int.toNat) := by
                unfold nodes
                rw [List.map_map]
                refine List.map_congr_left fun z hz => ?_
                show V.int z = V.int ((z.toNat : Nat) : Int)
                rw [Int.toNat_of_nonneg (hnn z hz).1]
              have hlen : (((ns.drop (k + 2)).take y.toNat).map Int.toNat).length = y.toNat := by
                rw [List.length_map, List.length_take]
                omega
              rw [hnv] at hD'
              show tRet _ _ _ H'
              refine s_ret (σ := [some (.ref a), some (.ref o), some (.int (13 - ((f' + 1 : Nat) : Int))), some (nv (size s)), none, none, none, none, none, some (.ref D), none]) (v := .bl (leafOk s ds mi (((ns.drop (k + 2)).take y.toNat).map Int.toNat))) (ev_meth (ev_var rfl) hR' (rd_no (by decide +kernel) (by decide +kernel) (by decide +kernel) (by decide +kernel)) (ea_cons (ev_var rfl) (ea_cons (ev_var rfl) ea_nil)) fun H7 e7 Q q E => ⟨a, D, o, dx, w, g, mi, _, s, _, ds, rfl, e7 _ _ hR', hw0.same (e0'.trans e7), gd, e7 _ _ hD', by rw [hlen]; omega, fun z hz => ?_, (ho.sbi hR sb').same e7, hd, q⟩) fun H7 e7 => ?_
              · obtain ⟨z', hz', rfl⟩ := List.mem_map.mp hz
                have := hnn z' hz'
                omega
              · exact q1 _ _ ht H7 (k + 2 + y.toNat) (sb'.trans (.of e7)) (e7 _ _ hR') (by rw [List.drop_drop]) (by rw [List.length_drop] at hil; omega)
        · have hx1 : x = 1 := by omega
          subst hx1
          rw [if_neg (by simp)]
          rw [dk] at q1 q2
          have fstN : inB ns (k + 1) 1 (size s : Nat) = false → treeIn (size s) (f' + 1) (1 :: ns.drop (k + 1)) = none := fun h => by
            rcases inB_no h with z | ⟨y, z, hy⟩
            · rw [z]; rfl
            · rw [z]
              cases ns.drop (k + 1 + 1) with
              | nil => rfl
              | cons j r => rw [tin1, if_pos (by rw [show Vbwbai.inR y 1 (Vbwbai.int (size s)) = false from hy]; rfl)]
          refine q_asgK (ev_take (ev_var rfl) hR4 (e04 _ _ hg0) ev_c (ev_var rfl) (fun hin5 H5 sb5 hR5 => ?_) fun hno => (q2 (fstN hno)).sb sb4)
          obtain ⟨i, hi, hid, i1, i2, hil⟩ := inB_some hin5
          rw [hid]
          have sbH5 := sb4.trans sb5
          have e05 := stay sbH5
          rw [drop_cons hi] at q1 q2
          have sndN : inB ns (k + 1 + 1) 1 (size s : Nat) = false → treeIn (size s) (f' + 1) (1 :: i :: ns.drop (k + 1 + 1)) = none := fun h => by
            rcases inB_no h with z | ⟨y, z, hy⟩
            · rw [z]; rfl
            · rw [z, tin1, if_pos (by rw [show Vbwbai.inR y 1 (Vbwbai.int (size s)) = false from hy, Bool.and_false])]
          refine q_asgK (ev_take (ev_var rfl) hR5 (e05 _ _ hg0) ev_c (ev_var rfl) (fun hin6 H6 sb6 hR6 => ?_) fun hno => (q2 (sndN hno)).sb sbH5)
          obtain ⟨j, hj, hjd, j1, j2, hjl⟩ := inB_some hin6
          rw [hjd]
          have sbH6 := sbH5.trans sb6
          have e06 := stay sbH6
          rw [drop_cons hj, tin1, if_neg (by
            unfold Vbwbai.inR
            rw [decide_eq_true i1, decide_eq_true j1, decide_eq_true (show i ≤ Vbwbai.int (size s) from i2), decide_eq_true (show j ≤ Vbwbai.int (size s) from j2)]
            decide)] at q1 q2
          have hiN : 0 < i.toNat ∧ i.toNat < size s + 1 := by omega
          have hjN : 0 < j.toNat ∧ j.toNat < size s + 1 := by omega
          have vi : V.int i = nv i.toNat := congrArg V.int (Int.toNat_of_nonneg (by omega)).symm
          have vj : V.int j = nv j.toNat := congrArg V.int (Int.toNat_of_nonneg (by omega)).symm
          have hR6' := hR6
          refine q_asg (v := .bl (oneUnit s i.toNat j.toNat)) (ev_meth (ev_fld (ev_var rfl) hR6 T.rd T.rd_works rd_works) (hW0.same e06).me (wkF_no _ _ _ _ (by decide +kernel) (by decide +kernel) (by decide +kernel) (by decide +kernel)) (ea_cons (ev_var rfl) (ea_cons (ev_var rfl) ea_nil)) fun H7 e7 Q q E => ⟨w, s, i.toNat, j.toNat, by rw [vi, vj], hw0.same (e06.trans e7), hiN, hjN, q⟩) fun H7 e7 => ?_
          have sbH7 := sbH6.trans (SB.of e7)
          have e07 := stay sbH7
          have hR7 := e7 _ _ hR6
          have d1 : OkDs s (ds ++ [(i.toNat, j.toNat)]) := hd.app (OkDs.one hiN hjN)
          have d2 : OkDs s (ds ++ [(j.toNat, i.toNat)]) := hd.app (OkDs.one hjN hiN)
          have deep : ∀ {σ : L2.St} {H8 : Hp}, σ[2]? = some (some (.int (13 - ((f' + 1 : Nat) : Int)))) → Ev (tOp (rI0 fun i j => .int (i + j)) (tVar 2) (tC (.int 1))) σ H8 (.int (13 - (f' : Int))) := fun h => ev_is (ev_op (ev_var h) ev_c rv_I0) (by
            show V.int (13 - ((f' + 1 : Nat) : Int) + 1) = V.int (13 - (f' : Int))
            congr 1
            omega)
          rw [vi, vj]
          refine q_asgK (ev_read (f := f') (n := n) (ds := ds ++ [(i.toNat, j.toNat)]) (ev_var rfl) (by omega) e07 na hw0 hg0 gd hR7 ((ep_snoc (ev_var rfl) (ho.sbi hR sbH7) (ev_var rfl) (ev_var rfl) (by omega)).imp fun v H8 _ ⟨p, ev, _, hp⟩ => ⟨p, ev, hp⟩) (deep rfl) d1 (by rw [List.length_append, List.length_singleton]; omega) (by omega) (by omega) (fun tl rl hl H8 k8 sb8 hR8 hk8 hkl8 => ?_) fun hno => (q2 (by rw [hno])).sb sbH7)
          have sbH8 := sbH7.trans sb8
          have e08 := stay sbH8
          rw [hl] at q1 q2
          rw [← hk8] at q1 q2
          refine q_asgK (ev_read (f := f') (n := n) (ds := ds ++ [(j.toNat, i.toNat)]) (ev_var rfl) (by omega) e08 na hw0 hg0 gd hR8 ((ep_snoc (ev_var rfl) (ho.sbi hR sbH8) (ev_var rfl) (ev_var rfl) (by omega)).imp fun v H8 _ ⟨p, ev, _, hp⟩ => ⟨p, ev, hp⟩) (deep rfl) d2 (by rw [List.length_append, List.length_singleton]; omega) (by omega) hkl8 (fun tr rr hr' H9 k9 sb9 hR9 hk9 hkl9 => ?_) fun hno => (q2 (by show (match treeIn (size s) f' (ns.drop k8) with | none => none | some b => some (Vbwbai.Tree.node i.toNat j.toNat tl b.1, b.2)) = none; rw [hno])).sb sbH8)
          have sbH9 := sbH8.trans sb9
          refine s_ret (v := .bl (oneUnit s i.toNat j.toNat && (checked s mi (ds ++ [(i.toNat, j.toNat)]) tl && checked s mi (ds ++ [(j.toNat, i.toNat)]) tr))) (ev_andV (ev_var rfl) fun _ => ev_andV (ev_var rfl) fun _ => ev_var rfl) fun H10 e10 => ?_
          have qq := q1 (.node i.toNat j.toNat tl tr) rr (by show (match treeIn (size s) f' (ns.drop k8) with | none => none | some b => some (Vbwbai.Tree.node i.toNat j.toNat tl b.1, b.2)) = _; rw [hr']) H10 k9 (sbH9.trans (.of e10)) (e10 _ _ hR9) hk9 hkl9
          have ech : checked s mi ds (.node i.toNat j.toNat tl tr) = (oneUnit s i.toNat j.toNat && (checked s mi (ds ++ [(i.toNat, j.toNat)]) tl && checked s mi (ds ++ [(j.toNat, i.toNat)]) tr)) := by
            show (decide (1 ≤ i.toNat ∧ i.toNat ≤ size s ∧ 1 ≤ j.toNat ∧ j.toNat ≤ size s ∧ i.toNat ≠ j.toNat) && ((opAt s i.toNat).unit == (opAt s j.toNat).unit && (checked s mi (ds ++ [(i.toNat, j.toNat)]) tl && checked s mi (ds ++ [(j.toNat, i.toNat)]) tr))) = _
            unfold oneUnit
            rw [Bool.and_assoc]
            congr 1
            rw [Bool.eq_iff_iff, decide_eq_true_iff, decide_eq_true_iff]
            omega
          rw [ech] at qq
          exact qq
      · refine (q2 ?_).sb (.of e12)
        rcases inB_no hno with z | ⟨x, z, hx⟩
        · rw [z]; rfl
        · rw [z]
          refine tin_no _ _ (fun y => ?_) fun y => ?_
          · subst y; cases hx
          · subst y; cases hx
end
end Uw
/-! W28: the reader's shows; the deed shows. -/
namespace Uw
open PySem PySem.Spec PyProof.Rows L2 Evl
open Vbwbai (State Op Link Arrow size opAt numbers best arrows at_ treeIn checked leafOk)
open Up (OkDs Good)

theorem pmk5_ref {X : Cx} {RF : Addr} {e : Expr} {ta : TA} {p pos : Pos} {j : Nat} (T : RefOk X.prog X.w X.K X.mg X.base RF) (hr : L2H.RoomH j X.A) (hk : 2 ≤ j) (hc : L2H.HotC X) (hg : Gl X "Refused") (ha : PA X [e] ta) (he : starEach [e] X.env = (false, eval e X.env) :: starEach [] X.env := by rfl) :
    L2N.PMk X (.Call (.Name "Refused" p) [e] [] pos) (tMkO RF (spRef RF) [] ta) := by
  obtain ⟨fI, fd, o, i, t, _, F, b, g⟩ := T.ex
  have h5 := L2H.pmk5_oexH (p := p) (pos := pos) o i t F (hr.mono hk) hc b (fun _ _ _ _ _ _ _ h => h.elim) hg g ha (by decide) he (by rfl)
  exact fun pins s σ H Q I h => thn (h5 pins s σ H Q I h) fun _ _ q => q.1
section
variable {P : Program} {w : World} {K : PySem.W.Frag} {mg : Str → Option Value} {base : Heap} {c : Ad} {RF WT : Addr}
def spShows (c : Ad) (WT : Addr) : Sp := fun vs H Q E => ∃ (a dx w g : Addr) (mi : Int) (ns : List Int) (s : State) (H0 : Hp), vs = [.ref a] ∧ Ex H0 H ∧ H0 a = none ∧ WorksAt c H0 w s ∧ H0 g = some (.lst (ns.map V.int)) ∧ Good s ∧ RdAt c H a dx w mi g 0 ∧
  (∀ t, treeIn (size s) 12 ns = some (t, []) → ∀ H', SB [a] H H' → Q (.bl (checked s mi s.fixed t)) H') ∧ ((∀ t, treeIn (size s) 12 ns ≠ some (t, [])) → Wtf WT a H E)
abbrev s_Rd_shows : Stmt := inClass (topS 15) 4
theorem sc_Rd_shows : FnScope ["self", "found"] ["self"] (defScope s_Rd_shows) := ⟨rfl, rfl, rfl, by decide +kernel, rfl, by decide +kernel, by decide +kernel⟩
theorem ok_rd_shows (T : Txt2 K mg c RF WT) (D : DefM K c.Rd "shows" "Reader.shows" s_Rd_shows ["self"]) (M_Rd_read : Met P w K mg base (L2N.CX P w) 19 c.Rd "read" (spRead c WT 13)) : Met P w K mg base (L2N.CX P w) 20 c.Rd "shows" (spShows c WT) := by
  have TW := wt_of T
  refine metN D T.rd sc_Rd_shows (fun vs H Q E h => ?_) (fun f cdv A outer s H vs Q E hr h => ?_)
  · obtain ⟨a, dx, w, g, mi, ns, s, H0, rfl, _⟩ := h
    rfl
  · obtain ⟨a, dx, w, g, mi, ns, s, H0, rfl, e0, na, hw0, hg0, gd, hR, q1, q2⟩ := h
    refine ⟨_, (pss_cons (ps_set (i := 1) sc_Rd_shows.nd rfl (.inl rfl) (pe_mt M_Rd_read hr (by decide) (L2N.passes_call (L2N.takes_of rfl rfl rfl rfl) fun _ _ _ _ q => q) (pv 0) (pa_cons (pe_f (K := K) rfl (pe_f (K := K) rfl (pv 0) rfl) rfl) (pa_cons pe_int pa_nil)))) (pss_cons (ps_if (pt_cmpR op_ne (pe_f (K := K) rfl (pv 0) rfl) (pe_callB (lenR (K := K) rfl) (by rfl) T.len (by decide +kernel) (pa_cons (pe_f (K := K) rfl (pv 0) rfl) pa_nil)) (nomark _)) (pss_one (L2N.ps_raise rfl (L2N.takes_of rfl rfl rfl rfl) (pmk_wt TW (by rfl)))) pss_nil) (pss_one (ps_ret (pv 1))))), ?_⟩
    have fl := Up.fixed_few gd
    have stay : ∀ {H' : Hp}, SB [a] H H' → Ex H0 H' := fun sb => SB.same e0 sb fun b hb => by rw [List.mem_singleton.mp hb]; exact na
    refine q_asgK (ev_read (f := 12) (n := 13) (ds := s.fixed) (k := 0) (ev_var rfl) (by decide) e0 na hw0 hg0 gd hR (ep_fixed T.toTxt (ev_fld (ev_var rfl) hR T.rd T.rd_works rd_works) (hw0.same e0)) (ev_is ev_c (by show V.int 1 = V.int (13 - ((12 : Nat) : Int)); rfl)) gd.fixed (by omega) (Nat.le_refl _) (Nat.zero_le _) (fun t r ht H1 k1 sb1 hR1 hk1 hkl1 => ?_) fun hno => q2 fun t z => ?_)
    · have e01 := stay sb1
      rw [List.drop_zero] at ht
      refine q_when (b := !decide (V.int (k1 : Int) = V.int ((ns.map V.int).length : Int))) (et_test (ev_op (ev_fld (ev_var rfl) hR1 T.rd T.rd_at rd_at) (ev_lenL (ev_fld (ev_var rfl) hR1 T.rd T.rd_given rd_given) (e01 _ _ hg0)) (rv_ne rfl))) (fun hb H2 e2 => ?_) (fun hb H2 e2 => ?_)
      · refine q2 (fun t' z => ?_) H2 (sb1.trans (.of e2))
        rw [ht] at z
        obtain ⟨_, zr⟩ := Prod.mk.inj (Option.some.inj z)
        rw [zr] at hk1
        have hl : ns.length ≤ k1 := List.drop_eq_nil_iff.mp hk1
        have : V.int (k1 : Int) = V.int ((ns.map V.int).length : Int) := by rw [List.length_map, show k1 = ns.length by omega]
        rw [decide_eq_true this] at hb
        cases hb
      · have hkk : V.int (k1 : Int) = V.int ((ns.map V.int).length : Int) := of_decide_eq_true (by simpa using hb)
        have hkk' : (k1 : Int) = ((ns.map V.int).length : Int) := V.int.inj hkk
        rw [List.length_map] at hkk'
        have hr0 : r = [] := by
          rw [← hk1]
          exact List.drop_eq_nil_of_le (by omega)
        rw [hr0] at ht
        exact s_ret (ev_var rfl) fun H3 e3 => q1 t ht H3 ((sb1.trans (.of e2)).trans (.of e3))
    · rw [List.drop_zero] at hno
      rw [hno] at z
      cases z
theorem ev_mkRd {σ : L2.St} {H : Hp} {Q : VK} {tw tm tg : TE} {w g : Addr} {mi : Int} (hw : Ev tw σ H (.ref w)) (hm : Ev tm σ H (.int mi)) (hg : Ev tg σ H (.ref g)) (k : ∀ x dx H', Ex H H' → H x = none → H' x = some (.ins c.Rd dx (rdF w mi g 0)) → Q (.ref x) H') : tMake c.Rd (spRdI c) [] E0 (tCons tw (tCons tm (tCons tg tNil))) σ H Q := by
  have hE : EvA (tCons tw (tCons tm (tCons tg tNil))) σ H [.ref w, .int mi, .ref g] := ea_cons hw (ea_cons hm (ea_cons hg ea_nil))
  unfold tMake
  refine hE H (Ex.refl _) _ fun H1 e1 x dx nx ndx nxd => ⟨x, dx, w, g, mi, rfl, upd_same, fun H' sb hx => ⟨rfl, ?_⟩⟩
  exact k x dx H' (e1.trans (make_ex nx ndx sb)) (fresh_back e1 nx) hx
theorem q_shows {D : Ends} {tz : TS} {tm : TE} {ts : Addr → Value → Option Addr → TS} {Wout : WX} {σ : L2.St} {H : Hp} (h : tm σ H fun x H1 => ∃ a dx fs, x = .ref a ∧ H1 a = some (.ins c.Rd dx fs) ∧ fs.lookup ("shows" : Str) = none ∧ spShows c WT (x :: ([] ++ [])) H1 (fun v H2 => tz D (σ.set 3 (some v)) H2) fun cls d H => ∀ σ, wOnly K (.ref WT) ts Wout { D with nx := tz D } cls d σ H) :
    tSeq (fun D σ H => (fun W : WX => tAsg (tMeth c.Rd "shows" (spShows c WT) [] (fun cls d H => ∀ σ, W cls d σ H) tm tNil) (gName 3)) (wOnly K (.ref WT) ts Wout D) D σ H) tz D σ H := h
abbrev s_shows : Stmt := topS 44
theorem sc_shows : FnScope ["desk", "numbers", "rows", "found"] ["desk", "numbers", "rows"] (defScope s_shows) := ⟨rfl, rfl, rfl, by decide +kernel, rfl, by decide +kernel, by decide +kernel⟩
theorem ok_d10 (T : Txt2 K mg c RF WT) (TR : RefOk P w K mg base RF) (D : DefG K mg "shows" s_shows ["desk", "numbers", "rows"]) (C_require : Cal P w K mg base (L2.CX P w) 3 "require" (spReq RF)) (M_Rd_shows : Met P w K mg base (L2N.CX P w) 20 c.Rd "shows" (spShows c WT)) (K_Rd : Mak P w K mg base CX0 1 "Reader" c.Rd (spRdI c)) : Cal P w K mg base (L2.CX P w) 21 "shows" (spDeed c RF 10) := by
  refine calX D sc_shows (fun vs H Q E h => deed_len h) (fun f cdv A outer s H vs Q E hr h => ?_)
  obtain ⟨dk, nu, rw', wk, dx, s, ns, rws, rfl, hdk, hw, gd, hn, hrw, sh, h5, qa, qr⟩ := deed_ro h
  obtain ⟨sh1, sh2⟩ := Prod.mk.inj (Option.some.inj sh)
  obtain ⟨mi, rfl⟩ := one_of sh1.symm
  obtain ⟨B, rfl⟩ := one_of sh2.symm
  refine ⟨_, (pss_cons (ps_expr (pe_c C_require hr (by decide) (passes_call (takes_of rfl rfl rfl rfl) fun _ _ _ _ q => q) (by rfl) (pa_cons (pe_chain op_le op_le pe_int (pe_ix (ixL (K := K) rfl) (pv 1) pe_int (fun _ _ => rfl)) (C8.pe_gc (by rfl) T.MOST_END)) (pa_cons (pe_un un_neg pe_int) pa_nil)))) (pss_cons (ps_set (i := 3) sc_shows.nd rfl (.inl rfl) pe_bl)
    (pss_cons (L2H.ps_try_onlyX (Wout := fun cls d _ H => E cls d H) rfl rfl ⟨by rfl, by decide, .inl T.wt_g⟩ (fun hd => L2H.passesAt_of rfl hd) (takes_of rfl rfl rfl rfl)
      (fun W pn xe tk tk2 pass => pss_one (ps_set (i := 3) sc_shows.nd rfl (.inl rfl) (pe_mt0 (E := fun cls d H => ∀ σ, W cls d σ H) M_Rd_shows hr (by decide) (L2N.passes_call tk fun _ _ σ _ q => q σ) (pe_mk K_Rd hr (by decide) pass0 (by rfl) (pa_cons (pe_f (K := K) rfl (pv 0) rfl) (pa_cons (pe_ix (ixL (K := K) rfl) (pv 1) pe_int (fun _ _ => rfl)) (pa_cons (pe_ix (ixL (K := K) rfl) (pv 2) pe_int (fun _ _ => rfl)) pa_nil)))))))
      (fun a oe cls d pn hz hf tk hot => pss_one (L2H.ps_raiseH hot tk (pmk5_ref TR (L2H.roomH_mark hr _) (by decide) hot (by rfl) (pa_cons (pe_un un_neg pe_int) pa_nil)))))
    (pss_one (ps_ret (pe_lst (pa_cons (pe_callTy call_int1 (by rfl) T.int (by decide +kernel) (pa_cons (pv 3) pa_nil)) pa_nil))))))), ?_⟩
  have g8 : size s ≤ 8 := gd.ops
  have TT := T.toTxt
  have stepE : Vbwbai.step s [[10, mi], B] = if Vbwbai.inR mi 0 1000000000000 = false then Vbwbai.ans s [-1] else (match treeIn (size s) 12 B with
    | some (t, []) => Vbwbai.ans s [if checked s mi s.fixed t = true then 1 else 0]
    | _ => Vbwbai.ans s [-2]) := rfl
  have n0 : ∀ {H' : Hp} {σ : L2.St}, Ex H H' → σ[1]? = some (some (.ref nu)) → Ev (tOp (rIxL K) (tVar 1) (tC (.int 0))) σ H' (.int mi) := fun e hs => ev_op (ev_var hs) ev_c (rv_ixL (.of (e _ _ hn)) (atI_nat (j := 0) rfl))
  refine q_req (b := Vbwbai.inR mi 0 1000000000000) (ev_chain (i := 0) (j := mi) (k := 1000000000000) ev_c (n0 (Ex.refl _) rfl) ev_c) (ru_negI ru_neg) (fun hb H1 e1 => ?_) (fun hb => qr (-1) (by rw [stepE, if_pos hb]; rfl))
  rw [stepE, if_neg (by rw [hb]; decide)] at qa qr
  refine q_asg (v := .bl false) ev_c fun H2 e2 => ?_
  have e12 := e1.trans e2
  obtain ⟨as, has, hA⟩ := hrw
  obtain ⟨b, hbb, hbl⟩ := hA.at (i := 0) (x := B) rfl
  have hbl' : H b = some (.lst (B.map V.int)) := hbl
  refine q_shows (ev_mkRd (w := wk) (g := b) (mi := mi) (ev_works TT (ev_var rfl) (e12 _ _ hdk)) (n0 e12 rfl) (ev_op (ev_var rfl) ev_c (rv_ixL (.of (e12 _ _ has)) (atI_nat (j := 0) (rf_get hbb)))) fun x da H3 e3 nx hx => ⟨x, da, _, rfl, hx, rd_no (by decide +kernel) (by decide +kernel) (by decide +kernel) (by decide +kernel), x, da, wk, b, mi, B, s, H2, rfl, e3, nx, hw.same e12, e12 _ _ hbl', gd, hx, fun t ht H4 sb4 => ?_, fun hno H4 sb4 σ => ⟨true, T.wt_te, fun _ a _ => ?_, fun z => nomatch z⟩⟩)
  · have e03 := e12.trans e3
    have e4 : Ex H2 H4 := SB.same e3 sb4 fun b hb => by rw [List.mem_singleton.mp hb]; exact nx
    have e04 := e12.trans e4
    rw [ht] at qa
    refine s_retL (σ := [some (.ref dk), some (.ref nu), some (.ref rw'), some (.bl (checked s mi s.fixed t))]) (xs := [.int (if checked s mi s.fixed t = true then 1 else 0)]) (el_lst (ea_cons (ev_cb (ea_cons (ev_var rfl) ea_nil) fun H5 _ Q q => .inr ⟨_, rfl, q H5 (Ex.refl _)⟩) ea_nil) (by show 1 ≤ 100000; decide)) fun p H5 np e5 hp => ?_
    exact qa _ rfl p H5 (e04.trans e5) (fresh_back e04 np) hp
  · have e4 : Ex H2 H4 := SB.same e3 sb4 fun b hb => by rw [List.mem_singleton.mp hb]; exact nx
    have hz : (match treeIn (size s) 12 B with
      | some (t, []) => Vbwbai.ans s [if checked s mi s.fixed t = true then 1 else 0]
      | _ => Vbwbai.ans s [-2]) = (s, [-2]) := by
      split
      · next t ht => exact absurd ht (hno t)
      · rfl
    exact s_refuse (ru_negI ru_neg) ((qr (-2) hz).same (e12.trans e4))
end
end Uw
/-! W29: the works stay good. -/
namespace Uw
open PySem PySem.Spec PyProof.Rows L2 Evl
open Vbwbai (State Op Link size okOp)
open Up (OkDs Good)
theorem withPlan_s (s : State) (f : Int × List Int × List (Nat × Nat) → List Int) : (Vbwbai.withPlan s f).1 = s := by
  unfold Vbwbai.withPlan
  split
  · rfl
  · split <;> rfl
theorem in_R {x lo hi : Int} (h : Vbwbai.inR x lo hi = true) : lo ≤ x ∧ x ≤ hi := by
  unfold Vbwbai.inR at h
  rw [Bool.and_eq_true, decide_eq_true_iff, decide_eq_true_iff] at h
  exact h
theorem good_step {s : State} (g : Good s) (c : List (List Int)) : Good (Vbwbai.step s c).1 := by
  have g1 := g.gaps
  have g2 := g.ops
  have g4 := g.lnk
  unfold Vbwbai.step
  split
  · -- begin
    split
    · exact g
    · next l h =>
      have h : (decide (1 ≤ l.length) && (decide (l.length ≤ Vbwbai.UNITS) && l.all fun x => Vbwbai.inR x 0 1000000)) = true := by simpa using h
      rw [Bool.and_eq_true, Bool.and_eq_true, decide_eq_true_iff, decide_eq_true_iff] at h
      have h6 : l.length ≤ 6 := h.2.1
      exact ⟨by rw [List.length_map]; exact h6, Nat.zero_le _, fun o ho => by simp at ho, Nat.zero_le _, fun o ho => by simp at ho, fun o ho => by simp at ho, List.nodup_nil⟩
  · -- put_operation
    split
    · exact g
    · split
      · exact g
      · next u n r d h1 h2 =>
        have h1 : (Vbwbai.inR u 0 (Vbwbai.int s.gaps.length - 1) && (Vbwbai.inR n 1 1000000 && (Vbwbai.inR r 0 1000000000 && Vbwbai.inR d (-1) 1000000000))) = true := by simpa using h1
        rw [Bool.and_eq_true] at h1
        have hu := in_R h1.1
        rw [int_of] at hu
        have h2' : ¬ 8 ≤ s.ops.length := h2
        have sz : size (⟨s.gaps, s.ops ++ [⟨u.toNat, n.toNat, r.toNat, if d < 0 then none else some d.toNat⟩], s.links, s.fixed⟩ : State) = size s + 1 := by simp [size]
        refine ⟨g1, by show (s.ops ++ [_]).length ≤ 8; rw [List.length_append, List.length_singleton]; omega, fun o ho => ?_, g4, fun l hl => ?_, fun p hp => ?_, g.nd⟩
        · rcases List.mem_append.mp ho with ho | ho
          · exact g.unit o ho
          · rw [List.mem_singleton.mp ho]
            show u.toNat < s.gaps.length
            omega
        · have := g.links l hl
          rw [sz]
          omega
        · have := g.fixed p hp
          rw [sz]
          omega
  · -- put_link
    split
    · exact g
    · split
      · exact g
      · split
        · exact g
        · next i j a b h1 h2 h3 =>
          have h1 : (okOp s i && (okOp s j && (Vbwbai.inR a (-1000000000) 1000000000 && Vbwbai.inR b (-1000000000) 1000000000))) = true := by simpa using h1
          rw [Bool.and_eq_true, Bool.and_eq_true] at h1
          have hi := okOp_of h1.1
          have hj := okOp_of h1.2.1
          have h3' : ¬ 16 ≤ s.links.length := h3
          refine ⟨g1, g2, g.unit, by show (s.links ++ [_]).length ≤ 16; rw [List.length_append, List.length_singleton]; omega, fun l hl => ?_, g.fixed, g.nd⟩
          rcases List.mem_append.mp hl with hl | hl
          · exact g.links l hl
          · rw [List.mem_singleton.mp hl]
            exact ⟨hi.1, hj.1⟩
  · -- fix
    split
    · exact g
    · split
      · exact g
      · split
        · exact g
        · next i j h1 h2 h3 =>
          have h1 : (okOp s i && okOp s j) = true := by simpa using h1
          rw [Bool.and_eq_true] at h1
          have hi := okOp_of h1.1
          have hj := okOp_of h1.2
          refine ⟨g1, g2, g.unit, g4, g.links, fun p hp => ?_, ?_⟩
          · rcases List.mem_append.mp hp with hp | hp
            · exact g.fixed p hp
            · rw [List.mem_singleton.mp hp]
              exact ⟨hi.1, hj.1⟩
          · refine List.nodup_append.mpr ⟨g.nd, by simp, fun a ha b hb z => h3 ?_⟩
            rw [List.mem_singleton.mp hb] at z
            subst z
            unfold Vbwbai.fixedBy
            exact List.any_eq_true.mpr ⟨_, ha, by simp⟩
  · -- unfix
    split
    · exact g
    · split
      · exact g
      · exact ⟨g1, g2, g.unit, g4, g.links, fun p hp => g.fixed p (List.mem_filter.mp hp).1, g.nd.sublist List.filter_sublist⟩
  · exact g
  · split
    · exact g
    · exact g
  · exact g
  · rw [withPlan_s]; exact g
  · split
    · exact g
    · split <;> exact g
  · split
    · exact g
    · split <;> exact g
  · split <;> exact g
  · exact g
  · exact g
  · rw [withPlan_s]; exact g
  · exact g
  · exact g
theorem good0 : Good ⟨[], [], [], []⟩ := ⟨Nat.zero_le _, Nat.zero_le _, fun o ho => by simp at ho, Nat.zero_le _, fun o ho => by simp at ho, fun o ho => by simp at ho, List.nodup_nil⟩
end Uw
/-! W30: rows_at, answer_to. -/
namespace Uw
open PySem PySem.Spec PyProof.Rows L2 Evl
open Vbwbai (State)
open Up (OkDs Good)

/-! ### tuples of the top -/
def TupK (K : PySem.W.Frag) (a : Addr) (xs : List V) : Prop := ∃ (o : Obj) (its : Array Value) (n : Nat), K.lookup a = some o ∧ o.cls = .type "tuple" ∧ o.data = .seq its n ∧ its.size ≤ sizeLine ∧ Vals xs its.toList
theorem TupK.sq {K : PySem.W.Frag} {H : Hp} {a : Addr} {xs : List V} (h : TupK K a xs) : SqT K H a xs := .inr h
structure Txt3 (K : PySem.W.Frag) (mg : Str → Option Value) (c : Ad) (RF WT pS pD : Addr) (ss : List Addr) : Prop extends Txt2 K mg c RF WT where
  SHAPES : ∃ u, mg "SHAPES" = some u ∧ RelV (.ref pS) u
  DEEDS : ∃ u, mg "DEEDS" = some u ∧ RelV (.ref pD) u
  shp : TupK K pS (rf ss)
  shpI : ∀ i n k, PyVbwbai.shape i = some (n, k) → ∃ q, atI (rf ss) i = some (.ref q) ∧ TupK K q [nv n, nv k]
/-- the sixteen deeds -/
structure DeedsAt (P : Program) (w : World) (K : PySem.W.Frag) (mg : Str → Option Value) (base : Heap) (c : Ad) (RF pD : Addr) : Prop where
  ex : ∃ fs : List Addr, TupK K pD (rf fs) ∧ ∀ i n k, PyVbwbai.shape i = some (n, k) → ∃ (f : Addr) (fd : FuncData) (ps : List Str) (k : Nat), k ≤ 21 ∧ atI (rf fs) i = some (.ref f) ∧ FnOk P w K mg base (L2.CX P w) k f fd ps (spDeed c RF i) ∧ PySem.W.keepIn K (.ref f) = true ∧ Binds K fd ps []
/-! ### a call of a slot's def in a try -/
def tCallLS (i : Nat) (f : Addr) (sp : Sp) (E : L2.St → XK) (t : TA) : TE := fun σ H Q => σ[i]? = some (some (.ref f)) ∧ t σ H fun vs H1 => sp vs H1 Q (E σ)
theorem pe_callLS {X : Cx} {CX : CXT} {k i : Nat} {f : Addr} {fd : FuncData} {ps : List Str} {sp : Sp} {E : L2.St → XK} {x : Str} {p pos : Pos} {e : Expr} {es : List Expr} {t : TA} (F : FnOk X.prog X.w X.K X.mg X.base CX k f fd ps sp) (hr : Room k X.A) (hN : X.N[i]? = some x) (hv : Vis X.env.scope x) (hk : PySem.W.keepIn X.K (.ref f) = true) (hb : Binds X.K fd ps []) (hx : ∀ σ, PassesAt CX X σ (E σ)) (ha : PA X (e :: es) t)
    (hdb : (x == ("__debug__" : Str)) = false := by decide) (hcd : (x == ("__classdict__" : Str)) = false := by decide)
    (he : starEach (e :: es) X.env = (false, eval e X.env) :: starEach es X.env := by rfl) (hpl : (backTo pos (starEach es X.env)).any (·.1) = false := by rfl) : PE X (.Call (.Name x p) (e :: es) [] pos) (tCallLS i f sp E t) := by
  refine ⟨fun pins s σ H Q I h => ?_⟩
  obtain ⟨hs, ht⟩ := h
  refine wpAny_Call_Name_kw (thn ((pe_var (pos := p) hN hv hdb hcd).run pins s σ H (fun v H1 => v = .ref f ∧ H1 = H) I ⟨.ref f, hs, rfl, rfl⟩) fun u s1 ⟨v, H1, I1, r1, q1⟩ => ?_)
  obtain ⟨rfl, rfl⟩ := q1
  cases r1
  refine PySem.W.callWith_K (h₀ := X.base) I.ok.mod.kin hk (thn (ha.run pos pins s1 σ _ _ I1 ht) fun us s2 ⟨vs, H2, I2, r, q⟩ => ⟨I2.kIn, ?_⟩) he hpl
  exact run_fnS F hr hb (hx σ) I2 r q
/-! ### slices, pairs -/
theorem cut_mid (xs : List V) {k n : Nat} (h : k + n ≤ xs.length) : cutV xs (some (k : Int)) (some ((k + n : Nat) : Int)) = (xs.drop k).take n := by
  unfold cutV
  rw [HT.sIx_nat, HT.sIx_nat, Nat.min_eq_left (show k ≤ xs.length by omega), Nat.min_eq_left h, Nat.add_sub_cancel_left]
theorem map_mid (ns : List Int) (k n : Nat) : ((ns.map V.int).drop k).take n = ((ns.drop k).take n).map V.int := by
  rw [List.map_take, List.map_drop]
theorem q_unpP {K : PySem.W.Frag} {D : Ends} {tz : TS} {σ : L2.St} {H : Hp} {te : TE} {P : V → Hp → Prop} {i j : Nat} (h : EvP te σ H P) (k : ∀ v H1, Ex H H1 → P v H1 → ∃ a x y, v = .ref a ∧ SqT K H1 a [x, y] ∧ tz D ((σ.set i (some x)).set j (some y)) H1) : tSeq (tAsg te (gTup K 2 (gCons (gName i) (gCons (gName j) gNil)))) tz D σ H :=
  h H (Ex.refl H) _ fun v H1 e1 p => by
    obtain ⟨a, x, y, ev, hq, kk⟩ := k v H1 e1 p
    exact ⟨a, [x, y], ev, hq, rfl, x, [y], rfl, y, [], rfl, rfl, kk⟩
section
variable {P : Program} {w : World} {K : PySem.W.Frag} {mg : Str → Option Value} {base : Heap} {c : Ad} {RF WT pS pD : Addr} {ss : List Addr}
theorem q_appS {D : Ends} {tz : TS} {σ : L2.St} {H : Hp} {ta te : TE} {l : Addr} {xs : List V} {v : V} (hl : H l = some (.lst xs)) (ha : Ev ta σ H (.ref l)) (h : Ev te σ H v) (hz : xs.length < sizeLine) (k : ∀ H1, Ex H H1 → tz D σ (upd H1 l (.lst (xs ++ [v])))) :
    tSeq (tDrop (tBM K "list" rAppend ta (tCons te tNil))) tz D σ H := ha H (Ex.refl H) _ fun H1 e1 =>
  ⟨Or.inl ⟨rfl, xs, sq_of (e1 l _ hl)⟩, h H1 e1 _ fun H2 e2 => ⟨l, xs, v, rfl, rfl, e2 l _ (e1 l _ hl), hz, k H2 (e1.trans e2)⟩⟩
theorem q_extS {D : Ends} {tz : TS} {σ : L2.St} {H : Hp} {ta te : TE} {l p : Addr} {xs ys : List V} (hl : H l = some (.lst xs)) (ha : Ev ta σ H (.ref l)) (h : Ev te σ H (.ref p)) (hp : H p = some (.lst ys)) (hz : xs.length + ys.length ≤ sizeLine) (k : ∀ H1, Ex H H1 → tz D σ (upd H1 l (.lst (xs ++ ys)))) :
    tSeq (tDrop (tBM K "list" rExtend ta (tCons te tNil))) tz D σ H := ha H (Ex.refl H) _ fun H1 e1 =>
  ⟨Or.inl ⟨rfl, xs, sq_of (e1 l _ hl)⟩, h H1 e1 _ fun H2 e2 => ⟨l, p, xs, ys, rfl, rfl, e2 _ _ (e1 _ _ hl), e2 _ _ (e1 _ _ hp), hz, k H2 (e1.trans e2)⟩⟩
/-! ### rows_at -/
def spRowsAt (K : PySem.W.Frag) : Sp := fun vs H Q _ => ∃ (a : Addr) (ns : List Int) (k m : Nat) (xs : List (List Int)) (r : List Int), vs = [.ref a, nv k, nv m] ∧ SqL K H a (ns.map V.int) ∧ ns.length ≤ 10000 ∧ m ≤ 10 ∧ PyFlat.rows m (ns.drop k) = some (xs, r) ∧ k ≤ ns.length ∧
  ∀ p q k' H', Ex H H' → H' p = some (.tup [.ref q, nv k']) → RowsAt H' q xs → k' ≤ ns.length → ns.drop k' = r → Q (.ref p) H'
theorem RowsAt.same {H H' : Hp} {p : Addr} {rws : List (List Int)} (h : RowsAt H p rws) (e : Ex H H') : RowsAt H' p rws := by
  obtain ⟨as, h1, h2⟩ := h
  exact ⟨as, e _ _ h1, h2.mono fun a x _ r => e _ _ r⟩
abbrev s_rows_at : Stmt := topS 56
theorem sc_rows_at : FnScope ["calls", "at", "many", "found", "turn", "length"] ["calls", "at", "many"] (defScope s_rows_at) := ⟨rfl, rfl, rfl, by decide +kernel, rfl, by decide +kernel, by decide +kernel⟩
theorem ok_rows_at (T : Txt K mg c) (D : DefG K mg "rows_at" s_rows_at ["calls", "at", "many"]) : Cal P w K mg base CX0 1 "rows_at" (spRowsAt K) := by
  refine cal0 D sc_rows_at (fun vs H Q E h => ?_) (fun f cdv A outer s H vs Q E hr h => ?_)
  · obtain ⟨a, ns, k, m, xs, r, rfl, _⟩ := h
    rfl
  · obtain ⟨a, ns, k, m, xs, r, rfl, ha, hl, hm, hrows, hk, q⟩ := h
    refine ⟨_, (pss_cons (ps_set (i := 3) sc_rows_at.nd rfl (.inl rfl) (pe_lst pa_nil)) (pss_cons (ps_for PassesOwn.never rfl (pi_range1 (by rfl) T.range (pa_cons (pv 2) pa_nil)) (pg_name (i := 4) sc_rows_at.nd rfl (.inl rfl)) (pss_cons (ps_set (i := 5) sc_rows_at.nd rfl (.inl rfl) (pe_ix (ixL (K := K) rfl) (pv 0) (pv 1) (fun _ _ => rfl))) (pss_cons (ps_expr (pe_bm PySem.F.plainAttrs_list PySem.F.slot_list_append PySem.F.type_list_append mt_append (pv 3) (pa_cons (pe_slice sl_list (pv 0) (po_some (pe_op op_add (pv 1) pe_int)) (po_some (pe_op op_add (pe_op op_add (pv 1) pe_int) (pv 5)))) pa_nil))) (pss_one (ps_set (i := 1) sc_rows_at.nd rfl (.inl rfl) (pe_op op_add (pe_op op_add (pv 1) pe_int) (pv 5))))))) (pss_one (ps_ret (pe_tup (pa_cons (pv 3) (pa_cons (pv 1) pa_nil))))))), ?_⟩
    refine q_asgL (xs := []) (el_lst ea_nil (Nat.zero_le _)) fun fd H1 nfd e1 hfd => ?_
    refine q_forR1 (ea_cons (ev_var rfl) ea_nil) (by omega) (fun i σ H2 => ∃ v4 v5 ki ys zs, σ = [some (.ref a), some (nv ki), some (nv m), some (.ref fd), v4, v5] ∧ Ex H H2 ∧ (∃ as, H2 fd = some (.lst (rf as)) ∧ All2 (RowAt H2) as ys) ∧ i ≤ m ∧ PyFlat.rows (m - i) (ns.drop ki) = some (zs, r) ∧ xs = ys ++ zs ∧ ki ≤ ns.length ∧ ys.length = i)
      (fun H2 e2 => ⟨none, none, k, [], xs, rfl, e1.trans e2, ⟨[], e2 _ _ hfd, All2.nil⟩, Nat.zero_le _, by rw [Nat.sub_zero]; exact hrows, rfl, hk, rfl⟩) ?_ ?_
    · rintro i σ H2 hi ⟨v4, v5, ki, ys, zs, rfl, e2, ⟨as, hf, hA⟩, hi', hz, hx, hki, hyl⟩
      have hil : i < m := by omega
      rw [show m - i = (m - (i + 1)) + 1 by omega] at hz
      obtain ⟨n, t, zs', hn, h0, hnt, rfl, hz'⟩ := Up.rows_succ hz
      have hkl : ki < ns.length := by
        rcases Nat.lt_or_ge ki ns.length with z | z
        · exact z
        · rw [List.drop_eq_nil_of_le z] at hn; cases hn
      rw [List.drop_eq_getElem_cons hkl] at hn
      obtain ⟨hn1, hn2⟩ := List.cons.inj hn
      have hget : ns[ki]? = some n := by rw [List.getElem?_eq_getElem hkl, hn1]
      have htl : t.length = ns.length - (ki + 1) := by rw [← hn2, List.length_drop]
      have vn : (n : Int) = ((n.toNat : Nat) : Int) := (Int.toNat_of_nonneg h0).symm
      generalize hnn : n.toNat = N at vn hz' hnt
      subst vn
      have ha2 := ex_l e2 ha
      refine q_asg (v := nv N) (ev_op (ev_var rfl) (ev_var rfl) (rv_ixL ha2 (atI_nat (map_get hget)))) fun H3 e3 => ?_
      have e13 := e2.trans e3
      have ha3 := ex_l e3 ha2
      have hf3 := e3 _ _ hf
      have a1 : ∀ {σ : L2.St} {H4 : Hp}, σ[1]? = some (some (nv ki)) → Ev (tOp (rI0 fun i j => .int (i + j)) (tVar 1) (tC (.int 1))) σ H4 (.int ((ki + 1 : Nat) : Int)) := fun h => ev_is (ev_op (ev_var h) ev_c rv_I0) (by show V.int ((ki : Int) + 1) = _; congr 1)
      have a2 : ∀ {σ : L2.St} {H4 : Hp}, σ[1]? = some (some (nv ki)) → σ[5]? = some (some (nv N)) → Ev (tOp (rI0 fun i j => .int (i + j)) (tOp (rI0 fun i j => .int (i + j)) (tVar 1) (tC (.int 1))) (tVar 5)) σ H4 (.int ((ki + 1 + N : Nat) : Int)) := fun h h' => ev_is (ev_op (a1 h) (ev_var h') rv_I0) (by show V.int (((ki + 1 : Nat) : Int) + (N : Int)) = _; congr 1)
      refine q_appL hf3 (ev_var rfl) (el_sl (ev_var rfl) (eo_some (a1 rfl)) (eo_some (a2 rfl rfl)) ha3) (by rw [List.length_map, hA.1]; omega) fun p H4 np e4 hp => ?_
      rw [cut_mid _ (by rw [List.length_map]; omega), map_mid, hn2] at hp
      have e14 := e13.trans e4
      have nfd0 : H fd = none := fresh_back (Ex.refl _) nfd
      refine s_asg (v := nv (ki + 1 + N)) (a2 rfl rfl) fun H5 e5 => ?_
      have e45 : Ex H (upd H4 fd (.lst (rf as ++ [.ref p]))) := Ex.mut e14 nfd0
      refine ⟨_, _, ki + 1 + N, ys ++ [t.take N], zs', rfl, e45.trans e5, ⟨as ++ [p], ?_, ?_⟩, by omega, ?_, by rw [hx, List.append_assoc]; rfl, by omega, by rw [List.length_append, hyl]; rfl⟩
      · rw [e5 _ _ upd_same]
        simp [rf]
      · refine All2.snoc (hA.mono fun b x hb hr => ?_) ?_
        · have hr' : H2 b = some (.lst (x.map V.int)) := hr
          show H5 b = _
          refine e5 _ _ ?_
          have nb : b ≠ fd := fun z => by
            obtain ⟨ix, hix⟩ := List.getElem?_of_mem hb
            rw [z, hf] at hr'
            have e' := HO.lst.inj (Option.some.inj hr')
            have g1 := rf_get hix
            rw [e'] at g1
            obtain ⟨_, _, e''⟩ := map_get' g1
            cases e''
          rw [upd_ne nb]
          exact (e3.trans e4) _ _ hr'
        · show H5 p = _
          refine e5 _ _ ?_
          rw [upd_ne (fun z => by rw [z, hf3] at np; cases np)]
          exact hp
      · rw [← hn2, List.drop_drop] at hz'
        exact hz'
    · rintro σ H2 ⟨v4, v5, ki, ys, zs, rfl, e2, ⟨as, hf, hA⟩, hi', hz, hx, hki, hyl⟩
      have em : ((m : Int)).toNat = m := Int.toNat_natCast m
      rw [em, Nat.sub_self] at hz
      obtain ⟨z1, z2⟩ := Prod.mk.inj (Option.some.inj (show some (([] : List (List Int)), ns.drop ki) = some (zs, r) from hz))
      subst z1
      rw [List.append_nil] at hx
      subst hx
      refine s_retU (xs := [.ref fd, nv ki]) (eu_tup (ea_cons (ev_var rfl) (ea_cons (ev_var rfl) ea_nil)) (by show 2 ≤ 100000; decide)) fun p H3 np e3 hp => ?_
      exact q p fd ki H3 (e2.trans e3) hp ⟨as, e3 _ _ hf, hA.mono fun b x _ hr => e3 _ _ hr⟩ hki z2
/-! ### answer_to -/
def spAnsTo (c : Ad) : Sp := fun vs H Q _ => ∃ (dk nu rw : Addr) (i : Int) (s : State) (R : List Addr) (ns : List Int) (rws : List (List Int)), vs = [.ref dk, .int i, .ref nu, .ref rw] ∧ DeskAt c H dk s R ∧ Good s ∧ H nu = some (.lst (ns.map V.int)) ∧ RowsAt H rw rws ∧
  PyVbwbai.shape i = some (ns.length, rws.length) ∧ (∀ r ∈ rws, r.length ≤ 5000) ∧
  (∀ p H' R', SB R H H' → DeskAt c H' dk (Vbwbai.step s ((i :: ns) :: rws)).1 R' → (∀ b ∈ R', b ∈ R ∨ H b = none) → H p = none → p ∉ R' → H' p = some (.lst ((Vbwbai.step s ((i :: ns) :: rws)).2.map V.int)) → Q (.ref p) H')
abbrev s_answer_to : Stmt := topS 55
theorem sc_answer_to : FnScope ["desk", "number", "numbers", "rows", "deed", "e"] ["desk", "number", "numbers", "rows"] (defScope s_answer_to) := ⟨rfl, rfl, rfl, by decide +kernel, rfl, by decide +kernel, by decide +kernel⟩
theorem ok_answer_to (T : Txt3 K mg c RF WT pS pD ss) (DA : DeedsAt P w K mg base c RF pD) (D : DefG K mg "answer_to" s_answer_to ["desk", "number", "numbers", "rows"]) : Cal P w K mg base CX0 22 "answer_to" (spAnsTo c) := by
  refine cal0 D sc_answer_to (fun vs H Q E h => ?_) (fun f cdv A outer s H vs Q E hr h => ?_)
  · obtain ⟨dk, nu, rw', i, s, R, ns, rws, rfl, _⟩ := h
    rfl
  · obtain ⟨dk, nu, rw', i, st, R, ns, rws, rfl, hd, gd, hn, hrw, sh, h5, q⟩ := h
    obtain ⟨fs, hD, hfs⟩ := DA.ex
    obtain ⟨fi, fdi, psi, ki, hki, hat, F, hkp, hb⟩ := hfs i _ _ sh
    refine ⟨_, (pss_cons (ps_set (i := 4) sc_answer_to.nd rfl (.inl rfl) (pe_ix (ixT (K := K) rfl) (C8.pe_gc (by rfl) T.DEEDS) (pv 1) (fun _ _ => rfl)))
      (pss_one (ps_try_as (i := 5) (tb := fun W => tRet (tCallLS 4 fi (spDeed c RF i) (WE W) (tCons (tVar 0) (tCons (tVar 2) (tCons (tVar 3) tNil))))) (ts := fun a cls d => tRet (tLst (tCons (tXf a cls d RF "code" (tVar 5)) tNil))) (Wout := fun _ _ _ _ => False) rfl rfl sc_answer_to.nd rfl rfl ⟨by rfl, by decide, .inl T.rf_g⟩ takes0
        (fun W pn xe tk _ => pss_one (ps_ret (pe_callLS F (hr.mono hki) rfl (.inl rfl) hkp hb (fun σ => passAt tk σ) (pa_cons (pv 0) (pa_cons (pv 2) (pa_cons (pv 3) pa_nil))))))
        (fun a oe cls d pn hz hf => pss_one (ps_ret (pe_lst (pa_cons (pe_xf T.rf_x T.rf_no hz hf (pv 5)) pa_nil))))))), ?_⟩
    refine q_asg (v := .ref fi) (ev_op ev_c (ev_var rfl) (rv_ixT hD.sq hat)) fun H1 e1 => ?_
    refine ⟨rfl, _, rfl, _, rfl, _, rfl, dk, nu, rw', st, R, ns, rws, rfl, hd.same e1, gd, e1 _ _ hn, hrw.same e1, sh, h5, fun p H' R' sb hd' hR' np npR hp => ?_, fun z hz d H' e' hd' => ?_⟩
    · exact q p H' R' ((SB.of e1).trans sb) hd' (fun b hb => (hR' b hb).elim .inl fun n => .inr (fresh_back e1 n)) (fresh_back e1 np) npR hp
    · refine ⟨true, T.rf_te, fun _ a _ => ?_, fun z => nomatch z⟩
      refine ⟨_, rfl, rfl, rfl, d, _, _, rfl, hd', lk_here, ?_⟩
      refine ⟨by show 1 ≤ sizeLine; decide, fun p np => ?_⟩
      have e2 := e1.trans e'
      have np0 := fresh_back e2 np
      have e3 : Ex H (upd H' p (.lst [.int z])) := e2.trans (Ex.new np)
      rw [hz] at q
      exact q p _ R (.of e3) (hd.same e3) (fun b hb => .inl hb) np0 (fun y => by
        obtain ⟨o, ho⟩ := hd.known y
        rw [np0] at ho
        cases ho) upd_same
end
end Uw
/-! W31: answers. -/
namespace Uw
open PySem PySem.Spec PyProof.Rows L2 Evl
open Vbwbai (State)
open Up (OkDs Good)

theorem lst_ref {ns : List Int} {as : List Addr} {i : Nat} {a : Addr} (h : as[i]? = some a) (e : ns.map V.int = rf as) : False := by
  have g := rf_get h
  rw [← e] at g
  obtain ⟨_, _, e'⟩ := map_get' g
  cases e'
/-- the desk stands while another list is written -/
theorem DeskAt.keep {c : Ad} {H H' : Hp} {dk fd : Addr} {s : State} {R : List Addr} {xs : List V} (h : DeskAt c H dk s R) (hf : fd ∉ R) (hl : H fd = some (.lst xs)) (e : SB [fd] H H') : DeskAt c H' dk s R := by
  obtain ⟨dx, wk, R0, h1, ⟨dw, g, o, l, f, os, ls, fs, hW, rfl, ol, of, lf, gn⟩, h3, rfl⟩ := h
  have st : ∀ {b : Addr} {u : HO}, H b = some u → u ≠ .lst xs → H' b = some u := fun hb hu => e _ _ (fun z => by
    rw [List.mem_singleton.mp z, hl] at hb
    exact hu (Option.some.inj hb).symm) hb
  have sr : ∀ {b : Addr} {u : HO}, b ∈ dk :: [o, l, f, g] → H b = some u → H' b = some u := fun hr hb => e _ _ (fun z => hf (List.mem_singleton.mp z ▸ hr)) hb
  refine ⟨dx, wk, _, sr (List.mem_cons_self ..) h1, ⟨dw, g, o, l, f, os, ls, fs, ⟨st hW.me (by intro z; cases z), sr ?_ hW.gaps, sr ?_ hW.ops, hW.opA.mono fun b x _ ⟨d, r⟩ => ⟨d, st r (by intro z; cases z)⟩, sr ?_ hW.links, hW.lkA.mono fun b x _ ⟨d, r⟩ => ⟨d, st r (by intro z; cases z)⟩, sr ?_ hW.fixed, hW.fxA.mono fun b x _ r => ?_⟩, rfl, ol, of, lf, gn⟩, h3, rfl⟩
  · exact List.mem_cons_of_mem _ (List.mem_cons_of_mem _ (List.mem_cons_of_mem _ (List.mem_cons_of_mem _ (List.mem_cons_self ..))))
  · exact List.mem_cons_of_mem _ (List.mem_cons_self ..)
  · exact List.mem_cons_of_mem _ (List.mem_cons_of_mem _ (List.mem_cons_self ..))
  · exact List.mem_cons_of_mem _ (List.mem_cons_of_mem _ (List.mem_cons_of_mem _ (List.mem_cons_self ..)))
  · have r' : H b = some (.tup (pairV x)) := r
    exact st r' (by intro z; cases z)
theorem told_cons (x : List Int) (l : List (List Int)) : PyFlat.told (x :: l) = ((x.length : Int) :: x) ++ PyFlat.told l := by
  unfold PyFlat.told
  rw [List.flatMap_cons]
section
variable {P : Program} {w : World} {K : PySem.W.Frag} {mg : Str → Option Value} {base : Heap} {c : Ad} {RF WT pS pD : Addr} {ss : List Addr}
theorem ep_rowsAt {σ : L2.St} {H : Hp} {t0 t1 t2 : TE} {a : Addr} {ns : List Int} {k m : Nat} {xs : List (List Int)} {r : List Int} (h0 : Ev t0 σ H (.ref a)) (h1 : Ev t1 σ H (nv k)) (h2 : Ev t2 σ H (nv m)) (ha : SqL K H a (ns.map V.int)) (hl : ns.length ≤ 10000) (hm : m ≤ 10) (hr : PyFlat.rows m (ns.drop k) = some (xs, r)) (hk : k ≤ ns.length) :
    EvP (tCall (spRowsAt K) [] E0 (tCons t0 (tCons t1 (tCons t2 tNil)))) σ H (fun v H1 => ∃ p q k', v = .ref p ∧ H1 p = some (.tup [.ref q, nv k']) ∧ RowsAt H1 q xs ∧ k' ≤ ns.length ∧ ns.drop k' = r) :=
  ep_call (ea_cons h0 (ea_cons h1 (ea_cons h2 ea_nil))) fun H1 e1 Q q E => ⟨a, ns, k, m, xs, r, rfl, ex_l e1 ha, hl, hm, hr, hk, fun p q' k' H2 e2 hp hq hk' hd => q _ H2 e2 ⟨p, q', k', rfl, hp, hq, hk', hd⟩⟩
/-- answers: a list is read, a new one is given back -/
def spAns (K : PySem.W.Frag) : Sp := fun vs H Q _ => ∃ (a : Addr) (ns : List Int), vs = [.ref a] ∧ SqL K H a (ns.map V.int) ∧ ns.length ≤ 6000 ∧ PyVbwbai.answers_asked ns = true ∧ ∀ H' p, H' p = some (.lst ((PyVbwbai.answers ns).map V.int)) → Q (.ref p) H'
theorem ev_mkDk {σ : L2.St} {H : Hp} {Q : VK} (k : ∀ x R H', Ex H H' → DeskAt c H' x Vbwbai.start R → (∀ b ∈ R, H b = none) → Q (.ref x) H') : tMake c.Dk (spDkI c) [] E0 tNil σ H Q := by
  unfold tMake tNil
  intro x dx nx ndx nxd
  refine ⟨x, dx, rfl, upd_same, fun H' w R sb hx hw hR hn => ⟨rfl, ?_⟩⟩
  have e := make_ex (C := c.Dk) nx ndx sb
  refine k x (x :: R) H' e ⟨dx, w, R, hx, hw, hn, rfl⟩ fun b hb => ?_
  by_cases z : b = x
  · rw [z]; exact nx
  · have := hR b hb z
    exact fresh_back (make_ex0 (C := c.Dk) nx ndx) this
abbrev s_answers : Stmt := topS 57
theorem sc_answers : FnScope ["calls", "desk", "found", "at", "number", "some", "whole", "lists", "rows", "after"] ["calls"] (defScope s_answers) := ⟨rfl, rfl, rfl, by decide +kernel, rfl, by decide +kernel, by decide +kernel⟩
theorem ok_answers {fa : Addr} {fd : FuncData} (T : Txt3 K mg c RF WT pS pD ss) (F : Fun K "answers" "answers" s_answers fa fd) (K_Dk : Mak P w K mg base CX0 3 "Desk" c.Dk (spDkI c)) (C_rows_at : Cal P w K mg base CX0 1 "rows_at" (spRowsAt K)) (C_answer_to : Cal P w K mg base CX0 22 "answer_to" (spAnsTo c)) : FnOk P w K mg base CX0 23 fa fd ["calls"] (spAns K) := by
  refine F.ok sc_answers (fun vs H Q E h => ?_) (fun cdv A outer s H vs Q E hr h => ?_)
  · obtain ⟨a, ns, rfl, _⟩ := h
    rfl
  · obtain ⟨a, ns, rfl, ha, hl, hask, q⟩ := h
    refine ⟨_, (pss_cons (ps_set (i := 1) sc_answers.nd rfl (.inl rfl) (pe_mk0 K_Dk hr (by decide) pass0 (by rfl))) (pss_cons (ps_set (i := 2) sc_answers.nd rfl (.inl rfl) (pe_lst pa_nil)) (pss_cons (ps_set (i := 3) sc_answers.nd rfl (.inl rfl) pe_int) (pss_cons (ps_while PassesOwn.never (pt_cmpR op_lt (pv 3) (pe_callB (lenR (K := K) rfl) (by rfl) T.len (by decide +kernel) (pa_cons (pv 0) pa_nil)) (nomark _)) (pss_cons (ps_set (i := 4) sc_answers.nd rfl (.inl rfl) (pe_ix (ixL (K := K) rfl) (pv 0) (pv 3) (fun _ _ => rfl))) (pss_cons (ps_asg (pe_ix (ixT (K := K) rfl) (C8.pe_gc (by rfl) T.SHAPES) (pv 4) (fun _ _ => rfl)) (pg_t (K := K) rfl rfl (pgs_cons (pg_name (i := 6) sc_answers.nd rfl (.inl rfl)) (pgs_cons (pg_name (i := 7) sc_answers.nd rfl (.inl rfl)) pgs_nil)))) (pss_cons (ps_asg (pe_c C_rows_at hr (by decide) pass0 (by rfl) (pa_cons (pv 0) (pa_cons (pe_op op_add (pe_op op_add (pv 3) pe_int) (pv 6)) (pa_cons (pv 7) pa_nil)))) (pg_t (K := K) rfl rfl (pgs_cons (pg_name (i := 8) sc_answers.nd rfl (.inl rfl)) (pgs_cons (pg_name (i := 9) sc_answers.nd rfl (.inl rfl)) pgs_nil)))) (pss_cons (ps_set (i := 5) sc_answers.nd rfl (.inl rfl) (pe_c C_answer_to hr (by decide) pass0 (by rfl) (pa_cons (pv 1) (pa_cons (pv 4) (pa_cons (pe_slice sl_list (pv 0) (po_some (pe_op op_add (pv 3) pe_int)) (po_some (pe_op op_add (pe_op op_add (pv 3) pe_int) (pv 6)))) (pa_cons (pv 8) pa_nil)))))) (pss_cons (ps_expr (pe_bm PySem.F.plainAttrs_list PySem.F.slot_list_append PySem.F.type_list_append mt_append (pv 2) (pa_cons (pe_callB (lenR (K := K) rfl) (by rfl) T.len (by decide +kernel) (pa_cons (pv 5) pa_nil)) pa_nil))) (pss_cons (ps_expr (pe_bm PySem.F.plainAttrs_list PySem.F.slot_list_extend PySem.F.type_list_extend mt_extend (pv 2) (pa_cons (pv 5) pa_nil))) (pss_one (ps_set (i := 3) sc_answers.nd rfl (.inl rfl) (pv 9)))))))))) (pss_one (ps_ret (pv 2))))))), ?_⟩
    obtain ⟨cs, hcs, hin, hshort⟩ := Up.asked_of hask
    have hans := Up.answers_eq hcs
    refine q_asgK (ev_mkDk fun dk R H1 e1 hdk hR => ?_)
    refine q_asgL (xs := []) (el_lst ea_nil (Nat.zero_le _)) fun fd H2 nfd e2 hfd => ?_
    refine q_asg (v := nv 0) ev_c fun H3 e3 => ?_
    have e03 := (e1.trans e2).trans e3
    have fR : fd ∉ R := fun z => by
      obtain ⟨o, ho⟩ := hdk.known z
      rw [nfd] at ho
      cases ho
    refine q_while (fun m σ H4 => ∃ v4 v5 v6 v7 v8 v9 k s R done f cs', σ = [some (.ref a), some (.ref dk), some (.ref fd), some (nv k), v4, v5, v6, v7, v8, v9] ∧ Ex H H4 ∧ k ≤ ns.length ∧ m = ns.length - k ∧ DeskAt c H4 dk s R ∧ Good s ∧ (∀ b ∈ R, H b = none) ∧ fd ∉ R ∧ H4 fd = some (.lst (done.map V.int)) ∧
        PyFlat.calls PyVbwbai.shape f (ns.drop k) = some cs' ∧ PyInside.calls PyVbwbai.bound cs' = true ∧ PyVbwbai.answers ns = done ++ PyFlat.told (PyFlat.played Vbwbai.step s cs')) ns.length
      ⟨none, none, none, none, none, none, 0, Vbwbai.start, R, [], ns.length, cs, rfl, e03, Nat.zero_le _, rfl, hdk.same (e2.trans e3), good0, hR, fR, e3 _ _ hfd, hcs, hin, by rw [hans]; rfl⟩ ?_
    rintro m σ H4 ⟨v4, v5, v6, v7, v8, v9, k, s, R, done, f, cs', rfl, e4, hk, rfl, hd, gd, hR, fR, hf, hcall, hin', hdone⟩
    have nfd0 : H fd = none := fresh_back e1 nfd
    have ha4 := ex_l e4 ha
    refine ⟨decide ((k : Int) < ((ns.map V.int).length : Int)), et_test (ev_op (ev_var rfl) (ev_lenS (ev_var rfl) ha4) rv_I0), fun hb H5 e5 => ?_, fun hb H5 e5 => ?_⟩
    · have hkl : k < ns.length := by
        have := of_decide_eq_true hb
        rw [List.length_map] at this
        omega
      have e05 := e4.trans e5
      have ha5 := ex_l e5 ha4
      obtain ⟨p, hp⟩ : ∃ p, ns[k]? = some p := ⟨_, List.getElem?_eq_getElem hkl⟩
      have hdk' : ns.drop k = p :: ns.drop (k + 1) := drop_cons hp
      rw [hdk'] at hcall
      obtain ⟨f', n, j, xs, r, cs'', hsh, hnl, hrows, rfl, hcall'⟩ := Up.calls_cons hcall
      have hxl := Up.rows_len _ _ _ _ hrows
      have hnl' : k + 1 + n ≤ ns.length := by
        rw [List.length_drop] at hnl
        omega
      have h2 : (PyInside.call PyVbwbai.bound ((p :: (ns.drop (k + 1)).take n) :: xs) && PyInside.calls PyVbwbai.bound cs'') = true := hin'
      rw [Bool.and_eq_true] at h2
      have h5 := Up.call_rows hsh hxl h2.1
      have hj : j ≤ 10 := by
        rcases Up.shape_in hsh with e | e | e | e | e | e | e | e | e | e | e | e | e | e | e | e <;> subst e <;> cases hsh <;> decide
      obtain ⟨q', hat, hq'⟩ := T.shpI p n j hsh
      -- the word for what follows
      refine ⟨fun σ2 H6 => ∃ m', m' < ns.length - k ∧ ∃ v4 v5 v6 v7 v8 v9 k s R done f cs', σ2 = [some (.ref a), some (.ref dk), some (.ref fd), some (nv k), v4, v5, v6, v7, v8, v9] ∧ Ex H H6 ∧ k ≤ ns.length ∧ m' = ns.length - k ∧ DeskAt c H6 dk s R ∧ Good s ∧ (∀ b ∈ R, H b = none) ∧ fd ∉ R ∧ H6 fd = some (.lst (done.map V.int)) ∧
        PyFlat.calls PyVbwbai.shape f (ns.drop k) = some cs' ∧ PyInside.calls PyVbwbai.bound cs' = true ∧ PyVbwbai.answers ns = done ++ PyFlat.told (PyFlat.played Vbwbai.step s cs'), fun _ _ z => z, ?_⟩
      refine q_asg (v := .int p) (ev_op (ev_var rfl) (ev_var rfl) (rv_ixL ha5 (atI_nat (map_get hp)))) fun H6 e6 => ?_
      refine q_unpP (ep_val (ev_op (ev_c (v := .ref pS)) (ev_var (v := .int p) rfl) (rv_ixT T.shp.sq hat))) fun v H7 e7 ev => ⟨q', nv n, nv j, ev, hq'.sq, ?_⟩
      have e07 := (e05.trans e6).trans e7
      have at1 : ∀ {σ : L2.St} {H4 : Hp}, σ[3]? = some (some (nv k)) → Ev (tOp (rI0 fun i j => .int (i + j)) (tVar 3) (tC (.int 1))) σ H4 (.int ((k + 1 : Nat) : Int)) := fun h => ev_is (ev_op (ev_var h) ev_c rv_I0) (by show V.int ((k : Int) + 1) = _; congr 1)
      have at2 : ∀ {σ : L2.St} {H4 : Hp}, σ[3]? = some (some (nv k)) → σ[6]? = some (some (nv n)) → Ev (tOp (rI0 fun i j => .int (i + j)) (tOp (rI0 fun i j => .int (i + j)) (tVar 3) (tC (.int 1))) (tVar 6)) σ H4 (.int ((k + 1 + n : Nat) : Int)) := fun h h' => ev_is (ev_op (at1 h) (ev_var h') rv_I0) (by show V.int (((k + 1 : Nat) : Int) + (n : Int)) = _; congr 1)
      have hrows' : PyFlat.rows j (ns.drop (k + 1 + n)) = some (xs, r) := by
        rw [← hrows, List.drop_drop]
      refine q_unpP (ep_rowsAt (ev_var rfl) (at2 rfl rfl) (ev_var rfl) (ex_l e07 ha) (by omega) hj hrows' hnl') fun v H8 e8 ⟨pp, rw', k', ev, hpp, hrw, hk', hr'⟩ => ⟨pp, .ref rw', nv k', ev, .of hpp, ?_⟩
      have e08 := e07.trans e8
      have e48 : Ex H4 H8 := ((e5.trans e6).trans e7).trans e8
      have hkk : k < k' := by
        rcases Nat.lt_or_ge k k' with z | z
        · exact z
        · exfalso
          have l1 : r.length = ns.length - k' := by rw [← hr', List.length_drop]
          have l2 := Up.rows_less _ _ _ _ hrows'
          rw [List.length_drop] at l2
          omega
      -- answer_to
      refine q_asgK ?_
      unfold tCall
      refine ⟨_, rfl, _, rfl, (el_sl (ev_var rfl) (eo_some (at1 rfl)) (eo_some (at2 rfl rfl)) (ex_l e08 ha)) H8 (Ex.refl _) _ fun nu H9 nnu e9 hnu => ⟨_, rfl, ?_⟩⟩
      rw [cut_mid _ (by rw [List.length_map]; omega), map_mid] at hnu
      have e49 := e48.trans e9
      have e09 := e4.trans e49
      have hd9 := hd.same e49
      refine ⟨dk, nu, rw', p, s, R, (ns.drop (k + 1)).take n, xs, rfl, hd9, gd, hnu, hrw.same e9, by rw [hsh, List.length_take, Nat.min_eq_left hnl, hxl], h5, fun ap H10 R' sb10 hd10 hR10 nap apR hap => ?_⟩
      have hf9 := e49 _ _ hf
      have hf10 := sb10 _ _ fR hf9
      have e010 : Ex H H10 := SB.same e09 sb10 hR
      have hR0 : ∀ b ∈ R', H b = none := fun b hb => (hR10 b hb).elim (hR b) fun z => fresh_back e09 z
      have fR' : fd ∉ R' := fun z => (hR10 fd z).elim fR fun y => by rw [hf9] at y; cases y
      have fap : ap ≠ fd := fun z => by rw [z, hf9] at nap; cases nap
      generalize hst : Vbwbai.step s ((p :: (ns.drop (k + 1)).take n) :: xs) = stp at hd10 hap
      have hgood : Good stp.1 := by
        rw [← hst]
        exact good_step gd _
      have hplay : PyFlat.told (PyFlat.played Vbwbai.step s (((p :: (ns.drop (k + 1)).take n) :: xs) :: cs'')) = ((stp.2.length : Int) :: stp.2) ++ PyFlat.told (PyFlat.played Vbwbai.step stp.1 cs'') := by
        rw [← hst, ← told_cons]
        rfl
      rw [hplay] at hdone
      have hlen : done.length + (1 + stp.2.length) ≤ 10000000 := by
        have := congrArg List.length hdone
        rw [List.length_append, List.length_append, List.length_cons] at this
        omega
      have sz : ∀ {x : Nat}, x ≤ 10000000 → x < sizeLine := fun h => Nat.lt_of_le_of_lt h (by decide)
      refine q_appS hf10 (ev_var rfl) (ev_lenL (ev_var rfl) hap) (by rw [List.length_map]; exact sz (by omega)) fun H11 e11 => ?_
      have sb11 : SB [fd] H10 (upd H11 fd (.lst (done.map V.int ++ [.int ((stp.2.map V.int).length : Int)]))) := (SB.of e11).trans (SB.upd (List.mem_singleton.mpr rfl))
      have hd11 := hd10.keep fR' hf10 sb11
      have e011 : Ex H (upd H11 fd (.lst (done.map V.int ++ [.int ((stp.2.map V.int).length : Int)]))) := Ex.mut (e010.trans e11) nfd0
      have hap11 : (upd H11 fd (.lst (done.map V.int ++ [.int ((stp.2.map V.int).length : Int)]))) ap = some (.lst (stp.2.map V.int)) := by rw [upd_ne fap]; exact e11 _ _ hap
      have hf11 : (upd H11 fd (.lst (done.map V.int ++ [.int ((stp.2.map V.int).length : Int)]))) fd = some (.lst ((done ++ [(stp.2.length : Int)]).map V.int)) := by
        rw [upd_same, List.map_append, List.length_map]
        rfl
      generalize upd H11 fd (.lst (done.map V.int ++ [.int ((stp.2.map V.int).length : Int)])) = H12 at sb11 hd11 e011 hap11 hf11 ⊢
      refine q_extS hf11 (ev_var rfl) (ev_var rfl) hap11 (by rw [List.length_map, List.length_map, List.length_append]; exact Nat.le_of_lt (sz (by simp only [List.length_cons, List.length_nil]; omega))) fun H13 e13 => ?_
      have sb13 : SB [fd] H12 (upd H13 fd (.lst ((done ++ [(stp.2.length : Int)]).map V.int ++ stp.2.map V.int))) := (SB.of e13).trans (SB.upd (List.mem_singleton.mpr rfl))
      have hd13 := hd11.keep fR' hf11 sb13
      have e013 : Ex H (upd H13 fd (.lst ((done ++ [(stp.2.length : Int)]).map V.int ++ stp.2.map V.int))) := Ex.mut (e011.trans e13) nfd0
      have hf13 : (upd H13 fd (.lst ((done ++ [(stp.2.length : Int)]).map V.int ++ stp.2.map V.int))) fd = some (.lst ((done ++ ((stp.2.length : Int) :: stp.2)).map V.int)) := by
        rw [upd_same, ← List.map_append, List.append_assoc]
        rfl
      generalize upd H13 fd (.lst ((done ++ [(stp.2.length : Int)]).map V.int ++ stp.2.map V.int)) = H14 at hd13 e013 hf13 ⊢
      refine s_asg (v := nv k') (ev_var rfl) fun H15 e15 => ?_
      refine ⟨ns.length - k', by omega, _, _, _, _, _, _, k', stp.1, R', done ++ ((stp.2.length : Int) :: stp.2), f', cs'', rfl, e013.trans e15, hk', rfl, hd13.same e15, hgood, hR0, fR', e15 _ _ hf13, by rw [hr']; exact hcall', h2.2, ?_⟩
      rw [hdone, List.append_assoc]
    · have hkl : ¬ k < ns.length := by
        have := of_decide_eq_false hb
        rw [List.length_map] at this
        omega
      rw [List.drop_eq_nil_of_le (by omega)] at hcall
      have := Up.calls_nil hcall
      subst this
      have hdn : PyVbwbai.answers ns = done := by
        rw [hdone]
        show done ++ [] = done
        rw [List.append_nil]
      refine s_ret (v := .ref fd) (ev_var rfl) fun H6 e6 => q H6 fd ?_
      rw [hdn]
      exact e6 _ _ (e5 _ _ hf)
end
end Uw
/-! W32: where every def stands; all promises together. Printed by gen_end.py. -/
namespace Uw
open PySem PySem.Spec PyProof.Rows L2 Evl
open Vbwbai (State)
open Up (OkDs Good)
/-- an error of the class at S is what its except clause names -/
theorem exm_self {K : PySem.W.Frag} {S : Addr} (h1 : PySem.W.subIn K (.ref S) (.type "BaseException") = some true) (h2 : PySem.W.isClsIn K S = true) (h3 : PySem.W.typeIn K (.ref S) = some (.type "type")) (h4 : PySem.W.subIn K (.ref S) (.ref S) = some true) :
    PySem.W.exmOne K (.ref S) (.ref S) = some true := by
  have e1 : (PySem.W.subIn K (.ref S) (.type "BaseException") == some true) = true := by rw [h1] <;> rfl
  have e2 : ((PySem.W.clsIn K S).isSome && PySem.W.typeIn K (.ref S) == some (.type "type")) = true := by
    have h2' : (PySem.W.clsIn K S).isSome = true := h2
    rw [h2', h3] <;> rfl
  show (if (PySem.W.subIn K (.ref S) (.type "BaseException") == some true) = true then (if ((PySem.W.clsIn K S).isSome && PySem.W.typeIn K (.ref S) == some (.type "type")) = true then PySem.W.subIn K (.ref S) (.ref S) else none) else none) = some true
  rw [if_pos e1, if_pos e2]
  exact h4
/-- how a def's parameters are bound -/
def BindF (x qual : Str) (st : Stmt) (ps : List Str) : Prop := ∀ (kV doc pm : Value) (an : Option Addr) (cdv ct : Value) (us : List Value), us.length = ps.length → bindArgs (PySem.W.fnOf x qual (defArgs st) (defBody st) (defScope st) .none kV doc pm an cdv ct) ⟨us, []⟩ = pure (ps.zip us)
section
variable {K : PySem.W.Frag} {mg : Str → Option Value} {h : Heap} {C f : Addr} {x m qual : Str} {st : Stmt} {ps : List Str} {oc kV dc pm cd ct : Value} {od an : Option Addr} {sl : Array (Option Value)}
theorem mkDefM (a : PySem.W.findIn K (.ref C) m = some (some (.ref f))) (i : PySem.W.isFn K (.ref f) = true) (l : K.lookup f = some ⟨oc, od, .func (PySem.W.fnOf m qual (defArgs st) (defBody st) (defScope st) .none kV dc pm an cd ct), sl⟩)
    (c : PySem.W.codeIn K cd qual = true) (k : PySem.W.keepIn K (.ref f) = true) (b : BindF m qual st ps) : DefM K C m qual st ps := ⟨⟨f, _, ⟨a, i, k⟩, fun_mk l c k, (fun_mk l c k).binds b⟩⟩
theorem mkDefG (X : K.In h) (G : h.Ns mainGlobals mg) (a : PySem.W.nsIn K mainGlobals x = some (some (.ref f))) (l : K.lookup f = some ⟨oc, od, .func (PySem.W.fnOf x x (defArgs st) (defBody st) (defScope st) .none kV dc pm an cd ct), sl⟩)
    (c : PySem.W.codeIn K cd x = true) (k : PySem.W.keepIn K (.ref f) = true) (b : BindF x x st ps) : DefG K mg x st ps := ⟨⟨f, _, PySem.W.mg_of X G a, fun_mk l c k, (fun_mk l c k).binds b⟩⟩
theorem mkDefI (X : K.In h) (G : h.Ns mainGlobals mg) (g : PySem.W.nsIn K mainGlobals x = some (some (.ref C))) (mk : PySem.W.makesIn K C = true) (a : PySem.W.findIn K (.ref C) "__init__" = some (some (.ref f))) (i : PySem.W.isFn K (.ref f) = true) (kc : PySem.W.keepIn K (.ref C) = true)
    (l : K.lookup f = some ⟨oc, od, .func (PySem.W.fnOf "__init__" qual (defArgs st) (defBody st) (defScope st) .none kV dc pm an cd ct), sl⟩) (c : PySem.W.codeIn K cd qual = true) (k : PySem.W.keepIn K (.ref f) = true) (b : BindF "__init__" qual st ps) : DefI K mg x C qual st ps :=
  ⟨⟨f, _, ⟨mk, a, i, kc⟩, PySem.W.mg_of X G g, fun_mk l c k, (fun_mk l c k).binds b⟩⟩
theorem noA {m : Str} (a : PySem.W.findIn K (.ref C) m = some none) : NoAttr K C m := a
theorem mkInt (X : K.In h) (G : h.Ns mainGlobals mg) {i : Int} {t : Tok} (a : PySem.W.nsIn K mainGlobals x = some (some (.int i t))) : ∃ u, mg x = some u ∧ RelV (.int i) u := ⟨_, PySem.W.mg_of X G a, _, rfl⟩
theorem mkRef (X : K.In h) (G : h.Ns mainGlobals mg) {p : Addr} (a : PySem.W.nsIn K mainGlobals x = some (some (.ref p))) : ∃ u, mg x = some u ∧ RelV (.ref p) u := ⟨_, PySem.W.mg_of X G a, rfl⟩
theorem vals_refs : ∀ as : List Addr, Vals (rf as) (as.map Value.ref)
  | [] => .nil
  | _ :: r => .cons rfl (vals_refs r)
theorem mkTup {a : Addr} {as : List Addr} {n : Nat} {od : Option Addr} {sl : Array (Option Value)} (l : K.lookup a = some ⟨.type "tuple", od, .seq (as.map Value.ref).toArray n, sl⟩) (hz : as.length ≤ 100) : TupK K a (rf as) := by
  refine ⟨_, _, n, l, rfl, rfl, ?_, by simpa using vals_refs as⟩
  rw [List.size_toArray, List.length_map]
  exact Nat.le_trans hz (by decide)
theorem mkPair {a : Addr} {i j : Nat} {s t : Tok} {n : Nat} {od : Option Addr} {sl : Array (Option Value)} (l : K.lookup a = some ⟨.type "tuple", od, .seq [.int (i : Int) s, .int (j : Int) t].toArray n, sl⟩) : TupK K a [nv i, nv j] :=
  ⟨_, _, n, l, rfl, rfl, by show 2 ≤ sizeLine; decide, .cons ⟨s, rfl⟩ (.cons ⟨t, rfl⟩ .nil)⟩
end

theorem bd_Arr_put : BindF "put" "Arrows.put" s_Arr_put ["self", "first", "second", "length"] := fun _ _ _ _ _ _ us hl => match us, hl with | [_, _, _, _], _ => rfl
theorem bd_Arr_end_by : BindF "end_by" "Arrows.end_by" s_Arr_end_by ["self", "minute"] := fun _ _ _ _ _ _ us hl => match us, hl with | [_, _], _ => rfl
theorem bd_Arr_sum_of : BindF "sum_of" "Arrows.sum_of" s_Arr_sum_of ["self", "walk"] := fun _ _ _ _ _ _ us hl => match us, hl with | [_, _], _ => rfl
theorem bd_Arr_longer : BindF "longer" "Arrows.longer" s_Arr_longer ["self", "ahead"] := fun _ _ _ _ _ _ us hl => match us, hl with | [_, _], _ => rfl
theorem bd_Arr_sums_to : BindF "sums_to" "Arrows.sums_to" s_Arr_sums_to ["self", "goal", "most"] := fun _ _ _ _ _ _ us hl => match us, hl with | [_, _, _], _ => rfl
theorem bd_Arr_first_walk : BindF "first_walk" "Arrows.first_walk" s_Arr_first_walk ["self", "sums", "begin", "many"] := fun _ _ _ _ _ _ us hl => match us, hl with | [_, _, _, _], _ => rfl
theorem bd_Arr_ring : BindF "ring" "Arrows.ring" s_Arr_ring ["self"] := fun _ _ _ _ _ _ us hl => match us, hl with | [_], _ => rfl
theorem bd_Arr_greatest_to : BindF "greatest_to" "Arrows.greatest_to" s_Arr_greatest_to ["self", "goal"] := fun _ _ _ _ _ _ us hl => match us, hl with | [_, _], _ => rfl
theorem bd_Arr_grown : BindF "grown" "Arrows.grown" s_Arr_grown ["self", "sums"] := fun _ _ _ _ _ _ us hl => match us, hl with | [_, _], _ => rfl
theorem bd_Arr_has_ring : BindF "has_ring" "Arrows.has_ring" s_Arr_has_ring ["self"] := fun _ _ _ _ _ _ us hl => match us, hl with | [_], _ => rfl
theorem bd_Arr_earliest : BindF "earliest" "Arrows.earliest" s_Arr_earliest ["self"] := fun _ _ _ _ _ _ us hl => match us, hl with | [_], _ => rfl
theorem bd_Arr_latest : BindF "latest" "Arrows.latest" s_Arr_latest ["self"] := fun _ _ _ _ _ _ us hl => match us, hl with | [_], _ => rfl
theorem bd_Arr_chain : BindF "chain" "Arrows.chain" s_Arr_chain ["self"] := fun _ _ _ _ _ _ us hl => match us, hl with | [_], _ => rfl
theorem bd_Wk_operation : BindF "operation" "Works.operation" s_Wk_operation ["self", "number"] := fun _ _ _ _ _ _ us hl => match us, hl with | [_, _], _ => rfl
theorem bd_Wk_numbers : BindF "numbers" "Works.numbers" s_Wk_numbers ["self"] := fun _ _ _ _ _ _ us hl => match us, hl with | [_], _ => rfl
theorem bd_Wk_distance : BindF "distance" "Works.distance" s_Wk_distance ["self", "first"] := fun _ _ _ _ _ _ us hl => match us, hl with | [_, _], _ => rfl
theorem bd_Wk_is_one_unit : BindF "is_one_unit" "Works.is_one_unit" s_Wk_is_one_unit ["self", "first", "second"] := fun _ _ _ _ _ _ us hl => match us, hl with | [_, _, _], _ => rfl
theorem bd_Wk_pairs : BindF "pairs" "Works.pairs" s_Wk_pairs ["self"] := fun _ _ _ _ _ _ us hl => match us, hl with | [_], _ => rfl
theorem bd_Wk_is_fixed : BindF "is_fixed" "Works.is_fixed" s_Wk_is_fixed ["self", "first", "second"] := fun _ _ _ _ _ _ us hl => match us, hl with | [_, _, _], _ => rfl
theorem bd_Wk_open_pairs : BindF "open_pairs" "Works.open_pairs" s_Wk_open_pairs ["self"] := fun _ _ _ _ _ _ us hl => match us, hl with | [_], _ => rfl
theorem bd_Wk_end_of : BindF "end_of" "Works.end_of" s_Wk_end_of ["self", "begins"] := fun _ _ _ _ _ _ us hl => match us, hl with | [_, _], _ => rfl
theorem bd_Rd_take : BindF "take" "Reader.take" s_Rd_take ["self", "least", "most"] := fun _ _ _ _ _ _ us hl => match us, hl with | [_, _, _], _ => rfl
theorem bd_Rd_is_leaf_right : BindF "is_leaf_right" "Reader.is_leaf_right" s_Rd_is_leaf_right ["self", "walk", "orders"] := fun _ _ _ _ _ _ us hl => match us, hl with | [_, _, _], _ => rfl
theorem bd_Rd_read : BindF "read" "Reader.read" s_Rd_read ["self", "orders", "deep"] := fun _ _ _ _ _ _ us hl => match us, hl with | [_, _, _], _ => rfl
theorem bd_Rd_shows : BindF "shows" "Reader.shows" s_Rd_shows ["self"] := fun _ _ _ _ _ _ us hl => match us, hl with | [_], _ => rfl
theorem bd_Arr___init__ : BindF "__init__" "Arrows.__init__" s_Arr___init__ ["self", "works", "orders"] := fun _ _ _ _ _ _ us hl => match us, hl with | [_, _, _], _ => rfl
theorem bd_Op___init__ : BindF "__init__" "Operation.__init__" s_Op___init__ ["self", "unit", "minutes", "release", "due"] := fun _ _ _ _ _ _ us hl => match us, hl with | [_, _, _, _, _], _ => rfl
theorem bd_Lk___init__ : BindF "__init__" "Link.__init__" s_Lk___init__ ["self", "first", "second", "least", "most"] := fun _ _ _ _ _ _ us hl => match us, hl with | [_, _, _, _, _], _ => rfl
theorem bd_Wk___init__ : BindF "__init__" "Works.__init__" s_Wk___init__ ["self", "gaps"] := fun _ _ _ _ _ _ us hl => match us, hl with | [_, _], _ => rfl
theorem bd_Pl___init__ : BindF "__init__" "Plan.__init__" s_Pl___init__ ["self", "end", "begins", "orders"] := fun _ _ _ _ _ _ us hl => match us, hl with | [_, _, _, _], _ => rfl
theorem bd_Rd___init__ : BindF "__init__" "Reader.__init__" s_Rd___init__ ["self", "works", "minute", "numbers"] := fun _ _ _ _ _ _ us hl => match us, hl with | [_, _, _, _], _ => rfl
theorem bd_Dk___init__ : BindF "__init__" "Desk.__init__" s_Dk___init__ ["self"] := fun _ _ _ _ _ _ us hl => match us, hl with | [_], _ => rfl
theorem bd_all_ways : BindF "all_ways" "all_ways" s_all_ways ["pairs"] := fun _ _ _ _ _ _ us hl => match us, hl with | [_], _ => rfl
theorem bd_plan_told : BindF "plan_told" "plan_told" s_plan_told ["works"] := fun _ _ _ _ _ _ us hl => match us, hl with | [_], _ => rfl
theorem bd_leaf : BindF "leaf" "leaf" s_leaf ["walk"] := fun _ _ _ _ _ _ us hl => match us, hl with | [_], _ => rfl
theorem bd_tree_told : BindF "tree_told" "tree_told" s_tree_told ["works", "least", "orders", "pairs"] := fun _ _ _ _ _ _ us hl => match us, hl with | [_, _, _, _], _ => rfl
theorem bd_require : BindF "require" "require" s_require ["is_so", "code"] := fun _ _ _ _ _ _ us hl => match us, hl with | [_, _], _ => rfl
theorem bd_require_operations : BindF "require_operations" "require_operations" s_require_operations ["works", "numbers"] := fun _ _ _ _ _ _ us hl => match us, hl with | [_, _], _ => rfl
theorem bd_require_few_open : BindF "require_few_open" "require_few_open" s_require_few_open ["works"] := fun _ _ _ _ _ _ us hl => match us, hl with | [_], _ => rfl
theorem bd_told_pairs : BindF "told_pairs" "told_pairs" s_told_pairs ["pairs"] := fun _ _ _ _ _ _ us hl => match us, hl with | [_], _ => rfl
theorem bd_listed : BindF "listed" "listed" s_listed ["numbers"] := fun _ _ _ _ _ _ us hl => match us, hl with | [_], _ => rfl
theorem bd_begin : BindF "begin" "begin" s_begin ["desk", "numbers", "rows"] := fun _ _ _ _ _ _ us hl => match us, hl with | [_, _, _], _ => rfl
theorem bd_put_operation : BindF "put_operation" "put_operation" s_put_operation ["desk", "numbers", "rows"] := fun _ _ _ _ _ _ us hl => match us, hl with | [_, _, _], _ => rfl
theorem bd_put_link : BindF "put_link" "put_link" s_put_link ["desk", "numbers", "rows"] := fun _ _ _ _ _ _ us hl => match us, hl with | [_, _, _], _ => rfl
theorem bd_fix : BindF "fix" "fix" s_fix ["desk", "numbers", "rows"] := fun _ _ _ _ _ _ us hl => match us, hl with | [_, _, _], _ => rfl
theorem bd_unfix : BindF "unfix" "unfix" s_unfix ["desk", "numbers", "rows"] := fun _ _ _ _ _ _ us hl => match us, hl with | [_, _, _], _ => rfl
theorem bd_earliest : BindF "earliest" "earliest" s_earliest ["desk", "numbers", "rows"] := fun _ _ _ _ _ _ us hl => match us, hl with | [_, _, _], _ => rfl
theorem bd_latest : BindF "latest" "latest" s_latest ["desk", "numbers", "rows"] := fun _ _ _ _ _ _ us hl => match us, hl with | [_, _, _], _ => rfl
theorem bd_fixed_arrows : BindF "fixed_arrows" "fixed_arrows" s_fixed_arrows ["works"] := fun _ _ _ _ _ _ us hl => match us, hl with | [_], _ => rfl
theorem bd_chain : BindF "chain" "chain" s_chain ["desk", "numbers", "rows"] := fun _ _ _ _ _ _ us hl => match us, hl with | [_, _, _], _ => rfl
theorem bd_best : BindF "best" "best" s_best ["desk", "numbers", "rows"] := fun _ _ _ _ _ _ us hl => match us, hl with | [_, _, _], _ => rfl
theorem bd_tree : BindF "tree" "tree" s_tree ["desk", "numbers", "rows"] := fun _ _ _ _ _ _ us hl => match us, hl with | [_, _, _], _ => rfl
theorem bd_shows : BindF "shows" "shows" s_shows ["desk", "numbers", "rows"] := fun _ _ _ _ _ _ us hl => match us, hl with | [_, _, _], _ => rfl
theorem bd_is_link_kept : BindF "is_link_kept" "is_link_kept" s_is_link_kept ["link", "begins"] := fun _ _ _ _ _ _ us hl => match us, hl with | [_, _], _ => rfl
theorem bd_is_order_kept : BindF "is_order_kept" "is_order_kept" s_is_order_kept ["works", "begins", "first", "second"] := fun _ _ _ _ _ _ us hl => match us, hl with | [_, _, _, _], _ => rfl
theorem bd_first_fault : BindF "first_fault" "first_fault" s_first_fault ["works", "begins"] := fun _ _ _ _ _ _ us hl => match us, hl with | [_, _], _ => rfl
theorem bd_clashes_of : BindF "clashes_of" "clashes_of" s_clashes_of ["works", "begins", "pairs"] := fun _ _ _ _ _ _ us hl => match us, hl with | [_, _, _], _ => rfl
theorem bd_check : BindF "check" "check" s_check ["desk", "numbers", "rows"] := fun _ _ _ _ _ _ us hl => match us, hl with | [_, _, _], _ => rfl
theorem bd_all_open : BindF "all_open" "all_open" s_all_open ["desk", "numbers", "rows"] := fun _ _ _ _ _ _ us hl => match us, hl with | [_, _, _], _ => rfl
theorem bd_clash : BindF "clash" "clash" s_clash ["desk", "numbers", "rows"] := fun _ _ _ _ _ _ us hl => match us, hl with | [_, _, _], _ => rfl
theorem bd_slack : BindF "slack" "slack" s_slack ["desk", "numbers", "rows"] := fun _ _ _ _ _ _ us hl => match us, hl with | [_, _, _], _ => rfl
theorem bd_told : BindF "told" "told" s_told ["desk", "numbers", "rows"] := fun _ _ _ _ _ _ us hl => match us, hl with | [_, _, _], _ => rfl
theorem bd_answer_to : BindF "answer_to" "answer_to" s_answer_to ["desk", "number", "numbers", "rows"] := fun _ _ _ _ _ _ us hl => match us, hl with | [_, _, _, _], _ => rfl
theorem bd_rows_at : BindF "rows_at" "rows_at" s_rows_at ["calls", "at", "many"] := fun _ _ _ _ _ _ us hl => match us, hl with | [_, _, _], _ => rfl
theorem bd_answers : BindF "answers" "answers" s_answers ["calls"] := fun _ _ _ _ _ _ us hl => match us, hl with | [_], _ => rfl
theorem bd_Rf___init__ : BindF "__init__" "Refused.__init__" s_Rf___init__ ["self", "code"] := fun _ _ _ _ _ _ us hl => match us, hl with | [_, _], _ => rfl
/-- where all defs stand -/
structure Defs (K : PySem.W.Frag) (mg : Str → Option Value) (c : Ad) : Prop where
  Arr_put : DefM K c.Arr "put" "Arrows.put" s_Arr_put ["self", "first", "second", "length"]
  Arr_end_by : DefM K c.Arr "end_by" "Arrows.end_by" s_Arr_end_by ["self", "minute"]
  Arr_sum_of : DefM K c.Arr "sum_of" "Arrows.sum_of" s_Arr_sum_of ["self", "walk"]
  Arr_longer : DefM K c.Arr "longer" "Arrows.longer" s_Arr_longer ["self", "ahead"]
  Arr_sums_to : DefM K c.Arr "sums_to" "Arrows.sums_to" s_Arr_sums_to ["self", "goal", "most"]
  Arr_first_walk : DefM K c.Arr "first_walk" "Arrows.first_walk" s_Arr_first_walk ["self", "sums", "begin", "many"]
  Arr_ring : DefM K c.Arr "ring" "Arrows.ring" s_Arr_ring ["self"]
  Arr_greatest_to : DefM K c.Arr "greatest_to" "Arrows.greatest_to" s_Arr_greatest_to ["self", "goal"]
  Arr_grown : DefM K c.Arr "grown" "Arrows.grown" s_Arr_grown ["self", "sums"]
  Arr_has_ring : DefM K c.Arr "has_ring" "Arrows.has_ring" s_Arr_has_ring ["self"]
  Arr_earliest : DefM K c.Arr "earliest" "Arrows.earliest" s_Arr_earliest ["self"]
  Arr_latest : DefM K c.Arr "latest" "Arrows.latest" s_Arr_latest ["self"]
  Arr_chain : DefM K c.Arr "chain" "Arrows.chain" s_Arr_chain ["self"]
  Wk_operation : DefM K c.Wk "operation" "Works.operation" s_Wk_operation ["self", "number"]
  Wk_numbers : DefM K c.Wk "numbers" "Works.numbers" s_Wk_numbers ["self"]
  Wk_distance : DefM K c.Wk "distance" "Works.distance" s_Wk_distance ["self", "first"]
  Wk_is_one_unit : DefM K c.Wk "is_one_unit" "Works.is_one_unit" s_Wk_is_one_unit ["self", "first", "second"]
  Wk_pairs : DefM K c.Wk "pairs" "Works.pairs" s_Wk_pairs ["self"]
  Wk_is_fixed : DefM K c.Wk "is_fixed" "Works.is_fixed" s_Wk_is_fixed ["self", "first", "second"]
  Wk_open_pairs : DefM K c.Wk "open_pairs" "Works.open_pairs" s_Wk_open_pairs ["self"]
  Wk_end_of : DefM K c.Wk "end_of" "Works.end_of" s_Wk_end_of ["self", "begins"]
  Rd_take : DefM K c.Rd "take" "Reader.take" s_Rd_take ["self", "least", "most"]
  Rd_is_leaf_right : DefM K c.Rd "is_leaf_right" "Reader.is_leaf_right" s_Rd_is_leaf_right ["self", "walk", "orders"]
  Rd_read : DefM K c.Rd "read" "Reader.read" s_Rd_read ["self", "orders", "deep"]
  Rd_shows : DefM K c.Rd "shows" "Reader.shows" s_Rd_shows ["self"]
  Arr___init__ : DefI K mg "Arrows" c.Arr "Arrows.__init__" s_Arr___init__ ["self", "works", "orders"]
  Op___init__ : DefI K mg "Operation" c.Op "Operation.__init__" s_Op___init__ ["self", "unit", "minutes", "release", "due"]
  Lk___init__ : DefI K mg "Link" c.Lk "Link.__init__" s_Lk___init__ ["self", "first", "second", "least", "most"]
  Wk___init__ : DefI K mg "Works" c.Wk "Works.__init__" s_Wk___init__ ["self", "gaps"]
  Pl___init__ : DefI K mg "Plan" c.Pl "Plan.__init__" s_Pl___init__ ["self", "end", "begins", "orders"]
  Rd___init__ : DefI K mg "Reader" c.Rd "Reader.__init__" s_Rd___init__ ["self", "works", "minute", "numbers"]
  Dk___init__ : DefI K mg "Desk" c.Dk "Desk.__init__" s_Dk___init__ ["self"]
  all_ways : DefG K mg "all_ways" s_all_ways ["pairs"]
  plan_told : DefG K mg "plan_told" s_plan_told ["works"]
  leaf : DefG K mg "leaf" s_leaf ["walk"]
  tree_told : DefG K mg "tree_told" s_tree_told ["works", "least", "orders", "pairs"]
  require : DefG K mg "require" s_require ["is_so", "code"]
  require_operations : DefG K mg "require_operations" s_require_operations ["works", "numbers"]
  require_few_open : DefG K mg "require_few_open" s_require_few_open ["works"]
  told_pairs : DefG K mg "told_pairs" s_told_pairs ["pairs"]
  listed : DefG K mg "listed" s_listed ["numbers"]
  begin : DefG K mg "begin" s_begin ["desk", "numbers", "rows"]
  put_operation : DefG K mg "put_operation" s_put_operation ["desk", "numbers", "rows"]
  put_link : DefG K mg "put_link" s_put_link ["desk", "numbers", "rows"]
  fix : DefG K mg "fix" s_fix ["desk", "numbers", "rows"]
  unfix : DefG K mg "unfix" s_unfix ["desk", "numbers", "rows"]
  earliest : DefG K mg "earliest" s_earliest ["desk", "numbers", "rows"]
  latest : DefG K mg "latest" s_latest ["desk", "numbers", "rows"]
  fixed_arrows : DefG K mg "fixed_arrows" s_fixed_arrows ["works"]
  chain : DefG K mg "chain" s_chain ["desk", "numbers", "rows"]
  best : DefG K mg "best" s_best ["desk", "numbers", "rows"]
  tree : DefG K mg "tree" s_tree ["desk", "numbers", "rows"]
  shows : DefG K mg "shows" s_shows ["desk", "numbers", "rows"]
  is_link_kept : DefG K mg "is_link_kept" s_is_link_kept ["link", "begins"]
  is_order_kept : DefG K mg "is_order_kept" s_is_order_kept ["works", "begins", "first", "second"]
  first_fault : DefG K mg "first_fault" s_first_fault ["works", "begins"]
  clashes_of : DefG K mg "clashes_of" s_clashes_of ["works", "begins", "pairs"]
  check : DefG K mg "check" s_check ["desk", "numbers", "rows"]
  all_open : DefG K mg "all_open" s_all_open ["desk", "numbers", "rows"]
  clash : DefG K mg "clash" s_clash ["desk", "numbers", "rows"]
  slack : DefG K mg "slack" s_slack ["desk", "numbers", "rows"]
  told : DefG K mg "told" s_told ["desk", "numbers", "rows"]
  answer_to : DefG K mg "answer_to" s_answer_to ["desk", "number", "numbers", "rows"]
  rows_at : DefG K mg "rows_at" s_rows_at ["calls", "at", "many"]
theorem shpI_of {K : PySem.W.Frag} {q0 q1 q2 q3 q4 q5 q6 q7 q8 q9 q10 q11 q12 q13 q14 q15 : Addr} (h0 : TupK K q0 [nv 0, nv 1]) (h1 : TupK K q1 [nv 4, nv 0]) (h2 : TupK K q2 [nv 4, nv 0]) (h3 : TupK K q3 [nv 2, nv 0]) (h4 : TupK K q4 [nv 2, nv 0]) (h5 : TupK K q5 [nv 0, nv 0]) (h6 : TupK K q6 [nv 1, nv 0]) (h7 : TupK K q7 [nv 0, nv 0]) (h8 : TupK K q8 [nv 0, nv 0]) (h9 : TupK K q9 [nv 0, nv 0]) (h10 : TupK K q10 [nv 1, nv 1]) (h11 : TupK K q11 [nv 0, nv 1]) (h12 : TupK K q12 [nv 0, nv 0]) (h13 : TupK K q13 [nv 0, nv 0]) (h14 : TupK K q14 [nv 0, nv 0]) (h15 : TupK K q15 [nv 0, nv 0]) : ∀ i n k, PyVbwbai.shape i = some (n, k) → ∃ q, atI (rf [q0, q1, q2, q3, q4, q5, q6, q7, q8, q9, q10, q11, q12, q13, q14, q15]) i = some (.ref q) ∧ TupK K q [nv n, nv k] := fun i n k h => by
  rcases Up.shape_in h with e | e | e | e | e | e | e | e | e | e | e | e | e | e | e | e
  · subst e; obtain ⟨z1, z2⟩ := Prod.mk.inj (Option.some.inj (show some (0, 1) = some (n, k) from h)); subst z1 z2; exact ⟨q0, rfl, h0⟩
  · subst e; obtain ⟨z1, z2⟩ := Prod.mk.inj (Option.some.inj (show some (4, 0) = some (n, k) from h)); subst z1 z2; exact ⟨q1, rfl, h1⟩
  · subst e; obtain ⟨z1, z2⟩ := Prod.mk.inj (Option.some.inj (show some (4, 0) = some (n, k) from h)); subst z1 z2; exact ⟨q2, rfl, h2⟩
  · subst e; obtain ⟨z1, z2⟩ := Prod.mk.inj (Option.some.inj (show some (2, 0) = some (n, k) from h)); subst z1 z2; exact ⟨q3, rfl, h3⟩
  · subst e; obtain ⟨z1, z2⟩ := Prod.mk.inj (Option.some.inj (show some (2, 0) = some (n, k) from h)); subst z1 z2; exact ⟨q4, rfl, h4⟩
  · subst e; obtain ⟨z1, z2⟩ := Prod.mk.inj (Option.some.inj (show some (0, 0) = some (n, k) from h)); subst z1 z2; exact ⟨q5, rfl, h5⟩
  · subst e; obtain ⟨z1, z2⟩ := Prod.mk.inj (Option.some.inj (show some (1, 0) = some (n, k) from h)); subst z1 z2; exact ⟨q6, rfl, h6⟩
  · subst e; obtain ⟨z1, z2⟩ := Prod.mk.inj (Option.some.inj (show some (0, 0) = some (n, k) from h)); subst z1 z2; exact ⟨q7, rfl, h7⟩
  · subst e; obtain ⟨z1, z2⟩ := Prod.mk.inj (Option.some.inj (show some (0, 0) = some (n, k) from h)); subst z1 z2; exact ⟨q8, rfl, h8⟩
  · subst e; obtain ⟨z1, z2⟩ := Prod.mk.inj (Option.some.inj (show some (0, 0) = some (n, k) from h)); subst z1 z2; exact ⟨q9, rfl, h9⟩
  · subst e; obtain ⟨z1, z2⟩ := Prod.mk.inj (Option.some.inj (show some (1, 1) = some (n, k) from h)); subst z1 z2; exact ⟨q10, rfl, h10⟩
  · subst e; obtain ⟨z1, z2⟩ := Prod.mk.inj (Option.some.inj (show some (0, 1) = some (n, k) from h)); subst z1 z2; exact ⟨q11, rfl, h11⟩
  · subst e; obtain ⟨z1, z2⟩ := Prod.mk.inj (Option.some.inj (show some (0, 0) = some (n, k) from h)); subst z1 z2; exact ⟨q12, rfl, h12⟩
  · subst e; obtain ⟨z1, z2⟩ := Prod.mk.inj (Option.some.inj (show some (0, 0) = some (n, k) from h)); subst z1 z2; exact ⟨q13, rfl, h13⟩
  · subst e; obtain ⟨z1, z2⟩ := Prod.mk.inj (Option.some.inj (show some (0, 0) = some (n, k) from h)); subst z1 z2; exact ⟨q14, rfl, h14⟩
  · subst e; obtain ⟨z1, z2⟩ := Prod.mk.inj (Option.some.inj (show some (0, 0) = some (n, k) from h)); subst z1 z2; exact ⟨q15, rfl, h15⟩
section
variable {P : Program} {w : World} {K : PySem.W.Frag} {mg : Str → Option Value} {base : Heap} {c : Ad} {RF WT pS pD : Addr} {ss : List Addr}
theorem deed_held {x : Str} {i : Int} {f : Addr} {k : Nat} {fs : List Addr} (hk : k ≤ 21) (g : mg x = some (.ref f)) (hat : atI (rf fs) i = some (.ref f)) (C : Cal P w K mg base (L2.CX P w) k x (spDeed c RF i)) : ∃ (f : Addr) (fd : FuncData) (ps : List Str) (k : Nat), k ≤ 21 ∧ atI (rf fs) i = some (.ref f) ∧ FnOk P w K mg base (L2.CX P w) k f fd ps (spDeed c RF i) ∧ PySem.W.keepIn K (.ref f) = true ∧ Binds K fd ps [] := by
  obtain ⟨f', fd, ps, F, hm, hkp, b⟩ := C.ex
  rw [g] at hm
  cases hm
  exact ⟨f, fd, ps, k, hk, hat, F, hkp, b⟩
theorem deeds_all {f0 f1 f2 f3 f4 f5 f6 f7 f8 f9 f10 f11 f12 f13 f14 f15 : Addr} (T3 : Txt3 K mg c RF WT pS pD ss) (TR : RefOk P w K mg base RF) (D : Defs K mg c) (hT : TupK K pD (rf [f0, f1, f2, f3, f4, f5, f6, f7, f8, f9, f10, f11, f12, f13, f14, f15])) (g0 : mg "begin" = some (.ref f0)) (g1 : mg "put_operation" = some (.ref f1)) (g2 : mg "put_link" = some (.ref f2)) (g3 : mg "fix" = some (.ref f3)) (g4 : mg "unfix" = some (.ref f4)) (g5 : mg "earliest" = some (.ref f5)) (g6 : mg "latest" = some (.ref f6)) (g7 : mg "chain" = some (.ref f7)) (g8 : mg "best" = some (.ref f8)) (g9 : mg "tree" = some (.ref f9)) (g10 : mg "shows" = some (.ref f10)) (g11 : mg "check" = some (.ref f11)) (g12 : mg "all_open" = some (.ref f12)) (g13 : mg "clash" = some (.ref f13)) (g14 : mg "slack" = some (.ref f14)) (g15 : mg "told" = some (.ref f15)) : DeedsAt P w K mg base c RF pD ∧ Mak P w K mg base CX0 3 "Desk" c.Dk (spDkI c) ∧ Cal P w K mg base CX0 1 "rows_at" (spRowsAt K) := by
  have T2 := T3.toTxt2
  have T1 := T2.toTxt
  have D_Arr_put := D.Arr_put
  have D_Arr_end_by := D.Arr_end_by
  have D_Arr_sum_of := D.Arr_sum_of
  have D_Arr_longer := D.Arr_longer
  have D_Arr_sums_to := D.Arr_sums_to
  have D_Arr_first_walk := D.Arr_first_walk
  have D_Arr_ring := D.Arr_ring
  have D_Arr_greatest_to := D.Arr_greatest_to
  have D_Arr_grown := D.Arr_grown
  have D_Arr_has_ring := D.Arr_has_ring
  have D_Arr_earliest := D.Arr_earliest
  have D_Arr_latest := D.Arr_latest
  have D_Arr_chain := D.Arr_chain
  have D_Wk_operation := D.Wk_operation
  have D_Wk_numbers := D.Wk_numbers
  have D_Wk_distance := D.Wk_distance
  have D_Wk_is_one_unit := D.Wk_is_one_unit
  have D_Wk_pairs := D.Wk_pairs
  have D_Wk_is_fixed := D.Wk_is_fixed
  have D_Wk_open_pairs := D.Wk_open_pairs
  have D_Wk_end_of := D.Wk_end_of
  have D_Rd_take := D.Rd_take
  have D_Rd_is_leaf_right := D.Rd_is_leaf_right
  have D_Rd_read := D.Rd_read
  have D_Rd_shows := D.Rd_shows
  have D_Arr___init__ := D.Arr___init__
  have D_Op___init__ := D.Op___init__
  have D_Lk___init__ := D.Lk___init__
  have D_Wk___init__ := D.Wk___init__
  have D_Pl___init__ := D.Pl___init__
  have D_Rd___init__ := D.Rd___init__
  have D_Dk___init__ := D.Dk___init__
  have D_all_ways := D.all_ways
  have D_plan_told := D.plan_told
  have D_leaf := D.leaf
  have D_tree_told := D.tree_told
  have D_require := D.require
  have D_require_operations := D.require_operations
  have D_require_few_open := D.require_few_open
  have D_told_pairs := D.told_pairs
  have D_listed := D.listed
  have D_begin := D.begin
  have D_put_operation := D.put_operation
  have D_put_link := D.put_link
  have D_fix := D.fix
  have D_unfix := D.unfix
  have D_earliest := D.earliest
  have D_latest := D.latest
  have D_fixed_arrows := D.fixed_arrows
  have D_chain := D.chain
  have D_best := D.best
  have D_tree := D.tree
  have D_shows := D.shows
  have D_is_link_kept := D.is_link_kept
  have D_is_order_kept := D.is_order_kept
  have D_first_fault := D.first_fault
  have D_clashes_of := D.clashes_of
  have D_check := D.check
  have D_all_open := D.all_open
  have D_clash := D.clash
  have D_slack := D.slack
  have D_told := D.told
  have D_answer_to := D.answer_to
  have D_rows_at := D.rows_at
  have M_Arr_put : Met P w K mg base CX0 1 c.Arr "put" (spPut c) := by apply ok_put <;> assumption
  have M_Wk_operation : Met P w K mg base CX0 1 c.Wk "operation" (spOperation c) := by apply ok_operation <;> assumption
  have M_Wk_numbers : Met P w K mg base CX0 1 c.Wk "numbers" (spNumbers c) := by apply ok_numbers <;> assumption
  have M_Wk_distance : Met P w K mg base CX0 2 c.Wk "distance" (spDistance c) := by apply ok_distance <;> assumption
  have M_Wk_is_one_unit : Met P w K mg base CX0 2 c.Wk "is_one_unit" (spOneUnit c) := by apply ok_is_one_unit <;> assumption
  have M_Wk_pairs : Met P w K mg base CX0 3 c.Wk "pairs" (spPairs c) := by apply ok_pairs <;> assumption
  have M_Wk_is_fixed : Met P w K mg base CX0 1 c.Wk "is_fixed" (spIsFixed c) := by apply ok_is_fixed <;> assumption
  have M_Wk_open_pairs : Met P w K mg base CX0 4 c.Wk "open_pairs" (spOpenPairs c) := by apply ok_open_pairs <;> assumption
  have M_Wk_end_of : Met P w K mg base CX0 1 c.Wk "end_of" (spEndOf (K := K) c) := by apply ok_end_of <;> assumption
  have M_Arr_longer : Met P w K mg base CX0 1 c.Arr "longer" (spLonger K c) := by apply ok_longer <;> assumption
  have M_Arr_grown : Met P w K mg base CX0 1 c.Arr "grown" (spGrown K c) := by apply ok_grown <;> assumption
  have M_Arr_sum_of : Met P w K mg base CX0 1 c.Arr "sum_of" (spSumOf K c) := by apply ok_sum_of <;> assumption
  have M_Arr_sums_to : Met P w K mg base CX0 2 c.Arr "sums_to" (spSumsTo K c) := by apply ok_sums_to <;> assumption
  have M_Arr_greatest_to : Met P w K mg base CX0 3 c.Arr "greatest_to" (spGreatest K c) := by apply ok_greatest_to <;> assumption
  have M_Arr_first_walk : Met P w K mg base CX0 1 c.Arr "first_walk" (spFirst c) := by apply ok_first_walk <;> assumption
  have M_Arr_has_ring : Met P w K mg base CX0 2 c.Arr "has_ring" (spHasRing c) := by apply ok_has_ring <;> assumption
  have M_Arr_earliest : Met P w K mg base CX0 2 c.Arr "earliest" (spEarliest c) := by apply ok_arr_earliest <;> assumption
  have M_Arr_latest : Met P w K mg base CX0 4 c.Arr "latest" (spLatest c) := by apply ok_arr_latest <;> assumption
  have M_Arr_ring : Met P w K mg base CX0 3 c.Arr "ring" (spRing c) := by apply ok_ring <;> assumption
  have M_Arr_chain : Met P w K mg base CX0 3 c.Arr "chain" (spChain c) := by apply ok_arr_chain <;> assumption
  have M_Arr_end_by : Met P w K mg base CX0 2 c.Arr "end_by" (spEndBy c) := by apply ok_end_by <;> assumption
  have K_Op : Mak P w K mg base CX0 1 "Operation" c.Op (spOpI c) := by apply ok_op_init <;> assumption
  have K_Lk : Mak P w K mg base CX0 1 "Link" c.Lk (spLkI c) := by apply ok_lk_init <;> assumption
  have K_Pl : Mak P w K mg base CX0 1 "Plan" c.Pl (spPlI c) := by apply ok_pl_init <;> assumption
  have K_Rd : Mak P w K mg base CX0 1 "Reader" c.Rd (spRdI c) := by apply ok_rd_init <;> assumption
  have K_Wk : Mak P w K mg base CX0 1 "Works" c.Wk (spWkI c) := by apply ok_wk_init <;> assumption
  have K_Dk : Mak P w K mg base CX0 3 "Desk" c.Dk (spDkI c) := by apply ok_dk_init <;> assumption
  have K_Arr : Mak P w K mg base CX0 3 "Arrows" c.Arr (spArrI c) := by apply ok_arr_init <;> assumption
  have C_all_ways : Cal P w K mg base CX0 1 "all_ways" (spAllWays) := by apply ok_all_ways <;> assumption
  have C_leaf : Cal P w K mg base CX0 1 "leaf" (spLeaf) := by apply ok_leaf <;> assumption
  have C_plan_told : Cal P w K mg base CX0 5 "plan_told" (spPlan c) := by apply ok_plan_told <;> assumption
  have tt : ∀ n, Cal P w K mg base CX0 (4 + n) "tree_told" (spTree c n) := fun n => by
    induction n with
    | zero => exact ok_tree0 D_tree_told
    | succ n ih => apply ok_tree1 <;> assumption
  have C_tree_told : Cal P w K mg base CX0 13 "tree_told" (spTree c 9) := tt 9
  have C_require : Cal P w K mg base (L2.CX P w) 3 "require" (spReq RF) := by apply ok_require <;> assumption
  have C_require_operations : Cal P w K mg base (L2.CX P w) 4 "require_operations" (spReqOps K c RF) := by apply ok_require_operations <;> assumption
  have C_require_few_open : Cal P w K mg base (L2.CX P w) 5 "require_few_open" (spReqFew c RF) := by apply ok_require_few_open <;> assumption
  have C_told_pairs : Cal P w K mg base CX0 1 "told_pairs" (spTold c) := by apply ok_told_pairs <;> assumption
  have C_listed : Cal P w K mg base CX0 1 "listed" (spListed K) := by apply ok_listed <;> assumption
  have C_fixed_arrows : Cal P w K mg base (L2.CX P w) 5 "fixed_arrows" (spFixedArr c RF) := by apply ok_fixed_arrows <;> assumption
  have C_is_link_kept : Cal P w K mg base CX0 1 "is_link_kept" (spLink K c) := by apply ok_is_link_kept <;> assumption
  have C_is_order_kept : Cal P w K mg base CX0 3 "is_order_kept" (spOrd K c) := by apply ok_is_order_kept <;> assumption
  have C_clashes_of : Cal P w K mg base CX0 4 "clashes_of" (spClash K c) := by apply ok_clashes_of <;> assumption
  have C_first_fault : Cal P w K mg base CX0 5 "first_fault" (spFault K c) := by apply ok_first_fault <;> assumption
  have M_Rd_take : Met P w K mg base (L2N.CX P w) 1 c.Rd "take" (spTake c WT) := by apply ok_take <;> assumption
  have M_Rd_is_leaf_right : Met P w K mg base CX0 5 c.Rd "is_leaf_right" (spLeafR c) := by apply ok_is_leaf_right <;> assumption
  have rr : ∀ n, Met P w K mg base (L2N.CX P w) (6 + n) c.Rd "read" (spRead c WT n) := fun n => by
    induction n with
    | zero => apply ok_read0 <;> assumption
    | succ n ih => apply ok_read1 <;> assumption
  have M_Rd_read : Met P w K mg base (L2N.CX P w) 19 c.Rd "read" (spRead c WT 13) := rr 13
  have M_Rd_shows : Met P w K mg base (L2N.CX P w) 20 c.Rd "shows" (spShows c WT) := by apply ok_rd_shows <;> assumption
  have C_begin : Cal P w K mg base (L2.CX P w) 4 "begin" (spDeed c RF 0) := by apply ok_d0 <;> assumption
  have C_put_operation : Cal P w K mg base (L2.CX P w) 4 "put_operation" (spDeed c RF 1) := by apply ok_d1 <;> assumption
  have C_put_link : Cal P w K mg base (L2.CX P w) 5 "put_link" (spDeed c RF 2) := by apply ok_d2 <;> assumption
  have C_fix : Cal P w K mg base (L2.CX P w) 5 "fix" (spDeed c RF 3) := by apply ok_d3 <;> assumption
  have C_unfix : Cal P w K mg base (L2.CX P w) 5 "unfix" (spDeed c RF 4) := by apply ok_d4 <;> assumption
  have C_earliest : Cal P w K mg base (L2.CX P w) 5 "earliest" (spDeed c RF 5) := by apply ok_d5 <;> assumption
  have C_latest : Cal P w K mg base (L2.CX P w) 5 "latest" (spDeed c RF 6) := by apply ok_d6 <;> assumption
  have C_chain : Cal P w K mg base (L2.CX P w) 6 "chain" (spDeed c RF 7) := by apply ok_d7 <;> assumption
  have C_best : Cal P w K mg base (L2.CX P w) 6 "best" (spDeed c RF 8) := by apply ok_d8 <;> assumption
  have C_tree : Cal P w K mg base (L2.CX P w) 14 "tree" (spDeed c RF 9) := by apply ok_d9 <;> assumption
  have C_shows : Cal P w K mg base (L2.CX P w) 21 "shows" (spDeed c RF 10) := by apply ok_d10 <;> assumption
  have C_check : Cal P w K mg base (L2.CX P w) 6 "check" (spDeed c RF 11) := by apply ok_d11 <;> assumption
  have C_all_open : Cal P w K mg base (L2.CX P w) 5 "all_open" (spDeed c RF 12) := by apply ok_d12 <;> assumption
  have C_clash : Cal P w K mg base (L2.CX P w) 6 "clash" (spDeed c RF 13) := by apply ok_d13 <;> assumption
  have C_slack : Cal P w K mg base (L2.CX P w) 6 "slack" (spDeed c RF 14) := by apply ok_d14 <;> assumption
  have C_told : Cal P w K mg base (L2.CX P w) 5 "told" (spDeed c RF 15) := by apply ok_d15 <;> assumption
  have C_rows_at : Cal P w K mg base CX0 1 "rows_at" (spRowsAt K) := by apply ok_rows_at <;> assumption
  refine ⟨⟨[f0, f1, f2, f3, f4, f5, f6, f7, f8, f9, f10, f11, f12, f13, f14, f15], hT, fun i n k h => ?_⟩, K_Dk, C_rows_at⟩
  rcases Up.shape_in h with e | e | e | e | e | e | e | e | e | e | e | e | e | e | e | e
  · subst e; exact deed_held (by decide) g0 rfl C_begin
  · subst e; exact deed_held (by decide) g1 rfl C_put_operation
  · subst e; exact deed_held (by decide) g2 rfl C_put_link
  · subst e; exact deed_held (by decide) g3 rfl C_fix
  · subst e; exact deed_held (by decide) g4 rfl C_unfix
  · subst e; exact deed_held (by decide) g5 rfl C_earliest
  · subst e; exact deed_held (by decide) g6 rfl C_latest
  · subst e; exact deed_held (by decide) g7 rfl C_chain
  · subst e; exact deed_held (by decide) g8 rfl C_best
  · subst e; exact deed_held (by decide) g9 rfl C_tree
  · subst e; exact deed_held (by decide) g10 rfl C_shows
  · subst e; exact deed_held (by decide) g11 rfl C_check
  · subst e; exact deed_held (by decide) g12 rfl C_all_open
  · subst e; exact deed_held (by decide) g13 rfl C_clash
  · subst e; exact deed_held (by decide) g14 rfl C_slack
  · subst e; exact deed_held (by decide) g15 rfl C_told
theorem all_ok {f0 f1 f2 f3 f4 f5 f6 f7 f8 f9 f10 f11 f12 f13 f14 f15 fa : Addr} {fd : FuncData} (T3 : Txt3 K mg c RF WT pS pD ss) (TR : RefOk P w K mg base RF) (D : Defs K mg c) (F : Fun K "answers" "answers" s_answers fa fd) (hT : TupK K pD (rf [f0, f1, f2, f3, f4, f5, f6, f7, f8, f9, f10, f11, f12, f13, f14, f15])) (g0 : mg "begin" = some (.ref f0)) (g1 : mg "put_operation" = some (.ref f1)) (g2 : mg "put_link" = some (.ref f2)) (g3 : mg "fix" = some (.ref f3)) (g4 : mg "unfix" = some (.ref f4)) (g5 : mg "earliest" = some (.ref f5)) (g6 : mg "latest" = some (.ref f6)) (g7 : mg "chain" = some (.ref f7)) (g8 : mg "best" = some (.ref f8)) (g9 : mg "tree" = some (.ref f9)) (g10 : mg "shows" = some (.ref f10)) (g11 : mg "check" = some (.ref f11)) (g12 : mg "all_open" = some (.ref f12)) (g13 : mg "clash" = some (.ref f13)) (g14 : mg "slack" = some (.ref f14)) (g15 : mg "told" = some (.ref f15)) : FnOk P w K mg base CX0 23 fa fd ["calls"] (spAns K) := by
  obtain ⟨DA, K_Dk, C_rows_at⟩ := deeds_all T3 TR D hT g0 g1 g2 g3 g4 g5 g6 g7 g8 g9 g10 g11 g12 g13 g14 g15
  have D_answer_to := D.answer_to
  have C_answer_to : Cal P w K mg base CX0 22 "answer_to" (spAnsTo c) := by apply ok_answer_to <;> assumption
  apply ok_answers <;> assumption
end
theorem all_mk {P : Program} {w : World} {K : PySem.W.Frag} {h : Heap} {mg : Str → Option Value} {fa fb fI RF WT pS pD cArr cOp cLk cWk cPl cRd cDk f0 f1 f2 f3 f4 f5 f6 f7 f8 f9 f10 f11 f12 f13 f14 f15 q0 q1 q2 q3 q4 q5 q6 q7 q8 q9 q10 q11 q12 q13 q14 q15 : Addr} (X : K.In h) (G : h.Ns mainGlobals mg) (hfa : mg "answers" = some (.ref fa))
    {oc1 kV1 dc1 pm1 cd1 ct1 : Value} {od1 an1 : Option Addr} {sl1 : Array (Option Value)}
    {oc2 kV2 dc2 pm2 cd2 ct2 : Value} {od2 an2 : Option Addr} {sl2 : Array (Option Value)}
    {nm q : Str} {N : Addr} {bs : List Value} {sn : List Str} {sub : List Value} {ab : Bool} {col : Option Bool} {dd : Option Addr} {m0 m1 m2 m3 m5 : Option Value} {nD : Nat} {odD : Option Addr} {slD : Array (Option Value)}
    (aD : PySem.W.nsIn K mainGlobals "DEEDS" = some (some (.ref pD))) (aRF : PySem.W.nsIn K mainGlobals "Refused" = some (some (.ref RF)))
    (y0 : PySem.W.nsIn K mainGlobals "Arrows" = some (some (.ref cArr))) (y1 : PySem.W.nsIn K mainGlobals "Operation" = some (some (.ref cOp))) (y2 : PySem.W.nsIn K mainGlobals "Link" = some (some (.ref cLk))) (y3 : PySem.W.nsIn K mainGlobals "Works" = some (some (.ref cWk))) (y4 : PySem.W.nsIn K mainGlobals "Plan" = some (some (.ref cPl))) (y5 : PySem.W.nsIn K mainGlobals "Reader" = some (some (.ref cRd))) (y6 : PySem.W.nsIn K mainGlobals "Desk" = some (some (.ref cDk))) (y7 : PySem.W.nsIn K mainGlobals "WrongTree" = some (some (.ref WT))) (y8 : PySem.W.nsIn K mainGlobals "SHAPES" = some (some (.ref pS)))
    {odS : Option Addr} {nS : Nat} {slS : Array (Option Value)} (lS : K.lookup pS = some ⟨.type "tuple", odS, .seq ([q0, q1, q2, q3, q4, q5, q6, q7, q8, q9, q10, q11, q12, q13, q14, q15].map Value.ref).toArray nS, slS⟩)
    (n0 : PySem.W.nsIn K mainGlobals "begin" = some (some (.ref f0))) (n1 : PySem.W.nsIn K mainGlobals "put_operation" = some (some (.ref f1))) (n2 : PySem.W.nsIn K mainGlobals "put_link" = some (some (.ref f2))) (n3 : PySem.W.nsIn K mainGlobals "fix" = some (some (.ref f3))) (n4 : PySem.W.nsIn K mainGlobals "unfix" = some (some (.ref f4))) (n5 : PySem.W.nsIn K mainGlobals "earliest" = some (some (.ref f5))) (n6 : PySem.W.nsIn K mainGlobals "latest" = some (some (.ref f6))) (n7 : PySem.W.nsIn K mainGlobals "chain" = some (some (.ref f7))) (n8 : PySem.W.nsIn K mainGlobals "best" = some (some (.ref f8))) (n9 : PySem.W.nsIn K mainGlobals "tree" = some (some (.ref f9))) (n10 : PySem.W.nsIn K mainGlobals "shows" = some (some (.ref f10))) (n11 : PySem.W.nsIn K mainGlobals "check" = some (some (.ref f11))) (n12 : PySem.W.nsIn K mainGlobals "all_open" = some (some (.ref f12))) (n13 : PySem.W.nsIn K mainGlobals "clash" = some (some (.ref f13))) (n14 : PySem.W.nsIn K mainGlobals "slack" = some (some (.ref f14))) (n15 : PySem.W.nsIn K mainGlobals "told" = some (some (.ref f15)))
    (lD : K.lookup pD = some ⟨.type "tuple", odD, .seq ([f0, f1, f2, f3, f4, f5, f6, f7, f8, f9, f10, f11, f12, f13, f14, f15].map Value.ref).toArray nD, slD⟩)
    (T3 : Txt3 K mg ⟨cArr, cOp, cLk, cWk, cPl, cRd, cDk⟩ RF WT pS pD [q0, q1, q2, q3, q4, q5, q6, q7, q8, q9, q10, q11, q12, q13, q14, q15]) (D : Defs K mg ⟨cArr, cOp, cLk, cWk, cPl, cRd, cDk⟩)
    (aA : PySem.W.nsIn K mainGlobals "answers" = some (some (.ref fb))) (l1 : K.lookup fb = some ⟨oc1, od1, .func (PySem.W.fnOf "answers" "answers" (defArgs s_answers) (defBody s_answers) (defScope s_answers) .none kV1 dc1 pm1 an1 cd1 ct1), sl1⟩) (c1 : PySem.W.codeIn K cd1 "answers" = true) (k1 : PySem.W.keepIn K (.ref fb) = true)
    (xL : K.lookup RF = some (excClassObj nm q RF N bs [.type "ValueError", .type "Exception", .type "BaseException", .type "object"] true sn sub ab col dd m0 m1 m2 m3 m5 "ValueError.__new__"))
    (sa : PySem.W.findIn K (.ref RF) "__setattr__" = some (some (.builtin "object.__setattr__"))) (eC : PySem.W.subIn K (.ref RF) (.type "BaseException") = some true) (tC : PySem.W.typeIn K (.ref RF) = some (.type "type")) (kC : PySem.W.keepIn K (.ref RF) = true)
    (a2 : PySem.W.findIn K (.ref RF) "__init__" = some (some (.ref fI))) (t2 : PySem.W.typeIn K (.ref fI) = some (.type "function")) (l2 : K.lookup fI = some ⟨oc2, od2, .func (PySem.W.fnOf "__init__" "Refused.__init__" (defArgs s_Rf___init__) (defBody s_Rf___init__) (defScope s_Rf___init__) .none kV2 dc2 pm2 an2 cd2 ct2), sl2⟩) (c2 : PySem.W.codeIn K cd2 "Refused.__init__" = true) (k2 : PySem.W.keepIn K (.ref fI) = true) :
    ∃ fd : FuncData, (∀ (s : Shared) (us : List Value), us.length = (["calls"] : List Str).length → BindsTo s fd ⟨us, []⟩ ((["calls"] : List Str).zip us)) ∧ ∀ base : Heap, K.In base → base.Ns mainGlobals mg → FnOk P w K mg base CX0 23 fa fd ["calls"] (spAns K) := by
  have e := hfa.symm.trans (PySem.W.mg_of X G aA)
  cases e
  have F1 := fun_mk (st := s_answers) l1 c1 k1
  have F2 := fun_mk (st := s_Rf___init__) l2 c2 k2
  have o : OexC K RF := ⟨⟨nm, q, N, bs, _, sn, sub, ab, col, dd, m0, m1, m2, m3, m5, xL, by decide +kernel⟩, sa, eC, tC, kC⟩
  refine ⟨_, fun s us hu => match us, hu with | [_], _ => .of_eq rfl, fun base _ _ => all_ok T3 (ok_refused F2 (F2.binds bd_Rf___init__) o T3.rf_no a2 t2 (PySem.W.mg_of X G aRF)) D F1 (mkTup lD (by show 16 ≤ 100; decide)) (PySem.W.mg_of X G n0) (PySem.W.mg_of X G n1) (PySem.W.mg_of X G n2) (PySem.W.mg_of X G n3) (PySem.W.mg_of X G n4) (PySem.W.mg_of X G n5) (PySem.W.mg_of X G n6) (PySem.W.mg_of X G n7) (PySem.W.mg_of X G n8) (PySem.W.mg_of X G n9) (PySem.W.mg_of X G n10) (PySem.W.mg_of X G n11) (PySem.W.mg_of X G n12) (PySem.W.mg_of X G n13) (PySem.W.mg_of X G n14) (PySem.W.mg_of X G n15)⟩
end Uw
open PySem PySem.W PyProof.Rows
set_option maxRecDepth 100000 in
set_option maxHeartbeats 8000000 in
theorem PySem.Challenge.cw_unitplans_s01_answers_holds : PySem.Challenge.rw_unitplans_s01_answers.Holds := by
  w_on; k_headS; (case hw => exact ⟨[.list [.int 5]], by decide +kernel, by decide +kernel⟩)
  k_fillS
  refine L2.walk_specK (r := PySem.Challenge.rw_unitplans_s01_answers) (k := 23) (CX := L2.CX0) (ps := ["calls"]) (sp := Uw.spAns) (by decide +kernel) rfl rfl ⟨rfl, by decide, by decide⟩ (fun w h Y => PySem.W.kIn_of Y) ?F ?S (fun _ _ _ _ z => z)
  case F =>
    intro w mg fa h Y KX G hmg
    refine' Uw.all_mk KX G hmg ?aD ?aRF ?y0 ?y1 ?y2 ?y3 ?y4 ?y5 ?y6 ?y7 ?y8 ?lS ?n0 ?n1 ?n2 ?n3 ?n4 ?n5 ?n6 ?n7 ?n8 ?n9 ?n10 ?n11 ?n12 ?n13 ?n14 ?n15 ?lD ?T3 ?D ?aA ?l1 ?c1 ?k1 ?xL ?sa ?eC ?tC ?kC ?a2 ?t2 ?l2 ?c2 ?k2
    (case aD => k_is); (case aRF => k_is); (case y0 => k_is); (case y1 => k_is); (case y2 => k_is); (case y3 => k_is); (case y4 => k_is); (case y5 => k_is); (case y6 => k_is); (case y7 => k_is); (case y8 => k_is); (case lS => k_is)
    (case n0 => k_is); (case n1 => k_is); (case n2 => k_is); (case n3 => k_is); (case n4 => k_is); (case n5 => k_is); (case n6 => k_is); (case n7 => k_is); (case n8 => k_is); (case n9 => k_is); (case n10 => k_is); (case n11 => k_is); (case n12 => k_is); (case n13 => k_is); (case n14 => k_is); (case n15 => k_is)
    (case lD => k_is)
    (case aA => k_is); (case l1 => k_is); (case c1 => k_is); (case k1 => k_is); (case xL => k_is); (case sa => k_is); (case eC => k_is); (case tC => k_is); (case kC => k_is); (case a2 => k_is); (case t2 => k_is); (case l2 => k_is); (case c2 => k_is); (case k2 => k_is)
    case T3 =>
      refine' { toTxt2 := { toTxt := { arr := ⟨?arr_pg, ?arr_hd, ?arr_po, ?arr_sa⟩, op := ⟨?op_pg, ?op_hd, ?op_po, ?op_sa⟩, lk := ⟨?lk_pg, ?lk_hd, ?lk_po, ?lk_sa⟩, wk := ⟨?wk_pg, ?wk_hd, ?wk_po, ?wk_sa⟩, pl := ⟨?pl_pg, ?pl_hd, ?pl_po, ?pl_sa⟩, rd := ⟨?rd_pg, ?rd_hd, ?rd_po, ?rd_sa⟩, dk := ⟨?dk_pg, ?dk_hd, ?dk_po, ?dk_sa⟩, arr_works := Uw.noA ?arr_works, arr_many := Uw.noA ?arr_many, arr_rows := Uw.noA ?arr_rows, op_unit := Uw.noA ?op_unit, op_minutes := Uw.noA ?op_minutes, op_release := Uw.noA ?op_release, op_due := Uw.noA ?op_due, lk_first := Uw.noA ?lk_first, lk_second := Uw.noA ?lk_second, lk_least := Uw.noA ?lk_least, lk_most := Uw.noA ?lk_most, wk_gaps := Uw.noA ?wk_gaps, wk_operations := Uw.noA ?wk_operations, wk_links := Uw.noA ?wk_links, wk_fixed := Uw.noA ?wk_fixed, pl_end := Uw.noA ?pl_end, pl_begins := Uw.noA ?pl_begins, pl_orders := Uw.noA ?pl_orders, rd_works := Uw.noA ?rd_works, rd_minute := Uw.noA ?rd_minute, rd_given := Uw.noA ?rd_given, rd_at := Uw.noA ?rd_at, dk_works := Uw.noA ?dk_works, len := PySem.W.mg_none_of KX G ?b_len, range := PySem.W.mg_none_of KX G ?b_range, max := PySem.W.mg_none_of KX G ?b_max, all := PySem.W.mg_none_of KX G ?b_all, list := PySem.W.mg_none_of KX G ?b_list, zip := PySem.W.mg_none_of KX G ?b_zip, enumerate := PySem.W.mg_none_of KX G ?b_enumerate, int := PySem.W.mg_none_of KX G ?b_int }, MOST_DEEP := Uw.mkInt KX G ?c_MOST_DEEP, MOST_NODES := Uw.mkInt KX G ?c_MOST_NODES, MOST_GAPS := Uw.mkInt KX G ?c_MOST_GAPS, MOST_GAP := Uw.mkInt KX G ?c_MOST_GAP, MOST_MINUTES := Uw.mkInt KX G ?c_MOST_MINUTES, MOST_TIME := Uw.mkInt KX G ?c_MOST_TIME, MOST_END := Uw.mkInt KX G ?c_MOST_END, MOST_OPERATIONS := Uw.mkInt KX G ?c_MOST_OPERATIONS, MOST_LINKS := Uw.mkInt KX G ?c_MOST_LINKS, MOST_OPEN := Uw.mkInt KX G ?c_MOST_OPEN, rf_no := ?rf_no, rf_x := ⟨?rf_ga, ?rf_gg, ?rf_ex, ?rf_hd⟩, rf_te := Uw.exm_self ?rf_1 ?rf_2 ?rf_3 ?rf_4, rf_g := PySem.W.mg_of KX G ?rf_g, wt_x := ?wt_x, wt_g := PySem.W.mg_of KX G ?wt_g, wt_k := ?wt_k, wt_s := ?wt_s, wt_t := ?wt_t, wt_te := Uw.exm_self ?wt_1 ?wt_2 ?wt_3 ?wt_4 }, SHAPES := Uw.mkRef KX G ?g_SHAPES, DEEDS := Uw.mkRef KX G ?g_DEEDS, shp := Uw.mkTup ?l_SHAPES (Nat.le_of_ble_eq_true rfl), shpI := Uw.shpI_of (Uw.mkPair ?p0) (Uw.mkPair ?p1) (Uw.mkPair ?p2) (Uw.mkPair ?p3) (Uw.mkPair ?p4) (Uw.mkPair ?p5) (Uw.mkPair ?p6) (Uw.mkPair ?p7) (Uw.mkPair ?p8) (Uw.mkPair ?p9) (Uw.mkPair ?p10) (Uw.mkPair ?p11) (Uw.mkPair ?p12) (Uw.mkPair ?p13) (Uw.mkPair ?p14) (Uw.mkPair ?p15) }
      (case wt_g => k_is); (case g_SHAPES => k_is); (case l_SHAPES => k_is)
      (case p0 => k_is); (case p1 => k_is); (case p2 => k_is); (case p3 => k_is); (case p4 => k_is); (case p5 => k_is); (case p6 => k_is); (case p7 => k_is); (case p8 => k_is); (case p9 => k_is); (case p10 => k_is); (case p11 => k_is); (case p12 => k_is); (case p13 => k_is); (case p14 => k_is); (case p15 => k_is)
      (case arr_pg => k_is); (case arr_hd => k_is); (case arr_po => k_is); (case arr_sa => k_is); (case arr_works => k_is); (case arr_many => k_is); (case arr_rows => k_is)
      (case op_pg => k_is); (case op_hd => k_is); (case op_po => k_is); (case op_sa => k_is); (case op_unit => k_is); (case op_minutes => k_is); (case op_release => k_is); (case op_due => k_is)
      (case lk_pg => k_is); (case lk_hd => k_is); (case lk_po => k_is); (case lk_sa => k_is); (case lk_first => k_is); (case lk_second => k_is); (case lk_least => k_is); (case lk_most => k_is)
      (case wk_pg => k_is); (case wk_hd => k_is); (case wk_po => k_is); (case wk_sa => k_is); (case wk_gaps => k_is); (case wk_operations => k_is); (case wk_links => k_is); (case wk_fixed => k_is)
      (case pl_pg => k_is); (case pl_hd => k_is); (case pl_po => k_is); (case pl_sa => k_is); (case pl_end => k_is); (case pl_begins => k_is); (case pl_orders => k_is)
      (case rd_pg => k_is); (case rd_hd => k_is); (case rd_po => k_is); (case rd_sa => k_is); (case rd_works => k_is); (case rd_minute => k_is); (case rd_given => k_is); (case rd_at => k_is)
      (case dk_pg => k_is); (case dk_hd => k_is); (case dk_po => k_is); (case dk_sa => k_is); (case dk_works => k_is)
      (case b_len => k_is); (case b_range => k_is); (case b_max => k_is); (case b_all => k_is); (case b_list => k_is); (case b_zip => k_is); (case b_enumerate => k_is); (case b_int => k_is)
      (case c_MOST_DEEP => k_is); (case c_MOST_NODES => k_is); (case c_MOST_GAPS => k_is); (case c_MOST_GAP => k_is); (case c_MOST_MINUTES => k_is); (case c_MOST_TIME => k_is); (case c_MOST_END => k_is); (case c_MOST_OPERATIONS => k_is); (case c_MOST_LINKS => k_is); (case c_MOST_OPEN => k_is)
      (case rf_no => k_is); (case rf_ga => k_is); (case rf_gg => k_is); (case rf_ex => k_is); (case rf_hd => k_is); (case rf_1 => k_is); (case rf_2 => k_is); (case rf_3 => k_is); (case rf_g => k_is); (case wt_k => k_is); (case wt_s => k_is); (case wt_t => k_is); (case wt_1 => k_is); (case wt_2 => k_is); (case wt_3 => k_is); (case g_DEEDS => k_is)
      (case rf_4 => first | rfl | k_is); (case wt_4 => first | rfl | k_is); (case wt_x => k_exc)
    case D =>
      refine' { Arr_put := ?Arr_put, Arr_end_by := ?Arr_end_by, Arr_sum_of := ?Arr_sum_of, Arr_longer := ?Arr_longer, Arr_sums_to := ?Arr_sums_to, Arr_first_walk := ?Arr_first_walk, Arr_ring := ?Arr_ring, Arr_greatest_to := ?Arr_greatest_to, Arr_grown := ?Arr_grown, Arr_has_ring := ?Arr_has_ring, Arr_earliest := ?Arr_earliest, Arr_latest := ?Arr_latest, Arr_chain := ?Arr_chain, Wk_operation := ?Wk_operation, Wk_numbers := ?Wk_numbers, Wk_distance := ?Wk_distance, Wk_is_one_unit := ?Wk_is_one_unit, Wk_pairs := ?Wk_pairs, Wk_is_fixed := ?Wk_is_fixed, Wk_open_pairs := ?Wk_open_pairs, Wk_end_of := ?Wk_end_of, Rd_take := ?Rd_take, Rd_is_leaf_right := ?Rd_is_leaf_right, Rd_read := ?Rd_read, Rd_shows := ?Rd_shows, Arr___init__ := ?Arr___init__, Op___init__ := ?Op___init__, Lk___init__ := ?Lk___init__, Wk___init__ := ?Wk___init__, Pl___init__ := ?Pl___init__, Rd___init__ := ?Rd___init__, Dk___init__ := ?Dk___init__, all_ways := ?all_ways, plan_told := ?plan_told, leaf := ?leaf, tree_told := ?tree_told, require := ?require, require_operations := ?require_operations, require_few_open := ?require_few_open, told_pairs := ?told_pairs, listed := ?listed, begin := ?begin, put_operation := ?put_operation, put_link := ?put_link, fix := ?fix, unfix := ?unfix, earliest := ?earliest, latest := ?latest, fixed_arrows := ?fixed_arrows, chain := ?chain, best := ?best, tree := ?tree, shows := ?shows, is_link_kept := ?is_link_kept, is_order_kept := ?is_order_kept, first_fault := ?first_fault, clashes_of := ?clashes_of, check := ?check, all_open := ?all_open, clash := ?clash, slack := ?slack, told := ?told, answer_to := ?answer_to, rows_at := ?rows_at }
      (case Arr_put => refine' Uw.mkDefM ?a ?i ?l ?c ?k Uw.bd_Arr_put; (case a => k_is); (case i => k_is); (case l => k_is); (case c => k_is); (case k => k_is))
      (case Arr_end_by => refine' Uw.mkDefM ?a ?i ?l ?c ?k Uw.bd_Arr_end_by; (case a => k_is); (case i => k_is); (case l => k_is); (case c => k_is); (case k => k_is))
      (case Arr_sum_of => refine' Uw.mkDefM ?a ?i ?l ?c ?k Uw.bd_Arr_sum_of; (case a => k_is); (case i => k_is); (case l => k_is); (case c => k_is); (case k => k_is))
      (case Arr_longer => refine' Uw.mkDefM ?a ?i ?l ?c ?k Uw.bd_Arr_longer; (case a => k_is); (case i => k_is); (case l => k_is); (case c => k_is); (case k => k_is))
      (case Arr_sums_to => refine' Uw.mkDefM ?a ?i ?l ?c ?k Uw.bd_Arr_sums_to; (case a => k_is); (case i => k_is); (case l => k_is); (case c => k_is); (case k => k_is))
      (case Arr_first_walk => refine' Uw.mkDefM ?a ?i ?l ?c ?k Uw.bd_Arr_first_walk; (case a => k_is); (case i => k_is); (case l => k_is); (case c => k_is); (case k => k_is))
      (case Arr_ring => refine' Uw.mkDefM ?a ?i ?l ?c ?k Uw.bd_Arr_ring; (case a => k_is); (case i => k_is); (case l => k_is); (case c => k_is); (case k => k_is))
      (case Arr_greatest_to => refine' Uw.mkDefM ?a ?i ?l ?c ?k Uw.bd_Arr_greatest_to; (case a => k_is); (case i => k_is); (case l => k_is); (case c => k_is); (case k => k_is))
      (case Arr_grown => refine' Uw.mkDefM ?a ?i ?l ?c ?k Uw.bd_Arr_grown; (case a => k_is); (case i => k_is); (case l => k_is); (case c => k_is); (case k => k_is))
      (case Arr_has_ring => refine' Uw.mkDefM ?a ?i ?l ?c ?k Uw.bd_Arr_has_ring; (case a => k_is); (case i => k_is); (case l => k_is); (case c => k_is); (case k => k_is))
      (case Arr_earliest => refine' Uw.mkDefM ?a ?i ?l ?c ?k Uw.bd_Arr_earliest; (case a => k_is); (case i => k_is); (case l => k_is); (case c => k_is); (case k => k_is))
      (case Arr_latest => refine' Uw.mkDefM ?a ?i ?l ?c ?k Uw.bd_Arr_latest; (case a => k_is); (case i => k_is); (case l => k_is); (case c => k_is); (case k => k_is))
      (case Arr_chain => refine' Uw.mkDefM ?a ?i ?l ?c ?k Uw.bd_Arr_chain; (case a => k_is); (case i => k_is); (case l => k_is); (case c => k_is); (case k => k_is))
      (case Wk_operation => refine' Uw.mkDefM ?a ?i ?l ?c ?k Uw.bd_Wk_operation; (case a => k_is); (case i => k_is); (case l => k_is); (case c => k_is); (case k => k_is))
      (case Wk_numbers => refine' Uw.mkDefM ?a ?i ?l ?c ?k Uw.bd_Wk_numbers; (case a => k_is); (case i => k_is); (case l => k_is); (case c => k_is); (case k => k_is))
      (case Wk_distance => refine' Uw.mkDefM ?a ?i ?l ?c ?k Uw.bd_Wk_distance; (case a => k_is); (case i => k_is); (case l => k_is); (case c => k_is); (case k => k_is))
      (case Wk_is_one_unit => refine' Uw.mkDefM ?a ?i ?l ?c ?k Uw.bd_Wk_is_one_unit; (case a => k_is); (case i => k_is); (case l => k_is); (case c => k_is); (case k => k_is))
      (case Wk_pairs => refine' Uw.mkDefM ?a ?i ?l ?c ?k Uw.bd_Wk_pairs; (case a => k_is); (case i => k_is); (case l => k_is); (case c => k_is); (case k => k_is))
      (case Wk_is_fixed => refine' Uw.mkDefM ?a ?i ?l ?c ?k Uw.bd_Wk_is_fixed; (case a => k_is); (case i => k_is); (case l => k_is); (case c => k_is); (case k => k_is))
      (case Wk_open_pairs => refine' Uw.mkDefM ?a ?i ?l ?c ?k Uw.bd_Wk_open_pairs; (case a => k_is); (case i => k_is); (case l => k_is); (case c => k_is); (case k => k_is))
      (case Wk_end_of => refine' Uw.mkDefM ?a ?i ?l ?c ?k Uw.bd_Wk_end_of; (case a => k_is); (case i => k_is); (case l => k_is); (case c => k_is); (case k => k_is))
      (case Rd_take => refine' Uw.mkDefM ?a ?i ?l ?c ?k Uw.bd_Rd_take; (case a => k_is); (case i => k_is); (case l => k_is); (case c => k_is); (case k => k_is))
      (case Rd_is_leaf_right => refine' Uw.mkDefM ?a ?i ?l ?c ?k Uw.bd_Rd_is_leaf_right; (case a => k_is); (case i => k_is); (case l => k_is); (case c => k_is); (case k => k_is))
      (case Rd_read => refine' Uw.mkDefM ?a ?i ?l ?c ?k Uw.bd_Rd_read; (case a => k_is); (case i => k_is); (case l => k_is); (case c => k_is); (case k => k_is))
      (case Rd_shows => refine' Uw.mkDefM ?a ?i ?l ?c ?k Uw.bd_Rd_shows; (case a => k_is); (case i => k_is); (case l => k_is); (case c => k_is); (case k => k_is))
      (case Arr___init__ => refine' Uw.mkDefI KX G ?g ?mk ?a ?i ?kc ?l ?c ?k Uw.bd_Arr___init__; (case g => k_is); (case mk => k_is); (case a => k_is); (case i => k_is); (case kc => k_is); (case l => k_is); (case c => k_is); (case k => k_is))
      (case Op___init__ => refine' Uw.mkDefI KX G ?g ?mk ?a ?i ?kc ?l ?c ?k Uw.bd_Op___init__; (case g => k_is); (case mk => k_is); (case a => k_is); (case i => k_is); (case kc => k_is); (case l => k_is); (case c => k_is); (case k => k_is))
      (case Lk___init__ => refine' Uw.mkDefI KX G ?g ?mk ?a ?i ?kc ?l ?c ?k Uw.bd_Lk___init__; (case g => k_is); (case mk => k_is); (case a => k_is); (case i => k_is); (case kc => k_is); (case l => k_is); (case c => k_is); (case k => k_is))
      (case Wk___init__ => refine' Uw.mkDefI KX G ?g ?mk ?a ?i ?kc ?l ?c ?k Uw.bd_Wk___init__; (case g => k_is); (case mk => k_is); (case a => k_is); (case i => k_is); (case kc => k_is); (case l => k_is); (case c => k_is); (case k => k_is))
      (case Pl___init__ => refine' Uw.mkDefI KX G ?g ?mk ?a ?i ?kc ?l ?c ?k Uw.bd_Pl___init__; (case g => k_is); (case mk => k_is); (case a => k_is); (case i => k_is); (case kc => k_is); (case l => k_is); (case c => k_is); (case k => k_is))
      (case Rd___init__ => refine' Uw.mkDefI KX G ?g ?mk ?a ?i ?kc ?l ?c ?k Uw.bd_Rd___init__; (case g => k_is); (case mk => k_is); (case a => k_is); (case i => k_is); (case kc => k_is); (case l => k_is); (case c => k_is); (case k => k_is))
      (case Dk___init__ => refine' Uw.mkDefI KX G ?g ?mk ?a ?i ?kc ?l ?c ?k Uw.bd_Dk___init__; (case g => k_is); (case mk => k_is); (case a => k_is); (case i => k_is); (case kc => k_is); (case l => k_is); (case c => k_is); (case k => k_is))
      (case all_ways => refine' Uw.mkDefG KX G ?a ?l ?c ?k Uw.bd_all_ways; (case a => k_is); (case l => k_is); (case c => k_is); (case k => k_is))
      (case plan_told => refine' Uw.mkDefG KX G ?a ?l ?c ?k Uw.bd_plan_told; (case a => k_is); (case l => k_is); (case c => k_is); (case k => k_is))
      (case leaf => refine' Uw.mkDefG KX G ?a ?l ?c ?k Uw.bd_leaf; (case a => k_is); (case l => k_is); (case c => k_is); (case k => k_is))
      (case tree_told => refine' Uw.mkDefG KX G ?a ?l ?c ?k Uw.bd_tree_told; (case a => k_is); (case l => k_is); (case c => k_is); (case k => k_is))
      (case require => refine' Uw.mkDefG KX G ?a ?l ?c ?k Uw.bd_require; (case a => k_is); (case l => k_is); (case c => k_is); (case k => k_is))
      (case require_operations => refine' Uw.mkDefG KX G ?a ?l ?c ?k Uw.bd_require_operations; (case a => k_is); (case l => k_is); (case c => k_is); (case k => k_is))
      (case require_few_open => refine' Uw.mkDefG KX G ?a ?l ?c ?k Uw.bd_require_few_open; (case a => k_is); (case l => k_is); (case c => k_is); (case k => k_is))
      (case told_pairs => refine' Uw.mkDefG KX G ?a ?l ?c ?k Uw.bd_told_pairs; (case a => k_is); (case l => k_is); (case c => k_is); (case k => k_is))
      (case listed => refine' Uw.mkDefG KX G ?a ?l ?c ?k Uw.bd_listed; (case a => k_is); (case l => k_is); (case c => k_is); (case k => k_is))
      (case begin => refine' Uw.mkDefG KX G ?a ?l ?c ?k Uw.bd_begin; (case a => k_is); (case l => k_is); (case c => k_is); (case k => k_is))
      (case put_operation => refine' Uw.mkDefG KX G ?a ?l ?c ?k Uw.bd_put_operation; (case a => k_is); (case l => k_is); (case c => k_is); (case k => k_is))
      (case put_link => refine' Uw.mkDefG KX G ?a ?l ?c ?k Uw.bd_put_link; (case a => k_is); (case l => k_is); (case c => k_is); (case k => k_is))
      (case fix => refine' Uw.mkDefG KX G ?a ?l ?c ?k Uw.bd_fix; (case a => k_is); (case l => k_is); (case c => k_is); (case k => k_is))
      (case unfix => refine' Uw.mkDefG KX G ?a ?l ?c ?k Uw.bd_unfix; (case a => k_is); (case l => k_is); (case c => k_is); (case k => k_is))
      (case earliest => refine' Uw.mkDefG KX G ?a ?l ?c ?k Uw.bd_earliest; (case a => k_is); (case l => k_is); (case c => k_is); (case k => k_is))
      (case latest => refine' Uw.mkDefG KX G ?a ?l ?c ?k Uw.bd_latest; (case a => k_is); (case l => k_is); (case c => k_is); (case k => k_is))
      (case fixed_arrows => refine' Uw.mkDefG KX G ?a ?l ?c ?k Uw.bd_fixed_arrows; (case a => k_is); (case l => k_is); (case c => k_is); (case k => k_is))
      (case chain => refine' Uw.mkDefG KX G ?a ?l ?c ?k Uw.bd_chain; (case a => k_is); (case l => k_is); (case c => k_is); (case k => k_is))
      (case best => refine' Uw.mkDefG KX G ?a ?l ?c ?k Uw.bd_best; (case a => k_is); (case l => k_is); (case c => k_is); (case k => k_is))
      (case tree => refine' Uw.mkDefG KX G ?a ?l ?c ?k Uw.bd_tree; (case a => k_is); (case l => k_is); (case c => k_is); (case k => k_is))
      (case shows => refine' Uw.mkDefG KX G ?a ?l ?c ?k Uw.bd_shows; (case a => k_is); (case l => k_is); (case c => k_is); (case k => k_is))
      (case is_link_kept => refine' Uw.mkDefG KX G ?a ?l ?c ?k Uw.bd_is_link_kept; (case a => k_is); (case l => k_is); (case c => k_is); (case k => k_is))
      (case is_order_kept => refine' Uw.mkDefG KX G ?a ?l ?c ?k Uw.bd_is_order_kept; (case a => k_is); (case l => k_is); (case c => k_is); (case k => k_is))
      (case first_fault => refine' Uw.mkDefG KX G ?a ?l ?c ?k Uw.bd_first_fault; (case a => k_is); (case l => k_is); (case c => k_is); (case k => k_is))
      (case clashes_of => refine' Uw.mkDefG KX G ?a ?l ?c ?k Uw.bd_clashes_of; (case a => k_is); (case l => k_is); (case c => k_is); (case k => k_is))
      (case check => refine' Uw.mkDefG KX G ?a ?l ?c ?k Uw.bd_check; (case a => k_is); (case l => k_is); (case c => k_is); (case k => k_is))
      (case all_open => refine' Uw.mkDefG KX G ?a ?l ?c ?k Uw.bd_all_open; (case a => k_is); (case l => k_is); (case c => k_is); (case k => k_is))
      (case clash => refine' Uw.mkDefG KX G ?a ?l ?c ?k Uw.bd_clash; (case a => k_is); (case l => k_is); (case c => k_is); (case k => k_is))
      (case slack => refine' Uw.mkDefG KX G ?a ?l ?c ?k Uw.bd_slack; (case a => k_is); (case l => k_is); (case c => k_is); (case k => k_is))
      (case told => refine' Uw.mkDefG KX G ?a ?l ?c ?k Uw.bd_told; (case a => k_is); (case l => k_is); (case c => k_is); (case k => k_is))
      (case answer_to => refine' Uw.mkDefG KX G ?a ?l ?c ?k Uw.bd_answer_to; (case a => k_is); (case l => k_is); (case c => k_is); (case k => k_is))
      (case rows_at => refine' Uw.mkDefG KX G ?a ?l ?c ?k Uw.bd_rows_at; (case a => k_is); (case l => k_is); (case c => k_is); (case k => k_is))
  case S =>
    intro K H xs a hO hwi hask hx
    cases hx with
    | cons h1 h2 =>
      cases h2
      cases h1 with
      | lst hs ha =>
        have e := L2.ints_dw a.1 _ ha
        subst e
        have q : ((Codec.inLen 0 6000 a.1 && a.1.all (Codec.inInt (-1000000000000000000) 1000000000000000000)) && true) = true := hwi
        rw [Bool.and_eq_true, Bool.and_eq_true] at q
        exact ⟨_, a.1, rfl, hs, (Codec.inNat_iff.mp q.1.1).2, hask, fun H' p hp => .lst (L2.SqL.of hp) (L2.dw_ints _)⟩
#print axioms PySem.Challenge.cw_unitplans_s01_answers_holds
