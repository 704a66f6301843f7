import PyProof.Rows.All
import Wide.All
import OpenK.AllK
import Wide.FinOn
import KE.GoesEnum
import KE.SortData
import PyProof.ReprRoads
import HandS.ForMost
import HandS.More
import HandS.Conv
import HandS.TupAny
import HandS.RevRange
import HandS.Strs
import HandS.Zip
import HandS.Wide
import HandS.Codes
import HandS.Walk
import HandS.FStrTup
import PySem.Challenge.RW_touchboats_k23_whole_deeds_tell_the_plac
set_option Elab.async false
set_option linter.all false
set_option maxRecDepth 100000
set_option maxHeartbeats 4000000
/-! Touchboats k23: the mathematics of sheets, words, starts. Plain lists. -/
namespace TB
inductive Mk where
  | d | o | t | u
  deriving DecidableEq
inductive Ev (B : Type) where
  | drop (x : B)
  | touch (x y : B)
def Ev.bs {B : Type} : Ev B → List B
  | .drop x => [x]
  | .touch x y => [x, y]
def boats {B : Type} (sh : List (Ev B)) : List B := sh.flatMap Ev.bs
theorem boats_app {B : Type} (a b : List (Ev B)) : boats (a ++ b) = boats a ++ boats b := by
  unfold boats
  rw [List.flatMap_append]
theorem boats_cons {B : Type} (e : Ev B) (b : List (Ev B)) : boats (e :: b) = e.bs ++ boats b := rfl
theorem mem_boats {B : Type} {z : B} {sh : List (Ev B)} : z ∈ boats sh ↔ ∃ e, e ∈ sh ∧ z ∈ e.bs := List.mem_flatMap
/-- what a sound sheet is -/
structure Sound {B : Type} (st : List B) (r : Nat) (sh : List (Ev B)) : Prop where
  nd : (boats sh).Nodup
  sub : ∀ z, z ∈ boats sh → z ∈ st
  tch : ∀ x y, Ev.touch x y ∈ sh → ∃ A M C, st = A ++ y :: (M ++ x :: C) ∧ M.length ≤ r ∧ (∀ z, z ∈ M → z ∈ boats sh) ∧ ∀ u v, Ev.touch u v ∈ sh → (u ∈ M ↔ v ∈ M)
theorem perm_boats {B : Type} {a b : List (Ev B)} (p : a.Perm b) : (boats a).Perm (boats b) := p.flatMap_right _
theorem Sound.perm {B : Type} {st : List B} {r : Nat} {a b : List (Ev B)} (h : Sound st r a) (p : b.Perm a) : Sound st r b where
  nd := (perm_boats p).nodup_iff.mpr h.nd
  sub := fun z hz => h.sub z ((perm_boats p).mem_iff.mp hz)
  tch := fun x y hxy => by
    obtain ⟨A, M, C, e, l, q, c⟩ := h.tch x y (p.mem_iff.mp hxy)
    exact ⟨A, M, C, e, l, fun z hz => (perm_boats p).mem_iff.mpr (q z hz), fun u v huv => c u v (p.mem_iff.mp huv)⟩

/-! ### words -/
inductive W (r : Nat) : Bool → List Mk → Prop where
  | nil (b : Bool) : W r b []
  | d {b : Bool} {w : List Mk} : W r b w → W r b (w ++ [.d])
  | o {w : List Mk} : W r true w → W r true (w ++ [.o])
  | p {b : Bool} {w v : List Mk} : W r b w → W r false v → v.length ≤ r → W r b (w ++ .t :: (v ++ [.u]))
theorem W.up {r : Nat} {w : List Mk} (h : W r false w) : W r true w := by
  generalize e : false = b at h
  induction h with
  | nil b => exact .nil true
  | d _ ih => exact .d (ih e)
  | o _ _ => cases e
  | p _ h2 h3 ih _ => exact .p (ih e) h2 h3
theorem W.cat {r : Nat} {b : Bool} {w v : List Mk} (h : W r b w) (k : W r false v) : W r b (w ++ v) := by
  generalize e : false = c at k
  induction k with
  | nil c => rw [List.append_nil]; exact h
  | d _ ih => rw [← List.append_assoc]; exact .d (ih e)
  | o _ _ => cases e
  | p _ h2 h3 ih _ => rw [← List.append_assoc]; exact .p (ih e) h2 h3
/-- the marks so far and the pile of open places -/
inductive G (r : Nat) : List Mk → List Nat → Prop where
  | base {w : List Mk} : W r true w → G r w []
  | push {w v : List Mk} {pl : List Nat} : G r w pl → W r false v → G r (w ++ .d :: v) (pl ++ [w.length])
theorem G.top {r : Nat} {w : List Mk} {q pl : List Nat} {p : Nat} (h : G r w q) (e : q = pl ++ [p]) : ∃ w0 v, w = w0 ++ .d :: v ∧ p = w0.length ∧ G r w0 pl ∧ W r false v := by
  cases h with
  | base _ => exact absurd e (by simp)
  | push h1 h2 =>
    obtain ⟨e1, e2⟩ := List.append_inj' e rfl
    subst e1
    cases e2
    exact ⟨_, _, rfl, rfl, h1, h2⟩
theorem G.word {r : Nat} {w : List Mk} {q : List Nat} (h : G r w q) : W r true w := by
  induction h with
  | base h => exact h
  | push _ h2 ih =>
    have e : ∀ (a v : List Mk), a ++ Mk.d :: v = (a ++ [.d]) ++ v := fun a v => by simp
    rw [e]
    exact (W.d ih).cat h2
theorem G.cat {r : Nat} {w v : List Mk} {q : List Nat} (h : G r w q) (k : W r false v) : G r (w ++ v) q := by
  cases h with
  | base h => exact .base (h.cat k)
  | push h1 h2 =>
    rw [List.append_assoc, List.cons_append]
    exact .push h1 (h2.cat k)
theorem G.addD {r : Nat} {w : List Mk} {q : List Nat} (h : G r w q) : G r (w ++ [.d]) q := h.cat (.d (.nil false))
theorem G.addO {r : Nat} {w : List Mk} (h : G r w []) : G r (w ++ [.o]) [] := .base (.o h.word)
theorem G.open_ {r : Nat} {w : List Mk} {q : List Nat} (h : G r w q) : G r (w ++ [.d]) (q ++ [w.length]) := .push h (.nil false)
theorem G.lose {r : Nat} {w : List Mk} {pl : List Nat} {p : Nat} (h : G r w (pl ++ [p])) : G r w pl ∧ p < w.length ∧ w.set p .d = w := by
  obtain ⟨w0, v, e, ep, h1, h2⟩ := h.top rfl
  subst e ep
  refine ⟨?_, by rw [List.length_append, List.length_cons]; omega, ?_⟩
  · have e : ∀ (a v : List Mk), a ++ Mk.d :: v = (a ++ [.d]) ++ v := fun a v => by simp
    rw [e]
    exact h1.addD.cat h2
  · rw [List.set_append_right _ _ (Nat.le_refl _), Nat.sub_self]
    rfl
theorem G.close {r : Nat} {w : List Mk} {pl : List Nat} {p : Nat} (h : G r w (pl ++ [p])) (hr : w.length ≤ p + 1 + r) : G r (w.set p .t ++ [.u]) pl ∧ p < w.length := by
  obtain ⟨w0, v, e, ep, h1, h2⟩ := h.top rfl
  subst e ep
  rw [List.length_append, List.length_cons] at hr
  refine ⟨?_, by rw [List.length_append, List.length_cons]; omega⟩
  rw [List.set_append_right _ _ (Nat.le_refl _), Nat.sub_self]
  show G r (w0 ++ .t :: v ++ [.u]) pl
  rw [List.append_assoc, List.cons_append]
  cases h1 with
  | base k => exact .base (.p k h2 (by omega))
  | push k1 k2 =>
    rw [List.append_assoc, List.cons_append]
    exact .push k1 (.p k2 h2 (by omega))
theorem G.lt {r : Nat} {w : List Mk} {q : List Nat} (h : G r w q) : ∀ p, p ∈ q → p < w.length := by
  induction h with
  | base _ => intro p hp; cases hp
  | push _ _ ih =>
    intro p hp
    rw [List.length_append, List.length_cons]
    rcases List.mem_append.mp hp with h | h
    · have := ih p h
      omega
    · have e : p = _ := List.mem_singleton.mp h
      omega

/-! ### a word's sheet -/
def stp {B : Type} : List B × List (Ev B) → B × Mk → Option (List B × List (Ev B))
  | (P, E), (b, .t) => some (P ++ [b], E)
  | (P, E), (b, .u) => match P.getLast? with
    | some y => some (P.dropLast, E ++ [.touch b y])
    | none => none
  | (P, E), (b, .d) => some (P, E ++ [.drop b])
  | (P, E), (_, .o) => some (P, E)
def run {B : Type} (s : List B × List (Ev B)) (zs : List (B × Mk)) : Option (List B × List (Ev B)) := zs.foldlM stp s
theorem run_nil {B : Type} (s : List B × List (Ev B)) : run s [] = some s := rfl
theorem run_cons {B : Type} (s : List B × List (Ev B)) (z : B × Mk) (zs : List (B × Mk)) : run s (z :: zs) = (stp s z).bind fun s' => run s' zs := by
  unfold run
  rw [List.foldlM_cons]
  rfl
theorem run_app {B : Type} (s : List B × List (Ev B)) (a b : List (B × Mk)) : run s (a ++ b) = (run s a).bind fun s' => run s' b := by
  unfold run
  rw [List.foldlM_append]
  rfl
theorem ends_snoc {α : Type} : ∀ {xs : List α} {n : Nat}, xs.length = n + 1 → ∃ ys x, xs = ys ++ [x] ∧ ys.length = n := fun {xs n} h => by
  have hne : xs ≠ [] := fun e => by rw [e] at h; simp at h
  exact ⟨xs.dropLast, xs.getLast hne, (List.dropLast_concat_getLast hne).symm, by rw [List.length_dropLast]; omega⟩
theorem ends_pair {α : Type} {xs : List α} {n m : Nat} (h : xs.length = n + (m + 1 + 1)) : ∃ X1 y X2 x, xs = X1 ++ y :: (X2 ++ [x]) ∧ X1.length = n ∧ X2.length = m := by
  obtain ⟨ys, x, e, l⟩ := ends_snoc (xs := xs) (n := n + m + 1) (by omega)
  have hlt : n < ys.length := by omega
  refine ⟨ys.take n, ys[n], ys.drop (n + 1), x, ?_, by rw [List.length_take]; omega, by rw [List.length_drop]; omega⟩
  rw [← List.cons_append, ← List.append_assoc, List.getElem_cons_drop, List.take_append_drop]
  exact e
theorem snoc_len {α β : Type} {xs : List α} {w : List β} {c : β} (h : xs.length = (w ++ [c]).length) : ∃ ys x, xs = ys ++ [x] ∧ ys.length = w.length := ends_snoc (by rw [h, List.length_append]; rfl)
theorem parse {B : Type} {r : Nat} {b : Bool} {w : List Mk} (h : W r b w) : ∀ xs : List B, xs.length = w.length → ∃ evs os, (∀ P E, run (P, E) (xs.zip w) = some (P, E ++ evs)) ∧ (boats evs ++ os).Perm xs ∧ (b = false → os = []) ∧
    (xs.Nodup → ∀ x y, Ev.touch x y ∈ evs → ∃ A M C, xs = A ++ y :: (M ++ x :: C) ∧ M.length ≤ r ∧ (∀ z, z ∈ M → z ∈ boats evs) ∧ ∀ u v, Ev.touch u v ∈ evs → (u ∈ M ↔ v ∈ M)) := by
  induction h with
  | nil b =>
    intro xs h
    have e : xs = [] := List.length_eq_zero_iff.mp h
    subst e
    exact ⟨[], [], fun P E => by rw [List.append_nil]; rfl, List.Perm.refl _, fun _ => rfl, fun _ x y hm => absurd hm List.not_mem_nil⟩
  | @d b w _ ih =>
    intro xs h
    obtain ⟨ys, x, e, l⟩ := snoc_len h
    subst e
    obtain ⟨evs, os, h1, h2, h3, h4⟩ := ih ys l
    refine ⟨evs ++ [.drop x], os, fun P E => ?_, ?_, h3, fun nd u v hm => ?_⟩
    · rw [List.zip_append l, run_app, h1]
      show run (P, E ++ evs) [(x, Mk.d)] = _
      rw [run_cons]
      show some (P, E ++ evs ++ [Ev.drop x]) = _
      rw [List.append_assoc]
    · rw [boats_app, List.append_assoc]
      refine (List.perm_append_comm_assoc _ _ _).trans ?_
      exact List.perm_append_comm.trans (h2.append_right _)
    · rcases List.mem_append.mp hm with hm | hm
      · obtain ⟨A, M, C, e1, e2, e3, e4⟩ := h4 (List.nodup_append.mp nd).1 u v hm
        refine ⟨A, M, C ++ [x], by rw [e1]; simp, e2, fun z hz => by rw [boats_app]; exact List.mem_append_left _ (e3 z hz), fun p q hpq => ?_⟩
        rcases List.mem_append.mp hpq with hpq | hpq
        · exact e4 p q hpq
        · cases List.mem_singleton.mp hpq
      · cases List.mem_singleton.mp hm
  | @o w _ ih =>
    intro xs h
    obtain ⟨ys, x, e, l⟩ := snoc_len h
    subst e
    obtain ⟨evs, os, h1, h2, h3, h4⟩ := ih ys l
    refine ⟨evs, os ++ [x], fun P E => ?_, ?_, (fun e => nomatch e), fun nd u v hm => ?_⟩
    · rw [List.zip_append l, run_app, h1]
      rfl
    · rw [← List.append_assoc]
      exact h2.append_right _
    · obtain ⟨A, M, C, e1, e2, e3, e4⟩ := h4 (List.nodup_append.mp nd).1 u v hm
      exact ⟨A, M, C ++ [x], by rw [e1]; simp, e2, e3, e4⟩
  | @p b w v _ _ hr ih1 ih2 =>
    intro xs h
    obtain ⟨X1, y, X2, x, e, l1, l2⟩ := ends_pair (xs := xs) (n := w.length) (m := v.length) (by rw [h]; simp)
    subst e
    obtain ⟨e1, o1, r1, p1, f1, t1⟩ := ih1 X1 l1
    obtain ⟨e2, o2, r2, p2, f2, t2⟩ := ih2 X2 l2
    have ho2 : o2 = [] := f2 rfl
    subst ho2
    rw [List.append_nil] at p2
    have b1 : ∀ z, z ∈ boats e1 → z ∈ X1 := fun z hz => p1.mem_iff.mp (List.mem_append_left _ hz)
    have b2 : ∀ z, z ∈ boats e2 → z ∈ X2 := fun z hz => p2.mem_iff.mp hz
    have tb : ∀ {E : List (Ev B)} {u v : B}, Ev.touch u v ∈ E → u ∈ boats E ∧ v ∈ boats E := fun hm => ⟨mem_boats.mpr ⟨_, hm, by simp [Ev.bs]⟩, mem_boats.mpr ⟨_, hm, by simp [Ev.bs]⟩⟩
    refine ⟨e1 ++ e2 ++ [.touch x y], o1, fun P E => ?_, ?_, f1, fun nd u q hm => ?_⟩
    · have z : (X1 ++ y :: (X2 ++ [x])).zip (w ++ Mk.t :: (v ++ [Mk.u])) = X1.zip w ++ (y, Mk.t) :: (X2.zip v ++ [(x, Mk.u)]) := by
        rw [List.zip_append l1, List.zip_cons_cons, List.zip_append l2]
        rfl
      rw [z, run_app, r1]
      show run (P, E ++ e1) _ = _
      rw [run_cons]
      show run (P ++ [y], E ++ e1) _ = _
      rw [run_app, r2]
      show run (P ++ [y], E ++ e1 ++ e2) [(x, Mk.u)] = _
      rw [run_cons]
      have s : stp (P ++ [y], E ++ e1 ++ e2) (x, Mk.u) = some (P, E ++ e1 ++ e2 ++ [.touch x y]) := by
        simp [stp]
      rw [s]
      show some (P, E ++ e1 ++ e2 ++ [Ev.touch x y]) = _
      simp
    · have q1 : (boats (e1 ++ e2 ++ [Ev.touch x y]) ++ o1).Perm (boats e1 ++ o1 ++ (boats e2 ++ [x, y])) := by
        rw [boats_app, boats_app, List.append_assoc, List.append_assoc, List.append_assoc]
        refine List.Perm.append_left _ ?_
        show (boats e2 ++ ([x, y] ++ o1)).Perm _
        rw [← List.append_assoc]
        exact List.perm_append_comm
      refine q1.trans (List.Perm.append p1 ?_)
      refine (List.Perm.append_right _ p2).trans ?_
      have e : X2 ++ [x, y] = (X2 ++ [x]) ++ [y] := by simp
      rw [e]
      exact List.perm_append_comm
    · have n1 := List.nodup_append.mp nd
      have n2 := List.nodup_cons.mp n1.2.1
      have n3 := List.nodup_append.mp n2.2
      have x1y : ∀ z, z ∈ X1 → z ≠ y := fun z hz => n1.2.2 z hz y List.mem_cons_self
      have x1x : ∀ z, z ∈ X1 → z ≠ x := fun z hz => n1.2.2 z hz x (by simp)
      have x12 : ∀ z, z ∈ X1 → z ∉ X2 := fun z hz hz2 => n1.2.2 z hz z (by simp [hz2]) rfl
      have x2x : ∀ z, z ∈ X2 → z ≠ x := fun z hz => n3.2.2 z hz x (by simp)
      have x2y : y ∉ X2 := fun hz => n2.1 (by simp [hz])
      have inB : ∀ z, z ∈ boats e1 ∨ z ∈ boats e2 → z ∈ boats (e1 ++ e2 ++ [Ev.touch x y]) := fun z hz => by
        rw [boats_app, boats_app]
        rcases hz with hz | hz
        · exact List.mem_append_left _ (List.mem_append_left _ hz)
        · exact List.mem_append_left _ (List.mem_append_right _ hz)
      rcases List.mem_append.mp hm with hm | hm
      · rcases List.mem_append.mp hm with hm | hm
        · obtain ⟨A, M, C, d1, d2, d3, d4⟩ := t1 n1.1 u q hm
          have inM : ∀ z, z ∈ M → z ∈ X1 := fun z hz => by rw [d1]; simp [hz]
          refine ⟨A, M, C ++ y :: (X2 ++ [x]), by rw [d1]; simp, d2, fun z hz => inB z (.inl (d3 z hz)), fun p s hps => ?_⟩
          rcases List.mem_append.mp hps with hps | hps
          · rcases List.mem_append.mp hps with hps | hps
            · exact d4 p s hps
            · have := tb hps
              exact ⟨fun z => absurd (b2 _ this.1) (x12 _ (inM _ z)), fun z => absurd (b2 _ this.2) (x12 _ (inM _ z))⟩
          · cases List.mem_singleton.mp hps
            exact ⟨fun z => absurd rfl (x1x _ (inM _ z)), fun z => absurd rfl (x1y _ (inM _ z))⟩
        · obtain ⟨A, M, C, d1, d2, d3, d4⟩ := t2 n3.1 u q hm
          have inM : ∀ z, z ∈ M → z ∈ X2 := fun z hz => by rw [d1]; simp [hz]
          refine ⟨X1 ++ y :: A, M, C ++ [x], by rw [d1]; simp, d2, fun z hz => inB z (.inr (d3 z hz)), fun p s hps => ?_⟩
          rcases List.mem_append.mp hps with hps | hps
          · rcases List.mem_append.mp hps with hps | hps
            · have := tb hps
              exact ⟨fun z => absurd (inM _ z) (x12 _ (b1 _ this.1)), fun z => absurd (inM _ z) (x12 _ (b1 _ this.2))⟩
            · exact d4 p s hps
          · cases List.mem_singleton.mp hps
            exact ⟨fun z => absurd rfl (x2x _ (inM _ z)), fun z => absurd (inM _ z) x2y⟩
      · cases List.mem_singleton.mp hm
        refine ⟨X1, X2, [], rfl, by omega, fun z hz => inB z (.inr (p2.mem_iff.mpr hz)), fun p s hps => ?_⟩
        rcases List.mem_append.mp hps with hps | hps
        · rcases List.mem_append.mp hps with hps | hps
          · have := tb hps
            exact ⟨fun z => absurd z (x12 _ (b1 _ this.1)), fun z => absurd z (x12 _ (b1 _ this.2))⟩
          · have := tb hps
            exact ⟨fun _ => b2 _ this.2, fun _ => b2 _ this.1⟩
        · cases List.mem_singleton.mp hps
          exact ⟨fun z => absurd rfl (x2x _ z), fun z => absurd z x2y⟩
/-- the sheet of a word of a start of unlike boats is sound -/
theorem sheet_sound {B : Type} {r : Nat} {w : List Mk} {xs : List B} (h : W r true w) (l : xs.length = w.length) (nd : xs.Nodup) : ∃ evs, run ([], []) (xs.zip w) = some ([], evs) ∧ Sound xs r evs := by
  obtain ⟨evs, os, h1, h2, _, h4⟩ := parse h xs l
  refine ⟨evs, h1 [] [], ?_, fun z hz => h2.mem_iff.mp (List.mem_append_left _ hz), h4 nd⟩
  exact (List.nodup_append.mp (h2.nodup_iff.mpr nd)).1
end TB
/-! Rules that the layer lacks: zip of a tuple and a list, enumerate of a tuple, sorted of data, list(range(a, b, -1)). -/
namespace TBR
open PySem PySem.Spec PyProof.Rows L2

/-! ### zip(tuple, list) -/
def ItzM (K : PySem.W.Frag) (a b : Addr) : It :=
  ⟨fun i H => ∃ (xs ys : List V) (x y : V), SqT K H a xs ∧ SqL K H b ys ∧ xs[i]? = some x ∧ ys[i]? = some y,
    fun i H v H' => ∃ T x y, v = .ref T ∧ H T = none ∧ H' = upd H T (.tup [x, y]) ∧ (∀ xs, SqT K H a xs → xs[i]? = some x) ∧ ∀ ys, SqL K H b ys → ys[i]? = some y,
    fun i H => ∃ xs ys : List V, SqT K H a xs ∧ SqL K H b ys ∧ xs.length = i ∧ ys.length = i⟩
theorem turn_zipM {P : Program} {w : World} {K : PySem.W.Frag} {elts : List Expr} {kk : Nat} {tpos : Pos} {a b z TI TO i1 i2 : Addr} (D : ZipSep2 z TI TO i1 i2 [i1, a] [i2, b]) (n1 : a ≠ i1) (n2 : b ≠ i2) :
    Turn P w K (.Tuple elts kk tpos) (ItzM K a b) [z, TI, TO, i1, i2] z (fun i h => IsZip h z TI TO .none ∧ IsTupOf2 h TI (.ref i1) (.ref i2) ∧ (∃ x y, IsTupOf2 h TO x y) ∧ h.IsTupleIter i1 a i ∧ h.IsListIter i2 b i) where
  mem := by simp
  obj := fun i h st c hc => by
    obtain ⟨hz, hTI, ⟨x, y, hTO⟩, ⟨o1, e1, _, d1⟩, ⟨o2, e2, _, d2⟩⟩ := st
    simp only [List.mem_cons, List.not_mem_nil, or_false] at hc
    rcases hc with q | q | q | q | q
    · subst q; exact ⟨_, hz, fun v q => nomatch q⟩
    · subst q; exact ⟨_, hTI, fun v q => nomatch q⟩
    · subst q; exact ⟨_, hTO, fun v q => nomatch q⟩
    · subst q; exact ⟨o1, e1, fun v q => by rw [d1] at q; cases q⟩
    · subst q; exact ⟨o2, e2, fun v q => by rw [d2] at q; cases q⟩
  keep := fun i h h' st k => by
    obtain ⟨hz, hTI, ⟨x, y, hTO⟩, h1, h2⟩ := st
    exact ⟨k _ (by simp) _ hz, k _ (by simp) _ hTI, ⟨x, y, k _ (by simp) _ hTO⟩, h1.at fun o q => k _ (by simp) o q, h2.at fun o q => k _ (by simp) o q⟩
  item := by
    intro X hP hw hK hc i pins s σ H E I hf st hg
    subst hP hw hK
    obtain ⟨hz, hTI, hTO, h1, h2⟩ := st
    obtain ⟨xs, ys, x, y, hqx, hqy, hx, hy⟩ := hg
    obtain ⟨its, rv, p, _⟩ := I.tuple hqx
    obtain ⟨its2, rv2, p2, _⟩ := I.list hqy
    obtain ⟨u, hu, ru⟩ := rv.get hx
    obtain ⟨u2, hu2, ru2⟩ := rv2.get hy
    have hh : X.A.in1.handled = none := I.ok.hd hc
    have hp : s.heap.IsTuple a its.toArray := p
    have Wt := WalksT.zipD2 (prog := X.prog) (w := X.w) (A := X.A) D (Draws.tuple hh i1 a n1 its.toArray) (Draws.list hh i2 b n2 its2.toArray)
    have l1 : i < its.toArray.size := by
      have := (List.getElem?_eq_some_iff.mp hu).1
      simpa using this
    have l2 : i < its2.toArray.size := by
      have := (List.getElem?_eq_some_iff.mp hu2).1
      simpa using this
    refine Wt.item i s _ _ (by omega) ⟨hz, hTI, hTO, ⟨h1, hp⟩, ⟨h2, p2.isList⟩⟩ fun T vals h' tk hv hT hTT mid kp => ?_
    obtain ⟨x1, x2, g1, g2, rfl⟩ := hv
    have ap := Wt.apart _ _ _ mid
    refine ⟨_, rfl, Wt.go elts kk tpos i T { s with heap := h', toks := tk } _ _ mid fun h'' st'' kp' => ?_⟩
    obtain ⟨z1, z2, z3, z4, z5⟩ := st''
    have e1 : x1 = u := by
      have q : its.toArray[i]? = some x1 := g1
      simp only [List.getElem?_toArray] at q
      exact Option.some.inj (q.symm.trans hu)
    have e2 : x2 = u2 := by
      have q : its2.toArray[i]? = some x2 := g2
      simp only [List.getElem?_toArray] at q
      exact Option.some.inj (q.symm.trans hu2)
    subst e1 e2
    obtain ⟨oT, oT1, oT2, nT, oT3⟩ := hTT
    have new : ObjOk X.prog X.w (upd H T (.tup [x, y])) h'' T (.tup [x, y]) := ⟨by show 2 ≤ sizeLine; decide, [x1, x2], .cons ru (.cons ru2 .nil), ⟨oT, kp' _ _ ap oT1, oT2, nT, oT3⟩⟩
    have I1 : Inv X pins σ (upd H T (.tup [x, y])) { s with heap := h'', toks := tk } :=
      I.turnedNew (ch := [z, TO, i1, i2]) (fun c o hb q => kp' _ _ hb (kp _ _ hb q)) (fun c hc => hf c (by simp only [List.mem_cons, List.not_mem_nil, or_false] at hc ⊢; rcases hc with q | q | q | q <;> simp [q])) hT new
    refine ⟨.ref T, _, I1, rfl, ⟨T, x, y, rfl, I.hok.fresh hT, rfl, fun l hl => by rw [I.tuple_inj hl hqx]; exact hx, fun l hl => by rw [I.list_inj hl hqy]; exact hy⟩, ⟨z1, z2, z3, z4.1, z5.1⟩, fun c hcm => ?_⟩
    have hlt : c < s.heap.objs.size := by
      simp only [List.mem_cons, List.not_mem_nil, or_false] at hcm
      obtain ⟨tx, ty, hTO⟩ := hTO
      obtain ⟨_, e1, _⟩ := h1
      obtain ⟨_, e2, _⟩ := h2
      rcases hcm with q | q | q | q | q
      · subst q; exact Heap.lt_size hz
      · subst q; exact Heap.lt_size hTI
      · subst q; exact Heap.lt_size hTO
      · subst q; exact Heap.lt_size e1
      · subst q; exact Heap.lt_size e2
    rw [upd_ne (Nat.ne_of_lt (Nat.lt_of_lt_of_le hlt hT))]
    exact (hf c hcm).1
  done := by
    intro X hP hw hK hc i pins s σ H E I hf st hg
    subst hP hw hK
    obtain ⟨hz, hTI, hTO, h1, h2⟩ := st
    obtain ⟨xs, ys, hqx, hqy, lx, ly⟩ := hg
    obtain ⟨its, rv, p, _⟩ := I.tuple hqx
    obtain ⟨its2, rv2, p2, _⟩ := I.list hqy
    have hh : X.A.in1.handled = none := I.ok.hd hc
    have hp : s.heap.IsTuple a its.toArray := p
    have Wt := WalksT.zipD2 (prog := X.prog) (w := X.w) (A := X.A) D (Draws.tuple hh i1 a n1 its.toArray) (Draws.list hh i2 b n2 its2.toArray)
    have e : min its.toArray.size its2.toArray.size = i := by
      have q1 := rv.length
      have q2 := rv2.length
      simp only [List.size_toArray]
      omega
    refine Wt.done s _ _ ?_ fun h' tk kp => ⟨rfl, I.turnedL (ch := [z, TO, i1, i2]) (fun c o hb q => kp _ _ hb q) fun c hc => hf c (by simp only [List.mem_cons, List.not_mem_nil, or_false] at hc ⊢; rcases hc with q | q | q | q <;> simp [q])⟩
    rw [e]
    exact ⟨hz, hTI, hTO, ⟨h1, hp⟩, ⟨h2, p2.isList⟩⟩
  self := fun A i s Q E st h => wpAny_pyIter_zip st.1 h
def iZipM (K : PySem.W.Frag) (ta : TA) : TI := fun σ H R => ta σ H fun vs H1 => ∃ a b xs ys, vs = [.ref a, .ref b] ∧ SqT K H1 a xs ∧ SqL K H1 b ys ∧ R (ItzM K a b) H1
theorem pi_zipM {X : Cx} {e e2 : Expr} {ta : TA} {p pos tpos : Pos} {elts : List Expr} {kk : Nat} (hg : Gl X "zip") (hm : X.mg "zip" = none) (ha : PA X [e, e2] ta)
    (hs : starEach [e, e2] X.env = (false, eval e X.env) :: starEach [e2] X.env := by rfl) (hpl : (backTo pos (starEach [e2] X.env)).any (·.1) = false := by rfl) :
    PI X (.Tuple elts kk tpos) (.Call (.Name "zip" p) [e, e2] [] pos) (iZipM X.K ta) := by
  refine ⟨fun pins s σ H R I h => ?_⟩
  refine Call_ (ld_blt I hg hm PyProof.Rows.boot_zip (PyProof.Rows.callWith_type1 (thn (ha.run pos pins s σ H _ I h) fun us s1 ⟨vs, H1, I1, r1, q1⟩ => ?_) hs hpl))
  obtain ⟨a, b, xs, ys, ex, hqx, hqy, q⟩ := q1
  subst ex
  obtain ⟨u, w', rfl, ru, rw'⟩ := vals2 r1
  obtain rfl : u = Value.ref a := ru
  obtain rfl : w' = Value.ref b := rw'
  obtain ⟨its, rv, p1, _⟩ := I1.tuple hqx
  obtain ⟨its2, rv2, p2, _⟩ := I1.list hqy
  have la : a < s1.heap.objs.size := p1.lt
  have lb : b < s1.heap.objs.size := p2.lt
  have hp1 : s1.heap.IsTuple a its.toArray := p1
  refine zip_begins2 (begins_tuple a its.toArray) (begins_list b its2.toArray) hp1 p2.isList fun h' hz hTI hTO g1 g2 hsz hk => wpAny_pyIter_zip hz ?_
  have I2 : Inv X pins σ H1 { s1 with heap := h' } := I1.kept (t' := s1.toks) hk
  have D := zip_sep2 (N := s1.heap.objs.size) (fp1 := [a]) (fp2 := [b]) (fun c hc => by rw [List.mem_singleton.mp hc]; exact la) (fun c hc => by rw [List.mem_singleton.mp hc]; exact lb)
  refine ⟨s1.heap.objs.size + 4, [s1.heap.objs.size + 4, s1.heap.objs.size + 2, s1.heap.objs.size + 3, s1.heap.objs.size, s1.heap.objs.size + 1], _, _, H1, rfl, I2,
    turn_zipM D (Nat.ne_of_lt la) (Nat.ne_of_lt (Nat.lt_succ_of_lt lb)), ⟨hz, hTI, ⟨_, _, hTO⟩, ⟨_, g1, rfl, rfl⟩, ⟨_, g2, rfl, rfl⟩⟩, fun c hcm => ?_, q⟩
  have hle : s1.heap.objs.size ≤ c := by
    simp only [List.mem_cons, List.not_mem_nil, or_false] at hcm
    rcases hcm with q | q | q | q | q
    · rw [q]; exact Nat.le_add_right _ _
    · rw [q]; exact Nat.le_add_right _ _
    · rw [q]; exact Nat.le_add_right _ _
    · rw [q]; exact Nat.le_refl _
    · rw [q]; exact Nat.le_add_right _ _
  exact I1.fpOk hle (I1.hok.fresh hle)
end TBR
namespace TBR
open PySem PySem.Spec PyProof.Rows L2

/-! ### enumerate(tuple) -/
set_option maxHeartbeats 4000000 in
theorem meets_enum_tup (l : Addr) (items : Array Value) :
    Meets (Builtin.«enumerate.__new__» ⟨[.type "enumerate", .ref l], []⟩) (fun _ R s => s.heap.IsTuple l items ∧
      R (.ok (.ret (.ref (s.heap.push { cls := .type "tuple_iterator", data := .fields #[.ref l, .int 0 0] }).objs.size)))
        { s with heap := (s.heap.push { cls := .type "tuple_iterator", data := .fields #[.ref l, .int 0 0] }).push { cls := .type "enumerate", data := .fields #[.none, .bool false, .ref s.heap.objs.size, rawInt 0, .none, .none] } }) :=
  .of_wp fun prog w A R s h => by
    obtain ⟨hp, gn, dr, tok, os⟩ := s
    obtain ⟨hT, h⟩ := h
    have hsub := sub_enumerate
    have itq : ∀ {A' : Around} {E : Value → Shared → Prop} {Q : Value → Shared → Prop}, Q (.ref hp.objs.size) ⟨hp.push { cls := .type "tuple_iterator", data := .fields #[.ref l, .int 0 0] }, gn, dr, tok, os⟩ → wpAny (model prog w) A' (pyIter (.ref l)) Q E ⟨hp, gn, dr, tok, os⟩ :=
      fun q => wpAny_pyIter_tuple (s := ⟨hp, gn, dr, tok, os⟩) hT q
    wp_walk using itq
    refine wpAny_stack_any fun st => wpAny_pure ?_
    split
    · rename_i c _ _ _ _ _
      cases (c == Value.type "enumerate")
      · wp_walk using itq
        exact ⟨_, rfl, h⟩
      · wp_walk using itq
        exact ⟨_, rfl, h⟩
    · wp_walk using itq
      exact ⟨_, rfl, h⟩
section
variable {prog : Program} {w : World} {A : Around} {E : Value → Shared → Prop} {s : Shared}
theorem call_enum_tup {l : Addr} {items : Array Value} {Q : Value → Shared → Prop} (hL : s.heap.IsTuple l items)
    (h : ∀ h', IsEnum h' (s.heap.objs.size + 1) s.heap.objs.size 0 .none → h'.IsTupleIter s.heap.objs.size l 0 →
      (∀ b o, s.heap.get? b = some o → h'.get? b = some o) → Q (.ref (s.heap.objs.size + 1)) { s with heap := h' }) :
    wpAny (model prog w) A (call (.type "enumerate") [.ref l]) Q E s := by
  have hz : (s.heap.push { cls := .type "tuple_iterator", data := .fields #[.ref l, .int 0 0] }).objs.size = s.heap.objs.size + 1 := Heap.size_push ..
  have g1 := Heap.get?_push_size (s.heap.push { cls := .type "tuple_iterator", data := .fields #[.ref l, .int 0 0] }) (o := { cls := .type "enumerate", data := .fields #[.none, .bool false, .ref s.heap.objs.size, rawInt 0, .none, .none] }) rfl
  refine callType_new F.called_enumerate (by decide) (F.typeCall_enumerate_1 _) (F.newCall_enumerate_1 _) (fun obj => F.args_object_init_2 obj _) F.entry_enumerate_new (meets_enum_tup l items) ⟨hL, ?_⟩
  show _ ∧ _
  rw [hz]
  rw [hz] at g1
  exact ⟨⟨_, g1, rfl⟩, h _ g1 ⟨_, Heap.get?_push_of_some _ (Heap.get?_push_size _ rfl), rfl, rfl⟩ fun b o x => Heap.get?_push_of_some _ (Heap.get?_push_of_some _ x)⟩
end
def IteT (K : PySem.W.Frag) (a : Addr) : It :=
  ⟨fun i H => ∃ (xs : List V) (x : V), SqT K H a xs ∧ xs[i]? = some x,
    fun i H v H' => ∃ T x, v = .ref T ∧ H T = none ∧ H' = upd H T (.tup [.int (i : Nat), x]) ∧ ∀ xs, SqT K H a xs → xs[i]? = some x,
    fun i H => ∃ xs : List V, SqT K H a xs ∧ xs.length = i⟩
theorem turn_enumT {P : Program} {w : World} {K : PySem.W.Frag} {elts : List Expr} {kk : Nat} {tpos : Pos} {a e it : Addr} (ne : e ≠ it) (na : a ≠ it) (nea : e ≠ a) :
    Turn P w K (.Tuple elts kk tpos) (IteT K a) [e, it] e (fun i h => (∃ old, IsEnum h e it ((i : Nat) : Int) old) ∧ h.IsTupleIter it a i) where
  mem := by simp
  obj := fun i h st c hc => by
    obtain ⟨⟨old, he⟩, ⟨o, ho, _, hd⟩⟩ := st
    simp only [List.mem_cons, List.not_mem_nil, or_false] at hc
    rcases hc with q | q
    · subst q; exact ⟨_, he, fun v q => nomatch q⟩
    · subst q; exact ⟨o, ho, fun v q => by rw [hd] at q; cases q⟩
  keep := fun i h h' st k => by
    obtain ⟨⟨old, he⟩, hi⟩ := st
    exact ⟨⟨old, k _ (by simp) _ he⟩, hi.at fun o q => k _ (by simp) o q⟩
  item := by
    intro X hP hw hK hc i pins s σ H E I hf st hg
    subst hP hw hK
    obtain ⟨⟨old, he⟩, h1⟩ := st
    obtain ⟨xs, x, hqx, hx⟩ := hg
    obtain ⟨its, rv, p, _⟩ := I.tuple hqx
    obtain ⟨u, hu, ru⟩ := rv.get hx
    have hh : X.A.in1.handled = none := I.ok.hd hc
    have hp : s.heap.IsTuple a its.toArray := p
    have Wt := WalksT.enumFrom (prog := X.prog) (w := X.w) (A := X.A) 0 (Draws.tuple hh it a na its.toArray) e ne (by simp [ne, nea]) (by simp)
    have l1 : i < its.toArray.size := by
      have := (List.getElem?_eq_some_iff.mp hu).1
      simpa using this
    have z0 : (0 : Int) + (i : Int) = (i : Int) := Int.zero_add _
    refine Wt.item i s _ _ l1 ⟨⟨old, by rw [z0]; exact he⟩, h1, hp⟩ fun T vals h' tk hv hT hTT mid kp => ?_
    obtain ⟨t, x1, g1, rfl⟩ := hv
    have ap := Wt.apart _ _ _ mid
    refine ⟨_, rfl, Wt.go elts kk tpos i T { s with heap := h', toks := tk } _ _ mid fun h'' st'' kp' => ?_⟩
    obtain ⟨⟨old2, z1⟩, z2, _⟩ := st''
    have e1 : x1 = u := by
      have q : its.toArray[i]? = some x1 := g1
      simp only [List.getElem?_toArray] at q
      exact Option.some.inj (q.symm.trans hu)
    subst e1
    rw [z0] at hTT
    obtain ⟨oT, oT1, oT2, nT, oT3⟩ := hTT
    have new : ObjOk X.prog X.w (upd H T (.tup [.int (i : Nat), x])) h'' T (.tup [.int (i : Nat), x]) := ⟨by show 2 ≤ sizeLine; decide, [.int i t, x1], .cons ⟨_, rfl⟩ (.cons ru .nil), ⟨oT, kp' _ _ ap oT1, oT2, nT, oT3⟩⟩
    have I1 : Inv X pins σ (upd H T (.tup [.int (i : Nat), x])) { s with heap := h'', toks := tk } :=
      I.turnedNew (ch := [e, it]) (fun c o hb q => kp' _ _ hb (kp _ _ hb q)) hf hT new
    refine ⟨.ref T, _, I1, rfl, ⟨T, x, rfl, I.hok.fresh hT, rfl, fun l hl => by rw [I.tuple_inj hl hqx]; exact hx⟩, ⟨⟨old2, ?_⟩, z2⟩, fun c hcm => ?_⟩
    · have q : (0 : Int) + ((i + 1 : Nat) : Int) = ((i + 1 : Nat) : Int) := Int.zero_add _
      rw [q] at z1
      exact z1
    have hlt : c < s.heap.objs.size := by
      simp only [List.mem_cons, List.not_mem_nil, or_false] at hcm
      obtain ⟨_, e2, _⟩ := h1
      rcases hcm with q | q
      · subst q; exact Heap.lt_size he
      · subst q; exact Heap.lt_size e2
    rw [upd_ne (Nat.ne_of_lt (Nat.lt_of_lt_of_le hlt hT))]
    exact (hf c hcm).1
  done := by
    intro X hP hw hK hc i pins s σ H E I hf st hg
    subst hP hw hK
    obtain ⟨⟨old, he⟩, h1⟩ := st
    obtain ⟨xs, hqx, lx⟩ := hg
    obtain ⟨its, rv, p, _⟩ := I.tuple hqx
    have hh : X.A.in1.handled = none := I.ok.hd hc
    have hp : s.heap.IsTuple a its.toArray := p
    have Wt := WalksT.enumFrom (prog := X.prog) (w := X.w) (A := X.A) 0 (Draws.tuple hh it a na its.toArray) e ne (by simp [ne, nea]) (by simp)
    have q : its.toArray.size = i := by
      have q1 := rv.length
      simp only [List.size_toArray]
      omega
    refine Wt.done s _ _ ?_ fun h' tk kp => ⟨rfl, I.turnedL (ch := [e, it]) (fun c o hb q => kp _ _ hb q) hf⟩
    rw [q]
    have z0 : (0 : Int) + (i : Int) = (i : Int) := Int.zero_add _
    exact ⟨⟨old, by rw [z0]; exact he⟩, h1, hp⟩
  self := fun A i s Q E st h => let ⟨⟨_, he⟩, _⟩ := st; wpAny_pyIter_enum he h
def iEnumT (K : PySem.W.Frag) (ta : TA) : TI := fun σ H R => ta σ H fun vs H1 => ∃ a xs, vs = [.ref a] ∧ SqT K H1 a xs ∧ R (IteT K a) H1
theorem pi_enumT {X : Cx} {e : Expr} {ta : TA} {p pos tpos : Pos} {elts : List Expr} {kk : Nat} (hg : Gl X "enumerate") (hm : X.mg "enumerate" = none) (ha : PA X [e] ta) (hs : starEach [e] X.env = (false, eval e X.env) :: starEach [] X.env := by rfl) :
    PI X (.Tuple elts kk tpos) (.Call (.Name "enumerate" p) [e] [] pos) (iEnumT X.K ta) := by
  refine ⟨fun pins s σ H R I h => ?_⟩
  refine Call_ (ld_blt I hg hm boot_enumerate (PyProof.Rows.callWith_type1 (thn (ha.run pos pins s σ H _ I h) fun us s1 ⟨vs, H1, I1, r1, q1⟩ => ?_) hs rfl))
  obtain ⟨a, xs, ex, hqx, q⟩ := q1
  subst ex
  obtain ⟨u, rfl, ru⟩ := vals1 r1
  obtain rfl : u = Value.ref a := ru
  obtain ⟨its, rv, p1, _⟩ := I1.tuple hqx
  have la : a < s1.heap.objs.size := p1.lt
  have hp1 : s1.heap.IsTuple a its.toArray := p1
  refine call_enum_tup hp1 fun h' he hit hk => wpAny_pyIter_enum he ?_
  have I2 : Inv X pins σ H1 { s1 with heap := h' } := I1.kept (t' := s1.toks) hk
  refine ⟨s1.heap.objs.size + 1, [s1.heap.objs.size + 1, s1.heap.objs.size], _, _, H1, rfl, I2,
    turn_enumT (Nat.succ_ne_self _) (Nat.ne_of_lt la) (Nat.ne_of_gt (Nat.lt_succ_of_lt la)), ⟨⟨.none, he⟩, hit⟩, fun c hcm => ?_, q⟩
  have hle : s1.heap.objs.size ≤ c := by
    simp only [List.mem_cons, List.not_mem_nil, or_false] at hcm
    rcases hcm with q | q
    · rw [q]; exact Nat.le_add_right _ _
    · rw [q]; exact Nat.le_refl _
  exact I1.fpOk hle (I1.hok.fresh hle)

/-! ### sorted(a list of data): some arrangement of it -/
theorem perm_each {α β : Type} {R : α → β → Prop} {as : List α} {bs : List β} (h : PySem.W.EachIs R as bs) : Paired R as bs := by
  induction h with
  | nil => exact .nil
  | cons r _ ih => exact .cons r ih
theorem each_of_vals {xs : List V} {us : List Value} (r : Vals xs us) : PySem.W.EachIs (fun u x => RelV x u) us xs := by
  induction r with
  | nil => exact .nil
  | cons r _ ih => exact .cons r ih
theorem vals_of_each {xs : List V} {us : List Value} (r : PySem.W.EachIs (fun u x => RelV x u) us xs) : Vals xs us := by
  induction r with
  | nil => exact .nil
  | cons r _ ih => exact .cons r ih
theorem each_reads {X : Cx} {pins : List (Addr × Obj)} {σ : L2.St} {H : Hp} {s : Shared} (I : Inv X pins σ H s) {k : V → PyData} {xs : List V} {us : List Value} (r : Vals xs us) (h : ∀ x ∈ xs, Dp X.K H x (k x)) :
    PySem.W.EachIs (fun v b => ∃ as, Reads s.heap v (k b) as) us xs := by
  induction r with
  | nil => exact .nil
  | cons r _ ih => exact .cons (Dp.reads I _ _ _ (h _ List.mem_cons_self) r) (ih fun x hx => h x (List.mem_cons_of_mem _ hx))
def rSortD (K : PySem.W.Frag) : List V → Hp → VK → Prop := fun vs H Q => ∃ (a : Addr) (xs : List V) (k : V → PyData), vs = [V.ref a] ∧ SqL K H a xs ∧ (∀ x ∈ xs, Dp K H x (k x)) ∧
  PySem.W.AllAlike (xs.map k) ∧ PySem.W.Sortable (xs.map k) ∧ (∀ x ∈ xs, (k x).depth ≤ 60) ∧ ∀ ys p, ys.Perm xs → H p = none → Q (.ref p) (upd H p (.lst ys))
theorem cr_sortD {X : Cx} (hu : X.A.units + 64 < cLine) : CallR X (.builtin "sorted") (rSortD X.K) := by
  intro pins s σ H vs us Q I r h
  obtain ⟨a, xs, k, rfl, hs, hd, hal, hk, hdp, q⟩ := h
  obtain ⟨its, rv, hl, hz⟩ := I.list hs
  obtain ⟨u, rfl, ru⟩ := vals1 r
  obtain rfl : u = Value.ref a := ru
  refine PySem.W.sorted_data (enc := k) (R := fun u x => RelV x u) hl.isList (each_of_vals rv) (each_reads I rv hd) hal hk hz (fun b hb => by have := hdp b hb; omega) fun out ho he => ?_
  obtain ⟨c, hc⟩ := sortedAll_at s.heap its (List.toArray out)
  have hv : Vals (xs.mergeSort (PySem.W.dataLe false k)) out := vals_of_each he
  have hp : (xs.mergeSort (PySem.W.dataLe false k)).Perm xs := List.mergeSort_perm _ _
  have hle : s.heap.objs.size ≤ s.heap.objs.size + 1 := Nat.le_succ _
  refine ⟨.ref (s.heap.objs.size + 1), upd H (s.heap.objs.size + 1) (.lst (xs.mergeSort (PySem.W.dataLe false k))), I.laid (t' := s.toks) (fun b o e => sortedAll_old e) hle ⟨by rw [hp.length_eq]; exact hz, out, c, hv, hc⟩, rfl, q _ _ hp (I.hok.fresh hle)⟩

/-! ### list(range(a, b, -1)) -/
def downV (i j : Int) : List V := (List.range (i - j).toNat).map fun k => V.int (i - (k : Nat))
def tLstDown (ta : TA) : TE := fun σ H Q => ta σ H fun vs H3 => ∃ i j : Int, vs = [.int i, .int j, .int (-1)] ∧ (-(2 ^ 62) ≤ i ∧ i < 2 ^ 62 ∧ -(2 ^ 62) ≤ j ∧ j < 2 ^ 62 ∧ (i - j).toNat ≤ 1000) ∧
  ∀ q, H3 q = none → Q (.ref q) (upd H3 q (.lst (downV i j)))
theorem vals_down {i j : Int} {acc : Array Value} (h : ItemsOf (fun k v => ∃ t, v = .int (i + k * (-1)) t) acc (i - j).toNat) : Vals (downV i j) acc.toList := by
  have e : acc.toList.length = (i - j).toNat := by rw [Array.length_toList]; exact h.1
  unfold downV
  rw [← e]
  refine vals_of_get acc.toList _ fun n u hn => ?_
  obtain ⟨t, rfl⟩ := h.2 n u (by rw [← hn, Array.getElem?_toList])
  refine ⟨t, ?_⟩
  have q : i + (n : Int) * (-1) = i - (n : Int) := by omega
  rw [q]
theorem pe_listDown {X : Cx} {a b c : Expr} {ta : TA} {p pos p2 pos2 : Pos} (hc : X.calm = true) (hg : Gl X "list") (hm : X.mg "list" = none) (hg2 : Gl X "range") (hm2 : X.mg "range" = none) (pa : PA X [a, b, c] ta)
    (ns : starEach [.Call (.Name "range" p2) [a, b, c] [] pos2] X.env = (false, eval (.Call (.Name "range" p2) [a, b, c] [] pos2) X.env) :: starEach [] X.env := by rfl)
    (na : starEach [a, b, c] X.env = (false, eval a X.env) :: starEach [b, c] X.env := by rfl) (hpl : (backTo pos2 (starEach [b, c] X.env)).any (·.1) = false := by rfl) :
    PE X (.Call (.Name "list" p) [.Call (.Name "range" p2) [a, b, c] [] pos2] [] pos) (tLstDown ta) := by
  refine ⟨fun pins s σ H Q I h => ?_⟩
  refine Call_ (ld_blt I hg hm boot_list (PyProof.Rows.callWith_type1 (args_cons (Call_ (ld_blt I hg2 hm2 boot_range (PyProof.Rows.callWith_type1 (thn (pa.run pos2 pins s σ H _ I h) fun us s1 ⟨vs, H1, I1, r1, q1⟩ => ?_) na hpl))) ns) ns))
  obtain ⟨i, j, rfl, ⟨b1, b2, b3, b4, b5⟩, q⟩ := q1
  cases r1 with
  | cons r rr =>
    obtain ⟨u2, u3, rfl, r2, r3⟩ := vals2 rr
    obtain ⟨t, rfl⟩ := r
    obtain ⟨t', rfl⟩ := r2
    obtain ⟨t'', rfl⟩ := r3
    obtain ⟨c0, c1, c2, c3⟩ := RgC.neg b1 b2 b3 b4
    refine call_range_3 c0 ?_ (.inl (PyProof.noPylong_small c1))
    have I2 : Inv X pins σ H1 { s1 with heap := s1.heap.push { cls := .type "range", data := .fields #[.int i t, .int j t', .int (-1) t''] } } := I1.kept (t' := s1.toks) fun b o e => Heap.get?_push_of_some _ e
    refine args_nil (call_list_range (n := (i - j).toNat) (I2.ok.hd hc) (IsRange.new ..) c2 c3 (by omega) fun h' tk acc c' hk e' hi => ?_)
    refine ⟨.ref _, upd H1 _ (.lst (downV i j)), I2.laid hk (Nat.le_refl _) (show ObjOk X.prog X.w _ _ _ (.lst (downV i j)) from ⟨?_, acc.toList, c', vals_down hi, ?_⟩), rfl, q _ (I2.hok.fresh (Nat.le_refl _))⟩
    · unfold downV
      rw [List.length_map, List.length_range, sizeLine_eq]
      omega
    · rw [Array.toArray_toList]
      exact e'
end TBR
/-! repr of a tuple of texts, where no repr is under way: in the law's own def alone; the law's end with that known. -/
namespace TBR
open PySem PySem.Spec PyProof.Rows L2

def shownT (l : List Str) : Str := tupleText (l.map reprText)
theorem shown_strs : ∀ l : List Str, PyData.shownAll (l.map PyData.str) = l.map reprText
  | [] => by simp [PyData.shownAll]
  | x :: l => by simp [PyData.shownAll, PyData.shown, shown_strs l]
theorem showable_strs : ∀ l : List Str, PyData.showableAll (l.map PyData.str) = true
  | [] => by simp [PyData.showableAll]
  | x :: l => by simp [PyData.showableAll, PyData.showable, showable_strs l]
theorem noDict_strs : ∀ l : List Str, PyData.hasDictAll (l.map PyData.str) = false
  | [] => by simp [PyData.hasDictAll]
  | x :: l => by simp [PyData.hasDictAll, PyData.hasDict, noDict_strs l]
theorem depth_strs : ∀ l : List Str, PyData.depthAll (l.map PyData.str) = 0
  | [] => by simp [PyData.depthAll]
  | x :: l => by simp [PyData.depthAll, PyData.depth, depth_strs l]
theorem dpAll_strs {K : PySem.W.Frag} {H : Hp} : ∀ l : List Str, DpAll K H (l.map V.str) (l.map PyData.str)
  | [] => .nil
  | x :: l => .cons (.str x) (dpAll_strs l)
/-- repr(a tuple of texts) -/
theorem call_repr_strs {X : Cx} (hG : X.A.guards = some []) (hu : X.A.units + 64 < cLine) : CallR X (.builtin "repr") (fun xs H Q => ∃ (a : Addr) (l : List Str), xs = [.ref a] ∧ SqT X.K H a (l.map V.str) ∧
    (∀ y ∈ l, ∀ c ∈ y.cps.toList, c < 16 ^ 8) ∧ fmtCost l + 7 ≤ sizeLine ∧ Q (.str (shownT l)) H) := by
  intro pins s σ H xs us Q I r h
  obtain ⟨a, l, rfl, hs, hc, hz, q⟩ := h
  obtain ⟨u, rfl, ru⟩ := vals1 r
  obtain rfl : u = Value.ref a := ru
  obtain ⟨as, rd⟩ := Dp.reads I (.tuple (l.map .str)) _ _ (.tup hs (dpAll_strs l)) (show RelV (.ref a) (Value.ref a) from rfl)
  have e : (PyData.tuple (l.map .str)).shown = shownT l := by
    simp only [PyData.shown]
    rw [shown_strs]
    rfl
  have hd : (PyData.tuple (l.map .str)).depth = 1 := by
    simp only [PyData.depth]
    rw [depth_strs]
  have hp := fmt_piled l hc
  have ht := fmt_text (l.map reprText)
  refine repr_of_reads' rd (by simp only [PyData.showable]; exact showable_strs l) (PyData.noDict_hsm (by simp only [PyData.hasDict]; exact noDict_strs l)) hG (by omega) (fun _ _ z => z) (fun h' t tk hk => ?_) (by rw [e]; unfold shownT; omega)
  rw [e]
  exact ⟨.str (shownT l), H, I.kept hk, ⟨t, rfl⟩, q⟩

/-! ### the law's def at the caller's place -/
/-- what the law's call gives, the caller's stack known -/
def RunAt (P : Program) (w : World) (K : PySem.W.Frag) (mg : Str → Option Value) (base : Heap) (f : Addr) (fd : FuncData) (ps : List Str) (sp : Sp) : Prop :=
  ∀ (s : Shared) (H : Hp) (args : Args) (us : List Value) (vs : List V) (Q : VK), Env0 P w K mg base callerA [] s H → BindsTo s fd args (ps.zip us) → Vals vs us → sp vs H Q (fun _ _ _ => False) →
    codeAny (model P w) callerA (.call (.ref f) args) (CR CX0 [] P w H s Q (fun _ _ _ => False)) s
theorem run_at {P : Program} {w : World} {K : PySem.W.Frag} {mg : Str → Option Value} {base : Heap} {x qual : Str} {st : Stmt} {f : Addr} {fd : FuncData} {N ps : List Str} {k : Nat} {sp : Sp} (F : Fun K x qual st f fd) (S : FnScope N ps (defScope st))
    (len : ∀ vs H Q E, sp vs H Q E → vs.length = ps.length) (hroom : Room (k + 1) callerA)
    (hbody : ∀ (cdv : Value) (s : Shared) (H : Hp) (vs : List V) (Q : VK), Room k (callerA.deeper (envOfC qual (defScope st) s.heap.objs.size f cdv)) → (callerA.deeper (envOfC qual (defScope st) s.heap.objs.size f cdv)).guards = some [] → sp vs H Q (fun _ _ _ => False) →
      ∃ t, PSs (cxOf CX0 P w K mg base N qual (defScope st) f cdv callerA [] s H (fun _ _ _ => False)).nox (defBody st) t ∧ t { nx := fun _ H' => Q .non H', rt := Q } (start N vs) H) : RunAt P w K mg base f fd ps sp := by
  obtain ⟨oc, od, kV, doc, pm, an, cdv, ct, osl, rfl, lk, hcd⟩ := F.ex
  intro s H args us vs Q e0 hb r hsp
  have hl : vs.length = ps.length := len _ _ _ _ hsp
  have kb : ∀ b o, base.get? b = some o → s.heap.get? b = some o := fun b o z => (e0.bs b o z).1
  have KX : K.In s.heap := e0.mod.kin.keeps kb
  have kinds : ∀ y ∈ ps.zip us, (defScope st).names.lookup y.1 = some .local ∨ ((defScope st).names.lookup y.1 = some .cell ∧ ((cellsFrom (s.heap.objs.size + 1) (defScope st).names []).lookup y.1).isSome = true) := by
    rintro ⟨n, v⟩ hy
    have hn := S.par n (List.of_mem_zip hy).1
    rcases hn with z | z
    · exact Or.inl z
    · exact Or.inr ⟨z, PySem.W.cellsFrom_some _ _ _ (Or.inl z)⟩
  refine codeAny_call_function hroom.depth (KX _ _ lk) rfl S.co S.gen rfl (PySem.W.codeRec_of KX hcd) (hb _ _ _ _ ?_)
  refine wpAny_newFunctionEnv_cells S.kind kinds fun env he s1 x => ?_
  subst he
  refine ⟨(e0.mod.nolimit.keeps kb).keeps x.toInCall.keep, codeAny_func ?_⟩
  obtain ⟨t, ht, hq⟩ := hbody cdv s H vs Q (hroom.deeper _) rfl hsp
  have I := inv_start (CX := CX0) (E := fun _ _ _ => False) S hroom.hd e0 hl r x
  refine wpAny_mono (ht.nox.run [] s1 (start N vs) H _ I hq) (fun fl s' hs => ?_) (fun e s' hs => hs)
  cases fl with
  | ret u =>
    obtain ⟨v, σ', H', J, rv, q⟩ := hs
    exact ⟨v, H', J.os, J.bare, J.base, J.hok, rv, q⟩
  | next =>
    obtain ⟨σ', H', J, q⟩ := hs
    exact ⟨.non, H', J.os, J.bare, J.base, J.hok, rfl, q⟩
  | brk =>
    obtain ⟨_, _, _, q⟩ := hs
    exact q.elim
  | cont =>
    obtain ⟨_, _, _, q⟩ := hs
    exact q.elim
/-- the abstract heap in which the script alone is known -/
def scriptH (a : Addr) (o : Obj) (xs : List V) : Hp := fun b => if b = a then some (.frz o (.lst xs)) else none
theorem law_at {P : Program} {w : World} {K : PySem.W.Frag} {mg mb : Str → Option Value} {fa a : Addr} {fd : FuncData} {x : Str} {sp : Sp} {s₁ : Shared} {vs : List Value} {ns : List Int}
    (KX : K.In s₁.heap) (hns : s₁.heap.Ns mainGlobals mg) (hb : s₁.heap.Ns builtinsNs mb) (hbb : ∀ x : Str, x ≠ "__name__" → mb x = bootBuiltins x) (hlim : s₁.heap.NoLimit) (hg : s₁.gens = #[])
    (ha : s₁.heap.get? a = some { cls := .type "list", data := .seq vs.toArray }) (hi : IntsAre vs ns) (hl : ns.length ≤ sizeLine)
    (F : ∀ base : Heap, K.In base → base.Ns mainGlobals mg → RunAt P w K mg base fa fd [x] sp) (hbind : ∀ (s : Shared) (u : Value), BindsTo s fd ⟨[u], []⟩ [(x, u)])
    (hsp : ∀ H : Hp, Only H → SqL K H a (ns.map V.int) → sp [.ref a] H (fun v _ => v = .bl true) fun _ _ _ => False) :
    codeAny (model P w) callerA (.call (.ref fa) ⟨[.ref a], []⟩) (fun r s' => r = .ok (.ret (.bool true)) ∧ OldK s₁.heap s'.heap ∧ s'.os = s₁.os ∧ AllBare s'.gens) s₁ := by
  have rv : Vals (ns.map V.int) vs := vals_ints hi
  have lv : vs.length = ns.length := hi.length
  have main : ∀ H : Hp, Only H → SqL K H a (ns.map V.int) → HOk P w H s₁.heap → (∀ b u, H b = some u → b = a) → (∀ u, H a = some u → K.lookup a = none) →
      codeAny (model P w) callerA (.call (.ref fa) ⟨[.ref a], []⟩) (fun r s' => r = .ok (.ret (.bool true)) ∧ OldK s₁.heap s'.heap ∧ s'.os = s₁.os ∧ AllBare s'.gens) s₁ := by
    intro H hO hS hok hA hK
    have nd : ∀ {b : Addr} {o : Obj} {es : Array DictEntry} {ep : Nat}, s₁.heap.get? b = some o → o.data = .dict es ep → H b = none := by
      intro b o es ep e d
      cases q : H b with
      | none => rfl
      | some u =>
        obtain rfl := hA b u q
        rw [ha] at e
        cases e
        cases (show Data.seq vs.toArray _ = Data.dict es ep from d)
    have keepNs : ∀ {b : Addr} {m : Str → Option Value}, s₁.heap.Ns b m → (hidT s₁.heap H).Ns b m := by
      rintro b m ⟨o, es, ep, e, d, r⟩
      exact ⟨o, es, ep, hidT_get e (nd e d), d, r⟩
    have kb : K.In (hidT s₁.heap H) := fun b o e => hidT_get (KX b o e) (by
      cases q : H b with
      | none => rfl
      | some u =>
        obtain rfl := hA b u q
        rw [hK u q] at e
        cases e)
    obtain ⟨mc, lim1, lim2⟩ := hlim
    have e0 : Env0 P w K mg (hidT s₁.heap H) callerA [] s₁ H := by
      refine ⟨rfl, ⟨kb, keepNs hns, ⟨mb, keepNs hb, hbb⟩, ⟨mc, keepNs lim1, lim2⟩⟩, fun b o e => of_hidT e, Nat.le_of_eq (hidT_size _ _), trivial, fun b hb => ?_, hok, .of_eq hg⟩
      exact absurd (show b ∈ ([] : List Addr) from hb) List.not_mem_nil
    refine codeAny_mono (F _ kb (keepNs hns) s₁ H ⟨[.ref a], []⟩ [.ref a] [.ref a] _ e0 (hbind s₁ (.ref a)) (.cons rfl .nil) (hsp H hO hS)) fun r s' h => ?_
    cases r with
    | error e => exact h.elim
    | ok fl =>
      cases fl with
      | next => exact h.elim
      | brk => exact h.elim
      | cont => exact h.elim
      | ret u =>
        obtain ⟨v, H', h1, h2, h3, h4, h5, h6⟩ := h
        have e6 : v = .bl true := h6
        subst e6
        obtain rfl : u = Value.bool true := h5
        refine ⟨rfl, OldK.of_keep fun b o e => ?_, h1, h2⟩
        cases q : H b with
        | none => exact h3.keep b o e q (fun z => absurd (show b ∈ ([] : List Addr) from z) List.not_mem_nil) List.not_mem_nil
        | some u =>
          rcases hO b with z | ⟨ob, xs, z⟩
          · rw [q] at z
            cases z
          · have o1 := (hok b _ z).1
            have o2 := (h4 b _ (h3.frzs b ob _ z)).1
            rw [e] at o1
            cases o1
            exact o2
  cases hk : K.lookup a with
  | some o =>
    have e := KX a o hk
    rw [ha] at e
    cases e
    refine main (fun _ => none) (fun _ => Or.inl rfl) (Or.inr ⟨_, vs.toArray, _, hk, rfl, rfl, rfl, by rw [List.size_toArray, lv]; exact hl, by simpa using rv⟩) (fun b u z => nomatch z) (fun b u z => nomatch z) fun u z => nomatch z
  | none =>
    have at_ : scriptH a { cls := .type "list", data := .seq vs.toArray } (ns.map V.int) a = some (.frz { cls := .type "list", data := .seq vs.toArray } (.lst (ns.map V.int))) := if_pos rfl
    have off : ∀ {b}, b ≠ a → scriptH a { cls := .type "list", data := .seq vs.toArray } (ns.map V.int) b = none := fun h => if_neg h
    refine main (scriptH a { cls := .type "list", data := .seq vs.toArray } (ns.map V.int)) (fun b => ?_) (Or.inl (Or.inr ⟨_, at_⟩)) (fun b u z => ?_) (fun b u z => ?_) fun _ _ => hk
    · by_cases e : b = a
      · subst e
        exact Or.inr ⟨_, _, at_⟩
      · exact Or.inl (off e)
    · by_cases e : b = a
      · subst e
        rw [at_] at z
        cases z
        exact ⟨ha, by rw [List.length_map]; exact hl, vs, _, rv, ha⟩
      · rw [off e] at z
        cases z
    · by_cases e : b = a
      · exact e
      · rw [off e] at z
        cases z
/-- the goal that the head leaves -/
theorem walk_at {l : PySem.W.OpenLaw} {n : Nat} {q : Program} {loose : List Str} {XP : (Str → Option Value) → Heap → Prop} {YP : World → Heap → Prop} {d : DefRec} {K : Params → PySem.W.Frag} {sp : PySem.W.Frag → Sp} {x : Str}
    (hn : l.most = some n) (hn2 : n ≤ sizeLine) (hdf : d.params.defaults = []) (hY : ∀ (w : World) (h : Heap), YP w h → (K w.params).In h)
    (F : ∀ (w : World) (mg : Str → Option Value) (fa : Addr) (h : Heap), (K w.params).In h → h.Ns mainGlobals mg → mg d.name = some (.ref fa) →
      ∃ fd : FuncData, (∀ (s : Shared) (u : Value), BindsTo s fd ⟨[u], []⟩ [(x, u)]) ∧ ∀ base : Heap, (K w.params).In base → base.Ns mainGlobals mg → RunAt l.prog w (K w.params) mg base fa fd [x] (sp (K w.params)))
    (hsp : ∀ (K : PySem.W.Frag) (H : Hp) (a : Addr) (ns : List Int), ns.length ≤ n → SqL K H a (ns.map V.int) → sp K [.ref a] H (fun v _ => v = .bl true) fun _ _ _ => False) :
    PySem.W.WalkO q loose XP YP l.row.toRowW d [] (fun f vs => PySem.call f vs) := by
  refine Att.attach_call hn hdf fun w s₀ s₁ mg mb fa o pm cd doc a vs ns G Y ho hd hcd hmg hobj hints hlen hg => ?_
  obtain ⟨fd, hb, hF⟩ := F w mg fa _ (hY w _ Y) G.T.g hmg
  exact law_at (hY w _ Y) G.T.g G.T.b G.T.builtins G.T.nolimit hg hobj hints (Nat.le_trans hlen hn2) hF hb fun H hO hS => hsp _ H a ns hlen hS
end TBR
/-! Tuples whose object is known to have no dict of its own (t.index asks it); defs by their names. -/
namespace TBR
open PySem PySem.Spec PyProof.Rows L2

/-- a tuple of xs at p, known to the object: it has no dict -/
def TupF (H : Hp) (p : Addr) (xs : List V) : Prop := ∃ o : Obj, o.dict = none ∧ H p = some (.frz o (.tup xs))
theorem TupF.t {K : PySem.W.Frag} {H : Hp} {p : Addr} {xs : List V} (h : TupF H p xs) : SqT K H p xs := let ⟨o, _, e⟩ := h; .inl (.inr ⟨o, e⟩)
theorem TupF.same {H H' : Hp} {p : Addr} {xs : List V} (s : Same H H') (h : TupF H p xs) : TupF H' p xs := let ⟨o, d, e⟩ := h; ⟨o, d, s _ _ e⟩
theorem TupF.new {H : Hp} {p : Addr} {xs : List V} {o : Obj} (d : o.dict = none) : TupF (upd H p (.frz o (.tup xs))) p xs := ⟨o, d, upd_same⟩
section
variable {X : Cx} {pins : List (Addr × Obj)} {σ : L2.St} {H : Hp} {s : Shared} {t' : Nat}
/-- a tuple just pushed -/
theorem Inv.tupF {xs : List V} {its : List Value} (I : Inv X pins σ H s) (hz : xs.length ≤ sizeLine) (r : Vals xs its) :
    Inv X pins σ (upd H s.heap.objs.size (.frz { cls := .type "tuple", data := .seq its.toArray } (.tup xs))) { s with heap := s.heap.push { cls := .type "tuple", data := .seq its.toArray }, toks := t' } :=
  I.laid (fun b o e => Heap.get?_push_of_some _ e) (Nat.le_refl _) ⟨Heap.get?_push_size _ rfl, hz, its, r, IsTup.new _ _⟩
/-- tuple(a list) -/
theorem call_tupF : CallR X (.type "tuple") (fun xs H Q => ∃ p ys, xs = [.ref p] ∧ SqL X.K H p ys ∧ ∀ (q : Addr) (o : Obj), H q = none → o.dict = none → Q (.ref q) (upd H q (.frz o (.tup ys)))) := by
  intro pins s σ H xs us Q I r h
  obtain ⟨p, ys, rfl, hq, q⟩ := h
  obtain ⟨u, rfl, rx⟩ := vals1 r
  obtain rfl : u = Value.ref p := rx
  obtain ⟨its, rv, pl, hz⟩ := I.list hq
  refine call_tuple_list pl.isList (fun h' kp => ?_) (by rw [List.size_toArray, ← rv.length]; exact hz)
  have I1 : Inv X pins σ H { s with heap := h' } := I.kept (t' := s.toks) kp
  exact ⟨.ref h'.objs.size, _, Inv.tupF (t' := s.toks) I1 hz rv, rfl, q _ _ (I1.hok.fresh (Nat.le_refl _)) rfl⟩
/-- t[lo:hi] -/
def rSlF (K : PySem.W.Frag) : V → Option Int → Option Int → Hp → VK → Prop := fun x lo hi H Q => ∃ a xs, x = .ref a ∧ SqT K H a xs ∧
  (HT.sIx xs.length 0 lo = 0 ∧ HT.sIx xs.length xs.length hi = xs.length → Q (.ref a) H) ∧
  (¬ (HT.sIx xs.length 0 lo = 0 ∧ HT.sIx xs.length xs.length hi = xs.length) → ∀ (p : Addr) (o : Obj), H p = none → o.dict = none → Q (.ref p) (upd H p (.frz o (.tup (cutV xs lo hi)))))
theorem sl_tupF : SlR X (rSlF X.K) := by
  intro pins s σ H x v vl vu lo hi sl Q I rx hs pl pu h
  obtain ⟨a, xs, rfl, hx, q1, q2⟩ := h
  obtain rfl : v = Value.ref a := rx
  obtain ⟨its, rv, ht, hz⟩ := I.tuple hx
  have hlen : its.toArray.size = xs.length := by rw [List.size_toArray]; exact rv.length.symm
  refine ⟨"tuple", _, PyProof.Rows.slot_tuple_getitem.lookup, ht.typeIs, ?_⟩
  by_cases hw : HT.sIx xs.length 0 lo = 0 ∧ HT.sIx xs.length xs.length hi = xs.length
  · exact getItem_tuple_whole ht hs pl pu (by rw [hlen]; exact hw) ⟨.ref a, H, I, rfl, q1 hw⟩
  · refine HT.getItem_tuple_cut ht hs pl pu (by rw [hlen]; exact hw) ?_ (by rw [hlen]; exact hz)
    rw [hlen]
    have rc := (rv.drop (HT.sIx xs.length 0 lo)).take (HT.sIx xs.length xs.length hi - HT.sIx xs.length 0 lo)
    have I1 := Inv.tupF (t' := s.toks) I (xs := cutV xs lo hi) (Nat.le_trans (cutV_length xs lo hi) hz) rc
    exact ⟨.ref s.heap.objs.size, _, I1, rfl, q2 hw _ _ (I.hok.fresh (Nat.le_refl _)) rfl⟩
/-- t + u -/
def rCatF (K : PySem.W.Frag) : R2 := fun x y H Q => ∃ a b xs ys, x = .ref a ∧ y = .ref b ∧ SqT K H a xs ∧ SqT K H b ys ∧ xs.length + ys.length ≤ sizeLine ∧
  (xs = [] → Q (.ref b) H) ∧ (xs ≠ [] → ys = [] → Q (.ref a) H) ∧ (xs ≠ [] → ys ≠ [] → ∀ (p : Addr) (o : Obj), H p = none → o.dict = none → Q (.ref p) (upd H p (.frz o (.tup (xs ++ ys)))))
theorem op_catF : OpR X (binaryOp .Add) (rCatF X.K) := by
  intro pins s σ H x y v u Q I rx ry h
  obtain ⟨a, b, xs, ys, rfl, rfl, ha, hb, hz, q0, q1, q2⟩ := h
  obtain rfl : v = Value.ref a := rx
  obtain rfl : u = Value.ref b := ry
  obtain ⟨its, r1, p1, _⟩ := I.tuple ha
  obtain ⟨its2, r2, p2, _⟩ := I.tuple hb
  by_cases hx : xs = []
  · subst hx
    cases r1
    exact cat_tup0 p1 p2 ⟨.ref b, H, I, rfl, q0 rfl⟩
  · have l1 := r1.length
    have l2 := r2.length
    have e1 : its ≠ [] := fun z => by
      subst z
      exact hx (List.length_eq_zero_iff.mp l1)
    refine HT.cat_tup p1 p2 e1 (fun z => ⟨.ref a, H, I, rfl, q1 hx (List.length_eq_zero_iff.mp (by rw [l2, z]; rfl))⟩) (fun z => ?_) (by omega)
    have I1 := Inv.tupF (t' := s.toks) I (xs := xs ++ ys) (by rw [List.length_append]; exact hz) (r1.append r2)
    refine ⟨.ref s.heap.objs.size, _, I1, rfl, q2 hx (fun w => z ?_) _ _ (I.hok.fresh (Nat.le_refl _)) rfl⟩
    subst w
    exact List.length_eq_zero_iff.mp l2.symm
end
/-- t.index(x), x there -/
def rIndT (K : PySem.W.Frag) : V → List V → Hp → VK → Prop := fun x xs H Q => ∃ p, ∃ ys : List Str, ∃ z j, x = .ref p ∧ xs = [.str z] ∧ SqT K H p (ys.map V.str) ∧ ys[j]? = some z ∧ (∀ m, m < j → ys[m]? ≠ some z) ∧ Q (.int (j : Nat)) H
def tIndF (K : PySem.W.Frag) (to : TE) (t : TA) : TE := fun σ H Q => to σ H fun x H1 => (∃ p xs, x = .ref p ∧ TupF H1 p xs) ∧ t σ H1 fun ys H2 => rIndT K x ys H2 Q
theorem pe_indF {X : Cx} {o e : Expr} {to : TE} {t : TA} {apos cpos : Pos} (ho : PE X o to) (ha : PA X [e] t)
    (hbase : attributeBase o "index" X.env (eval o X.env) = eval o X.env := by rfl)
    (hfew : ((backTo cpos (starEach [e] X.env)).all (fun x => !x.1) && (backToKw cpos (keywordEach [] X.env)).all (fun x => x.1.isSome)
      && decide (([e] : List Expr).length + ([] : List Keyword).length + (if ([] : List Keyword).isEmpty then 0 else 1) < 30)) = true := by rfl)
    (hline : (apos.endLine == cpos.line) = true := by rfl) (hs : starEach [e] X.env = (false, eval e X.env) :: starEach [] X.env := by rfl) (hpl : (backTo cpos (starEach [] X.env)).any (·.1) = false := by rfl) :
    PE X (.Call (.Attribute o "index" apos) [e] [] cpos) (tIndF X.K to t) := by
  refine ⟨fun pins s σ H Q I h => ?_⟩
  refine wpAny_Call_method_late hbase hfew hline rfl (thn (ho.run pins s σ H _ I h) fun v s1 ⟨x, H1, I1, r1, ⟨p, xs, ex, ⟨ob, hd, hf⟩⟩, q1⟩ => ?_)
  subst ex
  obtain rfl : v = Value.ref p := r1
  have o1 := (I1.hok p _ hf).1
  have ty : s1.TypeIs (.ref p) "tuple" := by
    obtain ⟨its, rv, pl, _⟩ := I1.tuple (xs := xs) (Or.inl (Or.inr ⟨ob, hf⟩))
    exact pl.typeIs
  refine ⟨"tuple", _, PySem.F.plainAttrs_tuple, PySem.F.slot_tuple_index, PySem.F.type_tuple_index, ty, fun a ea => ?_, ?_⟩
  · cases ea
    exact ⟨ob, o1, hd⟩
  · have hA := ha.run cpos pins s1 σ H1 _ I1 q1
    rw [hs] at hA ⊢
    refine Calls.callWith_builtin (by show (false || (backTo cpos (starEach [] X.env)).any (·.1)) = false; rw [hpl]; rfl) (Calls.evalArgs_plain ?_)
    exact thn hA fun us s2 ⟨vs, H2, I2, r2, q2⟩ => mt_tup_index pins s2 σ H2 (.ref p) vs (Value.ref p) us Q I2 rfl r2 q2

/-! ### defs by their names -/
structure Df (K : PySem.W.Frag) (mg : Str → Option Value) (x : Str) (st : Stmt) : Prop where
  ex : ∃ f fd, Fun K x x st f fd ∧ mg x = some (.ref f)
structure Cal (P : Program) (w : World) (K : PySem.W.Frag) (mg : Str → Option Value) (base : Heap) (k : Nat) (x : Str) (ps : List Str) (sp : Sp) : Prop where
  ex : ∃ f fd, FnOk P w K mg base CX0 k f fd ps sp ∧ mg x = some (.ref f) ∧ PySem.W.keepIn K (.ref f) = true ∧ Binds K fd ps []
theorem Df.cal {P : Program} {w : World} {K : PySem.W.Frag} {mg : Str → Option Value} {base : Heap} {k : Nat} {x : Str} {st : Stmt} {ps : List Str} {sp : Sp} (d : Df K mg x st)
    (b : ∀ (kV doc pm : Value) (an : Option Addr) (cdv ct : Value) (us : List Value), us.length = ps.length → bindArgs (PySem.W.fnOf x x (defArgs st) (defBody st) (defScope st) .none kV doc pm an cdv ct) ⟨us, []⟩ = pure (ps.zip us))
    (ok : ∀ f fd, Fun K x x st f fd → FnOk P w K mg base CX0 k f fd ps sp) : Cal P w K mg base k x ps sp := by
  obtain ⟨f, fd, F, hm⟩ := d.ex
  exact ⟨f, fd, ok f fd F, hm, F.kp, F.binds b⟩
theorem pe_k {X : Cx} {k j : Nat} {x : Str} {ps : List Str} {sp : Sp} {e : Expr} {es : List Expr} {t : TA} {p pos : Pos} (c : Cal X.prog X.w X.K X.mg X.base k x ps sp) (hr : Room j X.A) (hk : k ≤ j) (hg : Gl X x) (ha : PA X (e :: es) t)
    (hdb : (x == ("__debug__" : Str)) = false := by decide) (he : starEach (e :: es) X.env = (false, eval e X.env) :: starEach es X.env := by rfl) (hpl : (backTo pos (starEach es X.env)).any (·.1) = false := by rfl) :
    PE X (.Call (.Name x p) (e :: es) [] pos) (tCall sp [] E0 t) := by
  obtain ⟨f, fd, F, hm, kp, b⟩ := c.ex
  exact pe_call F (hr.mono hk) hg hm kp b .nil pass0 ha hdb he hpl
/-- the built-in names that the text uses are no names of the module -/
structure Blt (mg : Str → Option Value) : Prop where
  len : mg "len" = none
  min : mg "min" = none
  max : mg "max" = none
  abs : mg "abs" = none
  int : mg "int" = none
  list : mg "list" = none
  tuple : mg "tuple" = none
  dict : mg "dict" = none
  range : mg "range" = none
  sorted : mg "sorted" = none
  any : mg "any" = none
  repr : mg "repr" = none
  zip : mg "zip" = none
  enumerate : mg "enumerate" = none
  reversed : mg "reversed" = none
end TBR
/-! The text by its defs' places, their names by slot; how the program's values stand in the heap. -/
namespace TBW
open PySem PySem.Spec PyProof.Rows L2 TBR
def topS (i : Nat) : Stmt := PySem.Challenge.pw_touchboats_k23_whole_deeds_tell_the_plac.main.body.getD i (.Pass ⟨0, 0, 0, 0⟩)
abbrev s_races_of : Stmt := topS 1
theorem sc_races_of : FnScope ["meeting", "n", "size", "reach"] ["meeting", "n"] (defScope s_races_of) := ⟨rfl, rfl, rfl, by decide +kernel, rfl, by decide +kernel, by decide +kernel⟩
abbrev s_span : Stmt := topS 2
theorem sc_span : FnScope ["meeting", "n", "k", "size", "reach"] ["meeting", "n", "k"] (defScope s_span) := ⟨rfl, rfl, rfl, by decide +kernel, rfl, by decide +kernel, by decide +kernel⟩
abbrev s_exchanged : Stmt := topS 3
theorem sc_exchanged : FnScope ["row", "one", "other", "boats"] ["row", "one", "other"] (defScope s_exchanged) := ⟨rfl, rfl, rfl, by decide +kernel, rfl, by decide +kernel, by decide +kernel⟩
abbrev s_boats_between : Stmt := topS 5
theorem sc_boats_between : FnScope ["start", "event", "one", "other"] ["start", "event"] (defScope s_boats_between) := ⟨rfl, rfl, rfl, by decide +kernel, rfl, by decide +kernel, by decide +kernel⟩
abbrev s_goes_ahead : Stmt := topS 6
theorem sc_goes_ahead : FnScope ["start", "event"] ["start", "event"] (defScope s_goes_ahead) := ⟨rfl, rfl, rfl, by decide +kernel, rfl, by decide +kernel, by decide +kernel⟩
abbrev s_touches_in : Stmt := topS 7
theorem sc_touches_in : FnScope ["sheet", "event"] ["sheet"] (defScope s_touches_in) := ⟨rfl, rfl, rfl, by decide +kernel, rfl, by decide +kernel, by decide +kernel⟩
abbrev s_row_behind : Stmt := topS 8
theorem sc_row_behind : FnScope ["start", "sheet", "row", "event"] ["start", "sheet"] (defScope s_row_behind) := ⟨rfl, rfl, rfl, by decide +kernel, rfl, by decide +kernel, by decide +kernel⟩
abbrev s_strange_or_twice : Stmt := topS 9
theorem sc_strange_or_twice : FnScope ["start", "sheet", "met", "event", "boat"] ["start", "sheet"] (defScope s_strange_or_twice) := ⟨rfl, rfl, rfl, by decide +kernel, rfl, by decide +kernel, by decide +kernel⟩
abbrev s_touch_fault : Stmt := topS 10
theorem sc_touch_fault : FnScope ["start", "reach", "sheet", "event", "between", "boat", "other"] ["start", "reach", "sheet", "event"] (defScope s_touch_fault) := ⟨rfl, rfl, rfl, by decide +kernel, rfl, by decide +kernel, by decide +kernel⟩
abbrev s_is_crossed : Stmt := topS 11
theorem sc_is_crossed : FnScope ["start", "one", "other", "between"] ["start", "one", "other"] (defScope s_is_crossed) := ⟨rfl, rfl, rfl, by decide +kernel, rfl, by decide +kernel, by decide +kernel⟩
abbrev s_fault_of : Stmt := topS 12
theorem sc_fault_of : FnScope ["start", "reach", "sheet", "fault", "touches", "event", "number", "one", "other"] ["start", "reach", "sheet"] (defScope s_fault_of) := ⟨rfl, rfl, rfl, by decide +kernel, rfl, by decide +kernel, by decide +kernel⟩
abbrev s_length_of : Stmt := topS 13
theorem sc_length_of : FnScope ["start", "event"] ["start", "event"] (defScope s_length_of) := ⟨rfl, rfl, rfl, by decide +kernel, rfl, by decide +kernel, by decide +kernel⟩
abbrev s_order_of : Stmt := topS 14
theorem sc_order_of : FnScope ["start", "reach", "sheet", "fault", "order", "event", "length"] ["start", "reach", "sheet"] (defScope s_order_of) := ⟨rfl, rfl, rfl, by decide +kernel, rfl, by decide +kernel, by decide +kernel⟩
abbrev s_start_on : Stmt := topS 16
theorem sc_start_on : FnScope ["meeting", "row", "k", "first", "last"] ["meeting", "row", "k"] (defScope s_start_on) := ⟨rfl, rfl, rfl, by decide +kernel, rfl, by decide +kernel, by decide +kernel⟩
abbrev s_laid_on : Stmt := topS 17
theorem sc_laid_on : FnScope ["meeting", "row", "k", "some", "first", "last"] ["meeting", "row", "k", "some"] (defScope s_laid_on) := ⟨rfl, rfl, rfl, by decide +kernel, rfl, by decide +kernel, by decide +kernel⟩
abbrev s_races_going : Stmt := topS 18
theorem sc_races_going : FnScope ["meeting", "row"] ["meeting", "row"] (defScope s_races_going) := ⟨rfl, rfl, rfl, by decide +kernel, rfl, by decide +kernel, by decide +kernel⟩
abbrev s_day_behind : Stmt := topS 19
theorem sc_day_behind : FnScope ["meeting", "row", "day", "many", "k", "start", "word", "thing"] ["meeting", "row", "day"] (defScope s_day_behind) := ⟨rfl, rfl, rfl, by decide +kernel, rfl, by decide +kernel, by decide +kernel⟩
abbrev s_starts_of : Stmt := topS 20
theorem sc_starts_of : FnScope ["meeting", "row", "day", "found", "k", "start"] ["meeting", "row", "day"] (defScope s_starts_of) := ⟨rfl, rfl, rfl, by decide +kernel, rfl, by decide +kernel, by decide +kernel⟩
abbrev s_marks_of : Stmt := topS 22
theorem sc_marks_of : FnScope ["start", "sheet", "found", "event", "boat"] ["start", "sheet"] (defScope s_marks_of) := ⟨rfl, rfl, rfl, by decide +kernel, rfl, by decide +kernel, by decide +kernel⟩
abbrev s_partners_of : Stmt := topS 24
theorem sc_partners_of : FnScope ["sheet", "others", "event"] ["sheet"] (defScope s_partners_of) := ⟨rfl, rfl, rfl, by decide +kernel, rfl, by decide +kernel, by decide +kernel⟩
abbrev s_deeds_of : Stmt := topS 25
theorem sc_deeds_of : FnScope ["meeting", "row", "day", "boat", "kept", "starts", "k", "others", "mark"] ["meeting", "row", "day"] (defScope s_deeds_of) := ⟨rfl, rfl, rfl, by decide +kernel, rfl, by decide +kernel, by decide +kernel⟩
abbrev s_law_begin : Stmt := topS 27
theorem sc_law_begin : FnScope ["_law_script"] ["_law_script"] (defScope s_law_begin) := ⟨rfl, rfl, rfl, by decide +kernel, rfl, by decide +kernel, by decide +kernel⟩
abbrev s_law_next : Stmt := topS 28
theorem sc_law_next : FnScope ["_law_draws", "_law_many", "_law_cell", "_law_digit"] ["_law_draws", "_law_many"] (defScope s_law_next) := ⟨rfl, rfl, rfl, by decide +kernel, rfl, by decide +kernel, by decide +kernel⟩
abbrev s_law_names : Stmt := topS 29
theorem sc_law_names : FnScope ["_law_draws", "_law_many", "_law_letters", "_law_stem", "_law_step", "_law_first", "_law_k", "_law_at", "_law_found", "_law_far", "_law_sign", "_law_word_here"] ["_law_draws", "_law_many"] (defScope s_law_names) := ⟨rfl, rfl, rfl, by decide +kernel, rfl, by decide +kernel, by decide +kernel⟩
abbrev s_law_span : Stmt := topS 30
theorem sc_law_span : FnScope ["_law_meeting", "_law_n", "_law_k", "_law_size", "_law_first"] ["_law_meeting", "_law_n", "_law_k"] (defScope s_law_span) := ⟨rfl, rfl, rfl, by decide +kernel, rfl, by decide +kernel, by decide +kernel⟩
abbrev s_law_races : Stmt := topS 31
theorem sc_law_races : FnScope ["_law_meeting", "_law_n"] ["_law_meeting", "_law_n"] (defScope s_law_races) := ⟨rfl, rfl, rfl, by decide +kernel, rfl, by decide +kernel, by decide +kernel⟩
abbrev s_law_word : Stmt := topS 32
theorem sc_law_word : FnScope ["_law_draws", "_law_many", "_law_reach", "_law_marks", "_law_pile", "_law_k", "_law_way"] ["_law_draws", "_law_many", "_law_reach"] (defScope s_law_word) := ⟨rfl, rfl, rfl, by decide +kernel, rfl, by decide +kernel, by decide +kernel⟩
abbrev s_law_sheet : Stmt := topS 33
theorem sc_law_sheet : FnScope ["_law_start", "_law_marks", "_law_pile", "_law_events", "_law_boat", "_law_mark"] ["_law_start", "_law_marks"] (defScope s_law_sheet) := ⟨rfl, rfl, rfl, by decide +kernel, rfl, by decide +kernel, by decide +kernel⟩
abbrev s_law_after : Stmt := topS 34
theorem sc_law_after : FnScope ["_law_start", "_law_sheet_here", "_law_found", "_law_event"] ["_law_start", "_law_sheet_here"] (defScope s_law_after) := ⟨rfl, rfl, rfl, by decide +kernel, rfl, by decide +kernel, by decide +kernel⟩
abbrev s_law_day : Stmt := topS 35
theorem sc_law_day : FnScope ["_law_draws", "_law_meeting", "_law_row", "_law_sheets", "_law_starts", "_law_k", "_law_first", "_law_last", "_law_start", "_law_sheet_here"] ["_law_draws", "_law_meeting", "_law_row"] (defScope s_law_day) := ⟨rfl, rfl, rfl, by decide +kernel, rfl, by decide +kernel, by decide +kernel⟩
abbrev s_law_meet : Stmt := topS 36
theorem sc_law_meet : FnScope ["_law_draws", "_law_most", "_law_meeting", "_law_many"] ["_law_draws", "_law_most"] (defScope s_law_meet) := ⟨rfl, rfl, rfl, by decide +kernel, rfl, by decide +kernel, by decide +kernel⟩
abbrev s_law_marks_right : Stmt := topS 37
theorem sc_law_marks_right : FnScope ["_law_start", "_law_marks", "_law_reach", "_law_p", "_law_boat", "_law_mark", "_law_other", "_law_q", "_law_one"] ["_law_start", "_law_marks", "_law_reach"] (defScope s_law_marks_right) := ⟨rfl, rfl, rfl, by decide +kernel, rfl, by decide +kernel, by decide +kernel⟩
abbrev s_law_race : Stmt := topS 38
theorem sc_law_race : FnScope ["_law_meeting", "_law_row", "_law_kept", "_law_k", "_law_first", "_law_last", "_law_start", "_law_marks", "_law_boat", "_law_some", "_law_own", "_law_found", "_law_deed"] ["_law_meeting", "_law_row", "_law_kept", "_law_k"] (defScope s_law_race) := ⟨rfl, rfl, rfl, by decide +kernel, rfl, by decide +kernel, by decide +kernel⟩
abbrev s_law : Stmt := topS 39
theorem sc_law : FnScope ["_law_script", "_law_draws", "_law_meeting", "_law_row", "_law_turn", "_law_day_here", "_law_starts", "_law_after_here", "_law_kept", "_law_word_here", "_law_told", "_law_boat", "_law_some", "_law_numbers", "_law_walked", "_law_k", "_law_deed"] ["_law_script"] (defScope s_law) := ⟨rfl, rfl, rfl, by decide +kernel, rfl, by decide +kernel, by decide +kernel⟩
theorem same_upd {H : Hp} {p : Addr} {o : HO} (h : H p = none) : Same H (upd H p o) := fun b x e => by
  rw [upd_ne (ne_of_none e h)]
  exact e
/-! ### the numbers -/
def races (n s : Nat) : Nat := (n + s - 1) / s
def lastOf (n s k : Nat) : Nat := min (k * s + s) (n - 1)
/-- the span of race k -/
def seg {α : Type} (s k : Nat) (row : List α) : List α := (row.drop (k * s)).take (lastOf row.length s k + 1 - k * s)
/-- some laid on the span of race k -/
def lay {α : Type} (s k : Nat) (row some : List α) : List α := row.take (k * s) ++ some ++ row.drop (lastOf row.length s k + 1)
theorem sameT {K : PySem.W.Frag} {H H' : Hp} {a : Addr} {xs : List V} (e : Same H H') (h : SqT K H a xs) : SqT K H' a xs := by
  rcases h with (h | ⟨o, h⟩) | h
  · exact .inl (.inl (e _ _ h))
  · exact .inl (.inr ⟨o, e _ _ h⟩)
  · exact .inr h
/-- an event of a sheet -/
def evL : TB.Ev Str → List V
  | .drop x => [.str "drop", .str x]
  | .touch x y => [.str "touch", .str x, .str y]
/-- the values of a sheet's events -/
inductive Evs (K : PySem.W.Frag) (H : Hp) : List V → List (TB.Ev Str) → Prop
  | nil : Evs K H [] []
  | cons {a : Addr} {vs : List V} {e : TB.Ev Str} {sh : List (TB.Ev Str)} : SqT K H a (evL e) → Evs K H vs sh → Evs K H (.ref a :: vs) (e :: sh)
theorem Evs.same {K : PySem.W.Frag} {H H' : Hp} (s : Same H H') {vs : List V} {sh : List (TB.Ev Str)} (h : Evs K H vs sh) : Evs K H' vs sh := by
  induction h with
  | nil => exact .nil
  | cons a _ ih => exact .cons (sameT s a) ih
theorem Evs.len {K : PySem.W.Frag} {H : Hp} {vs : List V} {sh : List (TB.Ev Str)} (h : Evs K H vs sh) : vs.length = sh.length := by
  induction h with
  | nil => rfl
  | cons a _ ih => simp [ih]
theorem Evs.get {K : PySem.W.Frag} {H : Hp} {vs : List V} {sh : List (TB.Ev Str)} (h : Evs K H vs sh) {i : Nat} {v : V} (e : vs[i]? = some v) : ∃ a z, v = .ref a ∧ sh[i]? = some z ∧ SqT K H a (evL z) := by
  induction h generalizing i with
  | nil => cases e
  | cons a _ ih =>
    cases i with
    | zero =>
      cases e
      exact ⟨_, _, rfl, rfl, a⟩
    | succ i => exact ih e
theorem Evs.snoc {K : PySem.W.Frag} {H : Hp} {vs : List V} {sh : List (TB.Ev Str)} (h : Evs K H vs sh) {a : Addr} {z : TB.Ev Str} (hz : SqT K H a (evL z)) : Evs K H (vs ++ [.ref a]) (sh ++ [z]) := by
  induction h with
  | nil => exact .cons hz .nil
  | cons a _ ih => exact .cons a ih
theorem Evs.take {K : PySem.W.Frag} {H : Hp} {vs : List V} {sh : List (TB.Ev Str)} (h : Evs K H vs sh) (n : Nat) : Evs K H (vs.take n) (sh.take n) := by
  induction h generalizing n with
  | nil => simpa using .nil
  | cons a _ ih =>
    cases n with
    | zero => exact .nil
    | succ n => exact .cons a (ih n)
/-- a sheet -/
def ShV (K : PySem.W.Frag) (H : Hp) (a : Addr) (sh : List (TB.Ev Str)) : Prop := ∃ vs, SqT K H a vs ∧ Evs K H vs sh
theorem ShV.same {K : PySem.W.Frag} {H H' : Hp} (s : Same H H') {a : Addr} {sh : List (TB.Ev Str)} (h : ShV K H a sh) : ShV K H' a sh := let ⟨vs, h1, h2⟩ := h; ⟨vs, sameT s h1, h2.same s⟩
/-- a row of boats -/
abbrev RowF (H : Hp) (p : Addr) (l : List Str) : Prop := TupF H p (l.map V.str)
theorem take_snoc {α : Type} {xs : List α} {i : Nat} {x : α} (h : xs[i]? = some x) : xs.take (i + 1) = xs.take i ++ [x] := by
  rw [List.take_add_one, h]
  rfl
theorem strget {l : List Str} {i : Nat} {v : V} (h : (l.map V.str)[i]? = some v) : ∃ x, l[i]? = some x ∧ v = .str x := by
  rw [List.getElem?_map] at h
  cases e : l[i]? with
  | none =>
    rw [e] at h
    cases h
  | some x =>
    rw [e] at h
    exact ⟨x, rfl, (Option.some.inj h).symm⟩
theorem strset (l : List Str) (i : Nat) (x : Str) : (l.map V.str).set i (.str x) = (l.set i x).map V.str := by
  rw [List.map_set]
theorem strcut (l : List Str) (lo hi : Option Int) : cutV (l.map V.str) lo hi = ((l.drop (HT.sIx l.length 0 lo)).take (HT.sIx l.length l.length hi - HT.sIx l.length 0 lo)).map V.str := by
  unfold cutV
  rw [List.length_map, List.map_take, List.map_drop]
theorem inV_str (l : List Str) (x : Str) : inV (.str x) (l.map V.str) = decide (x ∈ l) := by
  unfold inV
  rw [Bool.eq_iff_iff, List.any_eq_true, decide_eq_true_iff]
  constructor
  · rintro ⟨y, hy, e⟩
    obtain ⟨z, hz, rfl⟩ := List.mem_map.mp hy
    have : z = x := by simpa [eqV] using e
    rwa [← this]
  · intro h
    exact ⟨.str x, List.mem_map.mpr ⟨x, h, rfl⟩, by simp [eqV]⟩
theorem flat_strs (l : List Str) : (l.map V.str).all flatV = true := by
  rw [List.all_map]
  exact List.all_eq_true.mpr fun _ _ => rfl
/-- the place of a boat -/
theorem nd_at {st A C : List Str} {z : Str} (nd : st.Nodup) (e : st = A ++ z :: C) : st[A.length]? = some z ∧ ∀ m, m < A.length → st[m]? ≠ some z := by
  subst e
  constructor
  · simp
  · intro m hm h
    rw [List.getElem?_append_left hm] at h
    have h1 : z ∈ A := List.mem_of_getElem? h
    rw [List.nodup_append] at nd
    exact nd.2.2 z h1 z (by simp) rfl
/-- what cannot change stays: tuples and frozen ones -/
def SameT (H H' : Hp) : Prop := (∀ b xs, H b = some (.tup xs) → H' b = some (.tup xs)) ∧ ∀ b o u, H b = some (.frz o u) → H' b = some (.frz o u)
theorem sameTT {H H' : Hp} (s : Same H H') : SameT H H' := ⟨fun _ _ e => s _ _ e, fun _ _ _ e => s _ _ e⟩
theorem SameT.trans {H H1 H2 : Hp} (a : SameT H H1) (b : SameT H1 H2) : SameT H H2 := ⟨fun _ _ e => b.1 _ _ (a.1 _ _ e), fun _ _ _ e => b.2 _ _ _ (a.2 _ _ _ e)⟩
theorem SameT.lst {H : Hp} {D : Addr} {xs : List V} {o : HO} (h : H D = some (.lst xs)) : SameT H (upd H D o) := by
  constructor
  · intro b ys e
    rw [upd_ne (ne_of e h (by intro z; cases z))]
    exact e
  · intro b o' u e
    rw [upd_ne (ne_of e h (by intro z; cases z))]
    exact e
theorem SameT.dct {H : Hp} {D : Addr} {kvs : List (Key × V)} {o : HO} (h : H D = some (.dK kvs)) : SameT H (upd H D o) := by
  constructor
  · intro b ys e
    rw [upd_ne (ne_of e h (by intro z; cases z))]
    exact e
  · intro b o' u e
    rw [upd_ne (ne_of e h (by intro z; cases z))]
    exact e
theorem SameT.seq {K : PySem.W.Frag} {H H' : Hp} {a : Addr} {xs : List V} (e : SameT H H') (h : SqT K H a xs) : SqT K H' a xs := by
  rcases h with (h | ⟨o, h⟩) | h
  · exact .inl (.inl (e.1 _ _ h))
  · exact .inl (.inr ⟨o, e.2 _ _ _ h⟩)
  · exact .inr h
theorem SameT.row {H H' : Hp} {p : Addr} {l : List Str} (e : SameT H H') (h : RowF H p l) : RowF H' p l := let ⟨o, d, z⟩ := h; ⟨o, d, e.2 _ _ _ z⟩
theorem SameT.evs {K : PySem.W.Frag} {H H' : Hp} (s : SameT H H') {vs : List V} {sh : List (TB.Ev Str)} (h : Evs K H vs sh) : Evs K H' vs sh := by
  induction h with
  | nil => exact .nil
  | cons a _ ih => exact .cons (s.seq a) ih
theorem SameT.sh {K : PySem.W.Frag} {H H' : Hp} (s : SameT H H') {a : Addr} {sh : List (TB.Ev Str)} (h : ShV K H a sh) : ShV K H' a sh := let ⟨vs, h1, h2⟩ := h; ⟨vs, s.seq h1, s.evs h2⟩
/-- what stood ahead stays when a newer object changes -/
theorem sameUpd {H H' : Hp} {D : Addr} {o : HO} (s : Same H H') (h : H D = none) : Same H (L2.upd H' D o) := fun b x e => by
  rw [upd_ne (ne_of_none e h)]
  exact s _ _ e
def rTupF (K : PySem.W.Frag) : List V → Hp → VK → Prop := fun xs H Q => ∃ p ys, xs = [.ref p] ∧ SqL K H p ys ∧ ∀ (q : Addr) (o : Obj), H q = none → o.dict = none → Q (.ref q) (upd H q (.frz o (.tup ys)))
end TBW
namespace TBW
open PySem PySem.Spec PyProof.Rows L2 TBR
/-- a slice of a row -/
def cutS {α : Type} (l : List α) (lo hi : Option Int) : List α := (l.drop (HT.sIx l.length 0 lo)).take (HT.sIx l.length l.length hi - HT.sIx l.length 0 lo)
theorem sl_row {K : PySem.W.Frag} {H : Hp} {a : Addr} {l : List Str} {lo hi : Option Int} {Q : VK} (h : RowF H a l) (q : ∀ H' b, Same H H' → RowF H' b (cutS l lo hi) → Q (.ref b) H') : rSlF K (.ref a) lo hi H Q := by
  refine ⟨a, _, rfl, h.t, fun c => ?_, fun c p o hp ho => ?_⟩
  · rw [List.length_map] at c
    refine q H a (Same.refl H) ?_
    unfold cutS
    rw [c.1, c.2, List.drop_zero, Nat.sub_zero, List.take_length]
    exact h
  · refine q _ p (same_upd hp) ?_
    rw [strcut]
    exact TupF.new ho
theorem cutS_nat {α : Type} (l : List α) (lo hi : Nat) : cutS l (some (lo : Int)) (some (hi : Int)) = (l.drop lo).take (hi - lo) := by
  unfold cutS
  rw [HT.sIx_nat, HT.sIx_nat]
  by_cases h : lo ≤ l.length
  · rw [Nat.min_eq_left h]
    by_cases h2 : hi ≤ l.length
    · rw [Nat.min_eq_left h2]
    · rw [Nat.min_eq_right (by omega), List.take_of_length_le (by simp), List.take_of_length_le (by simp; omega)]
  · rw [Nat.min_eq_right (show l.length ≤ lo by omega), List.drop_of_length_le (Nat.le_refl _), List.drop_of_length_le (show l.length ≤ lo by omega)]
    simp
theorem cutS_to {α : Type} (l : List α) (hi : Nat) : cutS l none (some (hi : Int)) = l.take hi := by
  unfold cutS
  rw [HT.sIx_nat, HT.sIx_none, List.drop_zero, Nat.sub_zero]
  by_cases h2 : hi ≤ l.length
  · rw [Nat.min_eq_left h2]
  · rw [Nat.min_eq_right (by omega), List.take_of_length_le (by omega), List.take_of_length_le (by omega)]
theorem cutS_from {α : Type} (l : List α) (lo : Nat) : cutS l (some (lo : Int)) none = l.drop lo := by
  unfold cutS
  rw [HT.sIx_nat, HT.sIx_none]
  by_cases h : lo ≤ l.length
  · rw [Nat.min_eq_left h, List.take_of_length_le (by simp)]
  · rw [Nat.min_eq_right (show l.length ≤ lo by omega), List.drop_of_length_le (Nat.le_refl _), List.drop_of_length_le (show l.length ≤ lo by omega)]
    simp
/-- rows laid together -/
theorem cat_row {K : PySem.W.Frag} {H : Hp} {a b : Addr} {l m : List Str} {Q : VK} (ha : RowF H a l) (hb : RowF H b m) (hz : l.length + m.length ≤ 1000) (q : ∀ H' c, Same H H' → RowF H' c (l ++ m) → Q (.ref c) H') : rCatF K (.ref a) (.ref b) H Q := by
  refine ⟨a, b, _, _, rfl, rfl, ha.t, hb.t, ?_, fun e => ?_, fun _ e => ?_, fun _ _ p o hp ho => ?_⟩
  · rw [List.length_map, List.length_map]
    exact Nat.le_of_lt (small1000 hz)
  · have e1 : l = [] := List.map_eq_nil_iff.mp e
    subst e1
    exact q H b (Same.refl H) hb
  · have e1 : m = [] := List.map_eq_nil_iff.mp e
    subst e1
    refine q H a (Same.refl H) ?_
    rw [List.append_nil]
    exact ha
  · refine q _ p (same_upd hp) ?_
    unfold RowF
    rw [List.map_append]
    exact TupF.new ho
section
variable {P : Program} {w : World} {K : PySem.W.Frag} {mg : Str → Option Value} {base : Heap}
/-! ### spans and races -/
def spRaces (K : PySem.W.Frag) : Sp := fun vs H Q _ => ∃ (a : Addr) (n s r : Nat), vs = [.ref a, .int n] ∧ SqT K H a [.int s, .int r] ∧ 1 ≤ s ∧ s ≤ 8 ∧ Q (.int (races n s : Nat)) H
theorem races_int (n s : Nat) (h : 1 ≤ s) : Int.fdiv ((n : Int) + s - 1) s = (races n s : Nat) := by
  unfold races
  rw [Int.fdiv_eq_ediv_of_nonneg _ (by omega)]
  rw [show ((n : Int) + s - 1) = ((n + s - 1 : Nat) : Int) by omega]
  rfl
theorem ok_races_of {f : Addr} {fd : FuncData} (F : Fun K "races_of" "races_of" s_races_of f fd) (T : Blt mg) : FnOk P w K mg base CX0 1 f fd ["meeting", "n"] (spRaces K) := by
  refine F.ok sc_races_of (fun vs H Q E h => ?_) (fun cdv A outer s H vs Q E hr h => ?_)
  · obtain ⟨a, n, s, r, rfl, _⟩ := h
    rfl
  · obtain ⟨a, n, s, r, rfl, hm, h1, h8, q⟩ := h
    refine ⟨_, (pss_cons (ps_asg (pv 0) (pg_tup (by rfl) (pgs_cons (pg_name (i := 2) sc_races_of.nd rfl (.inl rfl)) (pgs_cons (pg_name (i := 3) sc_races_of.nd rfl (.inl rfl)) pgs_nil))))
    (pss_one (ps_ret (pe_op op_fdivN (pe_op op_sub (pe_op op_add (pv 1) (pv 2)) pe_int) (pv 2))))), ?_⟩
    refine ⟨.ref a, rfl, a, _, rfl, hm, rfl, _, _, rfl, _, _, rfl, rfl, ?_⟩
    refine ⟨.int n, rfl, .int s, rfl, _, _, rfl, rfl, 
      _, _, rfl, rfl, .int s, rfl, _, _, rfl, rfl, ⟨by omega, by omega⟩, ?_⟩
    show Q (.int (Int.fdiv ((n : Int) + s - 1) s)) H
    rw [races_int n s h1]
    exact q
theorem ok_law_races {f : Addr} {fd : FuncData} (F : Fun K "_law_races" "_law_races" s_law_races f fd) (T : Blt mg) : FnOk P w K mg base CX0 1 f fd ["_law_meeting", "_law_n"] (spRaces K) := by
  refine F.ok sc_law_races (fun vs H Q E h => ?_) (fun cdv A outer s H vs Q E hr h => ?_)
  · obtain ⟨a, n, s, r, rfl, _⟩ := h
    rfl
  · obtain ⟨a, n, s, r, rfl, hm, h1, h8, q⟩ := h
    refine ⟨_, (pss_one (ps_ret (pe_op op_fdivN (pe_op op_sub (pe_op op_add (pv 1) (pe_ix ix_tup (pv 0) pe_int (fun _ _ => rfl))) pe_int) (pe_ix ix_tup (pv 0) pe_int (fun _ _ => rfl))))), ?_⟩
    refine ⟨.int n, rfl, .ref a, rfl, a, _, 0, _, rfl, rfl, hm, rfl, _, _, rfl, rfl, 
      _, _, rfl, rfl, .ref a, rfl, a, _, 0, _, rfl, rfl, hm, rfl, _, _, rfl, rfl, ⟨by omega, by omega⟩, ?_⟩
    show Q (.int (Int.fdiv ((n : Int) + s - 1) s)) H
    rw [races_int n s h1]
    exact q
def spSpan (K : PySem.W.Frag) : Sp := fun vs H Q _ => ∃ (a : Addr) (n k s r : Nat), vs = [.ref a, .int n, .int k] ∧ SqT K H a [.int s, .int r] ∧ s ≤ 8 ∧ k ≤ 1000 ∧ 1 ≤ n ∧ ∀ p, H p = none → Q (.ref p) (upd H p (.tup [.int (k * s : Nat), .int (lastOf n s k : Nat)]))
theorem mulW_small {k s : Nat} (hk : k ≤ 1000) (hs : s ≤ 8) : CMulW (k : Int) (s : Int) := wide_mul (a := 16) (b := 16) (by omega) (by omega) (by decide) (by decide) (by decide)
theorem ok_span {f : Addr} {fd : FuncData} (F : Fun K "span" "span" s_span f fd) (T : Blt mg) : FnOk P w K mg base CX0 1 f fd ["meeting", "n", "k"] (spSpan K) := by
  refine F.ok sc_span (fun vs H Q E h => ?_) (fun cdv A outer s H vs Q E hr h => ?_)
  · obtain ⟨a, n, k, s, r, rfl, _⟩ := h
    rfl
  · obtain ⟨a, n, k, s, r, rfl, hm, hs, hk, hn, q⟩ := h
    refine ⟨_, (pss_cons (ps_asg (pv 0) (pg_tup (by rfl) (pgs_cons (pg_name (i := 3) sc_span.nd rfl (.inl rfl)) (pgs_cons (pg_name (i := 4) sc_span.nd rfl (.inl rfl)) pgs_nil))))
    (pss_one (ps_ret (pe_tup (pa_cons (pe_op op_mulW (pv 2) (pv 3)) (pa_cons (pe_callB (call_min2 rfl) (by rfl) T.min (by decide +kernel) (pa_cons (pe_op op_add (pe_op op_mulW (pv 2) (pv 3)) (pv 3)) (pa_cons (pe_op op_sub (pv 1) pe_int) pa_nil))) pa_nil)))))), ?_⟩
    refine ⟨.ref a, rfl, a, _, rfl, hm, rfl, _, _, rfl, _, _, rfl, rfl, ?_⟩
    refine ⟨.int k, rfl, .int s, rfl, _, _, rfl, rfl, mulW_small hk hs, .int k, rfl, .int s, rfl, _, _, rfl, rfl, mulW_small hk hs, .int s, rfl, _, _, rfl, rfl, .int n, rfl, _, _, rfl, rfl, ?_⟩
    refine ⟨_, _, rfl, ?_⟩
    refine ⟨(by show 2 ≤ sizeLine; decide), fun p hp => ?_⟩
    have e : (if ((n : Int) - 1) < (k : Int) * s + s then (n : Int) - 1 else (k : Int) * s + s) = ((lastOf n s k : Nat) : Int) := by
      unfold lastOf
      split <;> omega
    have := q p hp
    rw [← e] at this
    exact this
theorem ok_law_span {f : Addr} {fd : FuncData} (F : Fun K "_law_span" "_law_span" s_law_span f fd) (T : Blt mg) : FnOk P w K mg base CX0 1 f fd ["_law_meeting", "_law_n", "_law_k"] (spSpan K) := by
  refine F.ok sc_law_span (fun vs H Q E h => ?_) (fun cdv A outer s H vs Q E hr h => ?_)
  · obtain ⟨a, n, k, s, r, rfl, _⟩ := h
    rfl
  · obtain ⟨a, n, k, s, r, rfl, hm, hs, hk, hn, q⟩ := h
    refine ⟨_, (pss_cons (ps_set (i := 3) sc_law_span.nd rfl (.inl rfl) (pe_ix ix_tup (pv 0) pe_int (fun _ _ => rfl)))
    (pss_cons (ps_set (i := 4) sc_law_span.nd rfl (.inl rfl) (pe_op op_mulW (pv 2) (pv 3)))
    (pss_one (ps_ret (pe_tup (pa_cons (pv 4) (pa_cons (pe_ifExp (pt_cmpR op_lt (pe_op op_add (pv 4) (pv 3)) (pv 1) (by rfl)) (pe_op op_add (pv 4) (pv 3)) (pe_op op_sub (pv 1) pe_int)) pa_nil))))))), ?_⟩
    refine ⟨.ref a, rfl, a, _, 0, _, rfl, rfl, hm, rfl, .int k, rfl, .int s, rfl, _, _, rfl, rfl, mulW_small hk hs, ?_⟩
    refine ⟨_, rfl, _, rfl, .int s, rfl, _, _, rfl, rfl, .int n, rfl, _, _, rfl, rfl, _, rfl, ?_⟩
    have fin : ∀ z : Int, z = ((lastOf n s k : Nat) : Int) → ∀ p, H p = none → Q (.ref p) (upd H p (.tup [.int ((k : Int) * s), .int z])) := by
      intro z hz p hp
      rw [hz]
      exact q p hp
    refine ite2 (fun c => ?_) (fun c => ?_)
    · have c1 := of_decide_eq_true c
      refine ⟨_, rfl, .int s, rfl, _, _, rfl, rfl, (by show 2 ≤ sizeLine; decide), fun p hp => fin _ ?_ p hp⟩
      unfold lastOf
      omega
    · have c1 : ¬ ((k : Int) * s + s < n) := fun z => c (decide_eq_true z)
      refine ⟨.int n, rfl, _, _, rfl, rfl, (by show 2 ≤ sizeLine; decide), fun p hp => fin _ ?_ p hp⟩
      unfold lastOf
      omega
/-! ### rows -/
/-- two places change their boats -/
def exch (l : List Str) (i j : Nat) (x y : Str) : List Str := (l.set i y).set j x
def spExch (K : PySem.W.Frag) : Sp := fun vs H Q _ => ∃ (p : Addr) (l : List Str) (i j : Nat) (x y : Str), vs = [.ref p, .int i, .int j] ∧ RowF H p l ∧ l[i]? = some x ∧ l[j]? = some y ∧ ∀ H' q, Same H H' → RowF H' q (exch l i j x y) → Q (.ref q) H'
theorem ixN_of {n j : Nat} (hj : j < n) : ixN n (j : Int) = some j := by
  unfold ixN
  rw [if_pos (by omega), if_pos (by omega)]
  simp
theorem vget {l : List Str} {i : Nat} {x : Str} (h : l[i]? = some x) : (l.map V.str)[i]? = some (.str x) := by
  rw [List.getElem?_map, h]
  rfl
theorem ok_exchanged {f : Addr} {fd : FuncData} (F : Fun K "exchanged" "exchanged" s_exchanged f fd) (T : Blt mg) : FnOk P w K mg base CX0 1 f fd ["row", "one", "other"] (spExch K) := by
  refine F.ok sc_exchanged (fun vs H Q E h => ?_) (fun cdv A outer s H vs Q E hr h => ?_)
  · obtain ⟨p, l, i, j, x, y, rfl, _⟩ := h
    rfl
  · obtain ⟨p, l, i, j, x, y, rfl, hl, hx, hy, q⟩ := h
    refine ⟨_, (pss_cons (ps_set (i := 3) sc_exchanged.nd rfl (.inl rfl) (pe_callTy call_list_of (by rfl) T.list (by decide +kernel) (pa_cons (pv 0) pa_nil)))
    (pss_cons (ps_asg (pe_ix ix_tup (pv 0) (pv 2) (fun _ _ => rfl)) (pg_sub (pv 3) (pv 1) set_list))
    (pss_cons (ps_asg (pe_ix ix_tup (pv 0) (pv 1) (fun _ _ => rfl)) (pg_sub (pv 3) (pv 2) set_list))
    (pss_one (ps_ret (pe_callTy call_tupF (by rfl) T.tuple (by decide +kernel) (pa_cons (pv 3) pa_nil))))))), ?_⟩
    refine ⟨.ref p, rfl, p, _, rfl, .inr hl.t, fun b hb => ?_⟩
    have s1 : Same H (upd H b (.lst (l.map V.str))) := same_upd hb
    refine ⟨.ref p, rfl, .int j, rfl, p, _, j, _, rfl, rfl, sameT s1 hl.t, atI_nat (vget hy), ?_⟩
    have li := (List.getElem?_eq_some_iff.mp hx).1
    have lj := (List.getElem?_eq_some_iff.mp hy).1
    refine ⟨.ref b, rfl, .int i, rfl, b, _, i, i, rfl, rfl, upd_same, ixN_of (by rw [List.length_map]; exact li), ?_⟩
    have s2 : Same H (upd (upd H b (.lst (l.map V.str))) b (.lst ((l.set i y).map V.str))) := fun c o e => by
      rw [upd_ne (ne_of_none e hb)]
      exact s1 _ _ e
    rw [strset]
    refine ⟨.ref p, rfl, .int i, rfl, p, _, i, _, rfl, rfl, sameT s2 hl.t, atI_nat (vget hx), ?_⟩
    refine ⟨.ref b, rfl, .int j, rfl, b, _, j, j, rfl, rfl, upd_same, ixN_of (by rw [List.length_map, List.length_set]; exact lj), ?_⟩
    rw [strset]
    refine ⟨.ref b, rfl, b, _, rfl, SqL.of upd_same, fun c o hc ho => ?_⟩
    have nb : ∀ {d u}, H d = some u → d ≠ b := fun e => ne_of_none e hb
    have nc : ∀ {d u}, H d = some u → d ≠ c := fun {d u} e z => by
      subst z
      rw [upd_ne (nb e), upd_ne (nb e), upd_ne (nb e), e] at hc
      cases hc
    refine q _ c (fun d u e => ?_) (TupF.new ho)
    rw [upd_ne (nc e), upd_ne (nb e), upd_ne (nb e), upd_ne (nb e)]
    exact e
/-- an event that touches, the boat ahead at A.length -/
def EvT (K : PySem.W.Frag) (H : Hp) (p e : Addr) (st : List Str) (x y : Str) (A M C : List Str) : Prop := RowF H p st ∧ SqT K H e [.str "touch", .str x, .str y] ∧ st.Nodup ∧ st = A ++ y :: (M ++ x :: C)
theorem EvT.y {H : Hp} {p e : Addr} {st : List Str} {x y : Str} {A M C : List Str} (h : EvT K H p e st x y A M C) : st[A.length]? = some y ∧ ∀ m, m < A.length → st[m]? ≠ some y := nd_at h.2.2.1 h.2.2.2
theorem EvT.x {H : Hp} {p e : Addr} {st : List Str} {x y : Str} {A M C : List Str} (h : EvT K H p e st x y A M C) : st[A.length + 1 + M.length]? = some x ∧ ∀ m, m < A.length + 1 + M.length → st[m]? ≠ some x := by
  have e : st = (A ++ y :: M) ++ x :: C := by
    rw [h.2.2.2]
    simp
  have := nd_at h.2.2.1 e
  have e2 : (A ++ y :: M).length = A.length + 1 + M.length := by
    simp
    omega
  rw [e2] at this
  exact this
def spBetween (K : PySem.W.Frag) : Sp := fun vs H Q _ => ∃ (p e : Addr) (st : List Str) (x y : Str) (A M C : List Str), vs = [.ref p, .ref e] ∧ EvT K H p e st x y A M C ∧ ∀ H' q, Same H H' → RowF H' q M → Q (.ref q) H'
theorem ok_boats_between {f : Addr} {fd : FuncData} (F : Fun K "boats_between" "boats_between" s_boats_between f fd) (T : Blt mg) : FnOk P w K mg base CX0 1 f fd ["start", "event"] (spBetween K) := by
  refine F.ok sc_boats_between (fun vs H Q E h => ?_) (fun cdv A outer s H vs Q E hr h => ?_)
  · obtain ⟨p, e, st, x, y, A, M, C, rfl, _⟩ := h
    rfl
  · obtain ⟨p, e, st, x, y, A, M, C, rfl, he, q⟩ := h
    have hx := he.x
    have hy := he.y
    obtain ⟨hp, hE, nd, est⟩ := he
    refine ⟨_, (pss_cons (ps_par (i := 2) (j := 3) (by rfl) sc_boats_between.nd rfl rfl (by decide) rfl rfl (pa_cons (pe_indF (pv 0) (pa_cons (pe_ix ix_tup (pv 1) pe_int (fun _ _ => rfl)) pa_nil)) (pa_cons (pe_indF (pv 0) (pa_cons (pe_ix ix_tup (pv 1) pe_int (fun _ _ => rfl)) pa_nil)) pa_nil)) (by rfl))
    (pss_one (ps_ret (pe_slice sl_tupF (pv 0) (po_some (pe_op op_add (pe_callB (call_min2 rfl) (by rfl) T.min (by decide +kernel) (pa_cons (pv 2) (pa_cons (pv 3) pa_nil))) pe_int)) (po_some (pe_callB (call_max2 rfl) (by rfl) T.max (by decide +kernel) (pa_cons (pv 2) (pa_cons (pv 3) pa_nil)))))))), ?_⟩
    refine ⟨.ref p, rfl, ⟨p, _, rfl, hp⟩, .ref e, rfl, e, _, 1, _, rfl, rfl, hE, atI_nat (j := 1) rfl, p, st, x, _, rfl, rfl, hp.t, hx.1, hx.2, ?_⟩
    refine ⟨.ref p, rfl, ⟨p, _, rfl, hp⟩, .ref e, rfl, e, _, 2, _, rfl, rfl, hE, atI_nat (j := 2) rfl, p, st, y, _, rfl, rfl, hp.t, hy.1, hy.2, ?_⟩
    refine ⟨_, _, rfl, ?_⟩
    refine ⟨.ref p, rfl, _, rfl, _, rfl, _, _, rfl, ?_⟩
    refine ⟨_, _, rfl, rfl, _, rfl, _, rfl, _, rfl, _, _, rfl, ?_⟩
    refine ⟨_, rfl, sl_row hp fun H' b sm hb => q H' b sm ?_⟩
    rw [if_pos (by omega), if_neg (by omega)] at hb
    have e1 : cutS st (some ((A.length : Int) + 1)) (some ((A.length + 1 + M.length : Nat) : Int)) = M := by
      have := cutS_nat st (A.length + 1) (A.length + 1 + M.length)
      rw [show ((A.length + 1 : Nat) : Int) = (A.length : Int) + 1 by omega] at this
      rw [this, est, show A.length + 1 + M.length - (A.length + 1) = M.length by omega]
      rw [show A ++ y :: (M ++ x :: C) = (A ++ [y]) ++ (M ++ x :: C) by simp]
      rw [List.drop_left' (by simp), List.take_left]
    rw [e1] at hb
    exact hb
def spAhead (K : PySem.W.Frag) : Sp := fun vs H Q _ => ∃ (p e : Addr) (st : List Str) (x y : Str) (A M C : List Str), vs = [.ref p, .ref e] ∧ EvT K H p e st x y A M C ∧ Q (.bl true) H
theorem ok_goes_ahead {f : Addr} {fd : FuncData} (F : Fun K "goes_ahead" "goes_ahead" s_goes_ahead f fd) (T : Blt mg) : FnOk P w K mg base CX0 1 f fd ["start", "event"] (spAhead K) := by
  refine F.ok sc_goes_ahead (fun vs H Q E h => ?_) (fun cdv A outer s H vs Q E hr h => ?_)
  · obtain ⟨p, e, st, x, y, A, M, C, rfl, _⟩ := h
    rfl
  · obtain ⟨p, e, st, x, y, A, M, C, rfl, he, q⟩ := h
    have hx := he.x
    have hy := he.y
    obtain ⟨hp, hE, nd, est⟩ := he
    refine ⟨_, (pss_one (ps_ret (pe_cmpR op_lt (pe_indF (pv 0) (pa_cons (pe_ix ix_tup (pv 1) pe_int (fun _ _ => rfl)) pa_nil)) (pe_indF (pv 0) (pa_cons (pe_ix ix_tup (pv 1) pe_int (fun _ _ => rfl)) pa_nil)) (by rfl)))), ?_⟩
    refine ⟨.ref p, rfl, ⟨p, _, rfl, hp⟩, .ref e, rfl, e, _, 2, _, rfl, rfl, hE, atI_nat (j := 2) rfl, p, st, y, _, rfl, rfl, hp.t, hy.1, hy.2, ?_⟩
    refine ⟨.ref p, rfl, ⟨p, _, rfl, hp⟩, .ref e, rfl, e, _, 1, _, rfl, rfl, hE, atI_nat (j := 1) rfl, p, st, x, _, rfl, rfl, hp.t, hx.1, hx.2, ?_⟩
    refine ⟨_, _, rfl, rfl, ?_⟩
    show Q (.bl (decide ((A.length : Int) < ((A.length + 1 + M.length : Nat) : Int)))) H
    rw [decide_eq_true (by omega)]
    exact q
end
end TBW
namespace TBW
open PySem PySem.Spec PyProof.Rows L2 TBR
section
variable {P : Program} {w : World} {K : PySem.W.Frag} {mg : Str → Option Value} {base : Heap}
def isT : TB.Ev Str → Bool
  | .touch _ _ => true
  | _ => false
theorem mem_isT {sh : List (TB.Ev Str)} {z : TB.Ev Str} {i : Nat} (h : (sh.filter isT)[i]? = some z) : ∃ x y, z = .touch x y ∧ TB.Ev.touch x y ∈ sh := by
  have := List.mem_of_getElem? h
  rw [List.mem_filter] at this
  cases z with
  | drop x => simp [isT] at this
  | touch x y => exact ⟨x, y, rfl, this.1⟩
def spTouches (K : PySem.W.Frag) : Sp := fun vs H Q _ => ∃ (a : Addr) (sh : List (TB.Ev Str)), vs = [.ref a] ∧ ShV K H a sh ∧ sh.length ≤ 1000 ∧ ∀ H' q ws, Same H H' → H' q = some (.lst ws) → Evs K H' ws (sh.filter isT) → Q (.ref q) H'
theorem ok_touches_in {f : Addr} {fd : FuncData} (F : Fun K "touches_in" "touches_in" s_touches_in f fd) (T : Blt mg) : FnOk P w K mg base CX0 1 f fd ["sheet"] (spTouches K) := by
  refine F.ok sc_touches_in (fun vs H Q E h => ?_) (fun cdv A outer s H vs Q E hr h => ?_)
  · obtain ⟨a, sh, rfl, _⟩ := h
    rfl
  · obtain ⟨a, sh, rfl, ⟨vs0, hS, hE⟩, hl, q⟩ := h
    refine ⟨_, (pss_one (ps_ret (pe_lc (own := [("event", 1)]) (g := gName 1) (by rfl) sc_touches_in.nd (pi_tup (pv 0)) (blkOk_by (own := [("event", 1)]) (N := ["sheet", "event"]) (sc := defScope s_touches_in) (by decide +kernel)) (fun _ _ _ _ _ => (pg_name (i := 1) sc_touches_in.nd rfl (.inl rfl))) (fun _ _ _ _ _ => (pts_one (pt_cmpR op_eq (pe_ix (r := rIxT K) ix_tup (pv 1) pe_int (fun _ _ => rfl)) pe_str (by rfl)))) (fun _ _ _ _ _ => (pv 1))))), ?_⟩
    refine ⟨.ref a, rfl, a, rfl, ⟨_, hS⟩, fun D hD => lc_tup (K := K) (a := a) (xs := vs0) (fun i H3 => Same H H3 ∧ ∃ ws, H3 D = some (.lst ws) ∧ Evs K H3 ws ((sh.take i).filter isT) ∧ ws.length ≤ i) ⟨same_upd hD, [], upd_same, .nil, Nat.le_refl _⟩ (fun i H3 _ h => sameT h.1 hS) (fun i x H3 hi h3 => ?_) (fun H3 h3 => ?_)⟩
    · obtain ⟨sm, ws, e, hw, hn⟩ := h3
      obtain ⟨b, z, rfl, hz, hzt⟩ := hE.get hi
      have hi2 := (List.getElem?_eq_some_iff.mp hz).1
      have hb := sameT sm hzt
      have st : ∀ zs, SameT H3 (upd H3 D (.lst zs)) := fun zs => SameT.lst e
      cases z with
      | drop x =>
        refine ⟨rfl, .ref b, rfl, b, _, 0, _, rfl, rfl, hb, rfl, rfl, _, rfl, iteF ⟨sm, ws, e, ?_, by omega⟩⟩
        rw [take_snoc hz, List.filter_append]
        simpa [isT] using hw
      | touch x y =>
        refine ⟨rfl, .ref b, rfl, b, _, 0, _, rfl, rfl, hb, rfl, rfl, _, rfl, iteT ⟨.ref b, rfl, ws, e, small1000 (by omega), sameUpd sm hD, _, upd_same, ?_, ?_⟩⟩
        · rw [take_snoc hz, List.filter_append]
          exact ((st _).evs hw).snoc ((st _).seq hb)
        · rw [List.length_append]
          show ws.length + 1 ≤ i + 1
          omega
    · obtain ⟨sm, ws, e, hw, _⟩ := h3
      rw [hE.len, List.take_length] at hw
      exact q H3 D ws sm e hw
/-! ### who changes places -/
/-- the step of the row: one touch -/
def exT (st : List Str) (row : List Str) : TB.Ev Str → List Str
  | .touch x y => exch row (st.idxOf x) (st.idxOf y) (row.getD (st.idxOf x) x) (row.getD (st.idxOf y) y)
  | .drop _ => row
def behindT (st : List Str) (sh : List (TB.Ev Str)) : List Str := sh.foldl (exT st) st
theorem exT_at {st row : List Str} {x y : Str} {i j : Nat} (ex : st.idxOf x = i) (ey : st.idxOf y = j) (hi : i < row.length) (hj : j < row.length) : exT st row (.touch x y) = exch row i j row[i] row[j] := by
  unfold exT
  simp only [ex, ey, List.getD_eq_getElem?_getD, List.getElem?_eq_getElem hi, List.getElem?_eq_getElem hj, Option.getD_some]
theorem exT_len (st row : List Str) (z : TB.Ev Str) : (exT st row z).length = row.length := by
  cases z with
  | drop x => rfl
  | touch x y => simp [exT, exch]
def spBehind (K : PySem.W.Frag) : Sp := fun vs H Q _ => ∃ (p a : Addr) (st : List Str) (sh : List (TB.Ev Str)) (r : Nat), vs = [.ref p, .ref a] ∧ RowF H p st ∧ st.Nodup ∧ ShV K H a sh ∧ TB.Sound st r sh ∧ sh.length ≤ 1000 ∧ ∀ H' q, Same H H' → RowF H' q (behindT st (sh.filter isT)) → Q (.ref q) H'
theorem idx_at {st A C : List Str} {z : Str} (nd : st.Nodup) (e : st = A ++ z :: C) : st.idxOf z = A.length := by
  subst e
  rw [List.nodup_append] at nd
  have h : z ∉ A := fun h => nd.2.2 z h z (by simp) rfl
  rw [List.idxOf_append, if_neg h]
  simp
theorem ok_row_behind {f : Addr} {fd : FuncData} (F : Fun K "row_behind" "row_behind" s_row_behind f fd) (T : Blt mg) (c_touches_in : Cal P w K mg base 1 "touches_in" ["sheet"] (spTouches K)) (c_exchanged : Cal P w K mg base 1 "exchanged" ["row", "one", "other"] (spExch K)) :
    FnOk P w K mg base CX0 2 f fd ["start", "sheet"] (spBehind K) := by
  refine F.ok sc_row_behind (fun vs H Q E h => ?_) (fun cdv A outer s H vs Q E hr h => ?_)
  · obtain ⟨p, a, st, sh, r, rfl, _⟩ := h
    rfl
  · obtain ⟨p, a, st, sh, r, rfl, hp, nd, hsh, so, hl, q⟩ := h
    refine ⟨_, (pss_cons (ps_set (i := 2) sc_row_behind.nd rfl (.inl rfl) (pv 0))
    (pss_cons (ps_for PassesOwn.never rfl (pi_list (pe_k c_touches_in hr (by decide) (by rfl) (pa_cons (pv 1) pa_nil))) (pg_name (i := 3) sc_row_behind.nd rfl (.inl rfl))
      (pss_one (ps_set (i := 2) sc_row_behind.nd rfl (.inl rfl) (pe_k c_exchanged hr (by decide) (by rfl) (pa_cons (pv 2) (pa_cons (pe_indF (pv 0) (pa_cons (pe_ix ix_tup (pv 3) pe_int (fun _ _ => rfl)) pa_nil)) (pa_cons (pe_indF (pv 0) (pa_cons (pe_ix ix_tup (pv 3) pe_int (fun _ _ => rfl)) pa_nil)) pa_nil)))))))
    (pss_one (ps_ret (pv 2))))), ?_⟩
    refine ⟨.ref p, rfl, .ref a, rfl, a, sh, rfl, hsh, hl, fun H1 b ws s1 hb hw => ?_⟩
    refine ⟨b, rfl, ⟨_, SqL.of hb⟩, for_list (K := K) (a := b) (xs := ws) (fun i σ H2 => ∃ (c : Addr) (v3 : Option V), σ = [some (.ref p), some (.ref a), some (.ref c), v3] ∧ Same H1 H2 ∧ RowF H2 c (behindT st ((sh.filter isT).take i)))
      ⟨p, none, rfl, Same.refl _, hp.same s1⟩ (fun i σ H2 _ ⟨_, _, _, s2, _⟩ => SqL.of (s2 _ _ hb)) ?_ ?_⟩
    · rintro i x σ H2 hi ⟨c, v3, rfl, s2, hc⟩
      obtain ⟨d, z, rfl, hz, hzt⟩ := hw.get hi
      obtain ⟨x, y, rfl, hm⟩ := mem_isT hz
      obtain ⟨A, M, C, est, _⟩ := so.tch x y hm
      have he : EvT K H2 p d st x y A M C := ⟨(hp.same s1).same s2, sameT s2 hzt, nd, est⟩
      have hx := he.x
      have hy := he.y
      have ey : st.idxOf y = A.length := idx_at nd est
      have ex : st.idxOf x = A.length + 1 + M.length := by
        rw [idx_at (A := A ++ y :: M) (C := C) nd (by rw [est]; simp)]
        simp
        omega
      have lrow : (behindT st ((sh.filter isT).take i)).length = st.length := by
        unfold behindT
        generalize (sh.filter isT).take i = l
        have : ∀ (l : List (TB.Ev Str)) (row : List Str), (l.foldl (exT st) row).length = row.length := by
          intro l
          induction l with
          | nil => intro row; rfl
          | cons z l ih => intro row; rw [List.foldl_cons, ih, exT_len]
        exact this l st
      have lx := (List.getElem?_eq_some_iff.mp hx.1).1
      have ly := (List.getElem?_eq_some_iff.mp hy.1).1
      refine ⟨.ref c, rfl, .ref p, rfl, ⟨p, _, rfl, he.1⟩, .ref d, rfl, d, _, 1, _, rfl, rfl, he.2.1, atI_nat (j := 1) rfl, p, st, x, _, rfl, rfl, he.1.t, hx.1, hx.2, ?_⟩
      refine ⟨.ref p, rfl, ⟨p, _, rfl, he.1⟩, .ref d, rfl, d, _, 2, _, rfl, rfl, he.2.1, atI_nat (j := 2) rfl, p, st, y, _, rfl, rfl, he.1.t, hy.1, hy.2, ?_⟩
      refine ⟨c, _, _, _, _, _, rfl, hc, List.getElem?_eq_getElem (by omega), List.getElem?_eq_getElem (by omega), fun H3 e s3 he3 => ?_⟩
      refine ⟨e, some (.ref d), rfl, s2.trans s3, ?_⟩
      rw [take_snoc hz]
      have e4 : behindT st ((sh.filter isT).take i ++ [.touch x y]) = exT st (behindT st ((sh.filter isT).take i)) (.touch x y) := by
        unfold behindT
        rw [List.foldl_append]
        rfl
      rw [e4, exT_at ex ey (by omega) (by omega)]
      exact he3
    · rintro σ H2 ⟨c, v3, rfl, s2, hc⟩
      rw [hw.len, List.take_length] at hc
      exact ⟨.ref c, rfl, q H2 c (s1.trans s2) hc⟩
end
end TBW
namespace TBW
open PySem PySem.Spec PyProof.Rows L2 TBR
theorem ltz {n : Nat} (h : n ≤ 100000) : n < sizeLine := Nat.lt_of_le_of_lt h (by decide)
theorem lez {n : Nat} (h : n ≤ 100000) : n ≤ sizeLine := Nat.le_of_lt (ltz h)
theorem evL_bs (z : TB.Ev Str) : cutV (evL z) (some 1) none = z.bs.map V.str := by
  cases z <;> rfl
theorem sl_ev {K : PySem.W.Frag} {H : Hp} {a : Addr} {z : TB.Ev Str} {Q : VK} (h : SqT K H a (evL z)) (q : ∀ H' b, Same H H' → RowF H' b z.bs → Q (.ref b) H') : rSlF K (.ref a) (some 1) none H Q := by
  refine ⟨a, _, rfl, h, fun c => ?_, fun c p o hp ho => ?_⟩
  · exfalso
    have := c.1
    cases z <;> simp [evL, HT.sIx] at this
  · refine q _ p (same_upd hp) ?_
    rw [evL_bs]
    exact TupF.new ho
theorem slNo {K : PySem.W.Frag} {x : V} {lo : Option Int} {σ : L2.St} {H : Hp} {Q : VK} (h : rSlF K x lo none H Q) : tNoPart σ H fun u H3 => rSlF K x lo u H3 Q := h
theorem lcYes {σ : L2.St} {H : Hp} {A B : Hp → Prop} (h : A H) : tYes σ H fun b H3 => if b = true then A H3 else B H3 := h
def mt (bs : List Str) : List (Key × V) := bs.map fun b => (Sum.inr b, V.bl true)
theorem mt_none : ∀ {bs : List Str} {x : Str}, x ∉ bs → valV (mt bs) (Sum.inr x) = none
  | [], _, _ => rfl
  | b :: bs, x, h => by
    have h1 : ¬ (Sum.inr b : Key) = Sum.inr x := fun e => h (by
      cases e
      simp)
    show valV ((Sum.inr b, V.bl true) :: mt bs) (Sum.inr x) = none
    rw [valV_neg h1]
    exact mt_none fun e => h (List.mem_cons_of_mem _ e)
theorem mt_snoc (bs : List Str) (x : Str) : mt bs ++ [(Sum.inr x, V.bl true)] = mt (bs ++ [x]) := by
  unfold mt
  rw [List.map_append]
  rfl
theorem boats_len (sh : List (TB.Ev Str)) : (TB.boats sh).length ≤ 2 * sh.length := by
  induction sh with
  | nil => simp [TB.boats]
  | cons z sh ih =>
    have e : TB.boats (z :: sh) = z.bs ++ TB.boats sh := by simp [TB.boats]
    rw [e, List.length_append, List.length_cons]
    have : z.bs.length ≤ 2 := by cases z <;> simp [TB.Ev.bs]
    omega
theorem boats_snoc {sh : List (TB.Ev Str)} {i : Nat} {z : TB.Ev Str} (h : sh[i]? = some z) : TB.boats (sh.take (i + 1)) = TB.boats (sh.take i) ++ z.bs := by
  rw [take_snoc h, TB.boats_app]
  simp [TB.boats]
section
variable {P : Program} {w : World} {K : PySem.W.Frag} {mg : Str → Option Value} {base : Heap}
def spStrange (K : PySem.W.Frag) : Sp := fun vs H Q _ => ∃ (p a : Addr) (st : List Str) (sh : List (TB.Ev Str)), vs = [.ref p, .ref a] ∧ RowF H p st ∧ ShV K H a sh ∧ (TB.boats sh).Nodup ∧ (∀ z, z ∈ TB.boats sh → z ∈ st) ∧ sh.length ≤ 1000 ∧ ∀ H', Same H H' → Q .non H'
theorem ok_strange_or_twice {f : Addr} {fd : FuncData} (F : Fun K "strange_or_twice" "strange_or_twice" s_strange_or_twice f fd) (T : Blt mg) : FnOk P w K mg base CX0 1 f fd ["start", "sheet"] (spStrange K) := by
  refine F.ok sc_strange_or_twice (fun vs H Q E h => ?_) (fun cdv A outer s H vs Q E hr h => ?_)
  · obtain ⟨p, a, st, sh, rfl, _⟩ := h
    rfl
  · obtain ⟨p, a, st, sh, rfl, hp, ⟨vs0, hS, hE⟩, nd, sub, hl, q⟩ := h
    have hu := hu_of hr
    refine ⟨_, (pss_cons (ps_set (i := 2) sc_strange_or_twice.nd rfl (.inl rfl) pe_dnewK)
    (pss_cons (ps_for PassesOwn.never rfl (pi_tup (pv 1)) (pg_name (i := 3) sc_strange_or_twice.nd rfl (.inl rfl))
      (pss_one (ps_for PassesOwn.never rfl (pi_tup (pe_slice sl_tupF (pv 3) (po_some pe_int) po_none)) (pg_name (i := 4) sc_strange_or_twice.nd rfl (.inl rfl))
        (pss_cons (ps_if (pt_cmpR op_notIn_seq (pv 4) (pv 0) (by rfl))
          (pss_one (ps_ret (pe_tup (pa_cons pe_str (pa_cons (pv 4) pa_nil)))))
          pss_nil)
        (pss_cons (ps_if (pt_cmp (pc_din hu (pv 4) (pv 2)) (by rfl))
          (pss_one (ps_ret (pe_tup (pa_cons pe_str (pa_cons (pv 4) pa_nil)))))
          pss_nil)
        (pss_one (ps_dput hu (pv 2) (pv 4) pe_bl rfl)))))))
    (pss_one (ps_ret pe_non)))), ?_⟩
    intro D hD
    refine ⟨.ref a, rfl, a, rfl, ⟨_, sameT (same_upd hD) hS⟩, for_tup (K := K) (a := a) (xs := vs0) (fun i σ H2 => ∃ v3 v4 : Option V, σ = [some (.ref p), some (.ref a), some (.ref D), v3, v4] ∧ Same H H2 ∧ H2 D = some (.dK (mt (TB.boats (sh.take i)))))
      ⟨none, none, rfl, same_upd hD, upd_same⟩ (fun i σ H2 _ ⟨_, _, _, s2, _⟩ => sameT s2 hS) ?_ ?_⟩
    · rintro i x σ H2 hi ⟨v3, v4, rfl, s2, hd⟩
      obtain ⟨e, z, rfl, hz, hzt⟩ := hE.get hi
      have bl := boats_snoc hz
      have pre : ∃ B, TB.boats sh = (TB.boats (sh.take i) ++ z.bs) ++ B := by
        refine ⟨TB.boats (sh.drop (i + 1)), ?_⟩
        rw [← bl, ← TB.boats_app, List.take_append_drop]
      obtain ⟨B, eB⟩ := pre
      have lb := boats_len sh
      rw [eB, List.length_append, List.length_append] at lb
      refine ⟨.ref e, rfl, 1, rfl, ?_⟩
      refine slNo (sl_ev (sameT s2 hzt) fun H3 b s3 hb => ⟨b, rfl, ⟨_, hb.t⟩, for_tup (K := K) (a := b) (xs := z.bs.map V.str) (fun j σ H4 => ∃ v4 : Option V, σ = [some (.ref p), some (.ref a), some (.ref D), some (.ref e), v4] ∧ Same H H4 ∧ RowF H4 b z.bs ∧ H4 D = some (.dK (mt (TB.boats (sh.take i) ++ z.bs.take j))))
        ⟨v4, rfl, s2.trans s3, hb, ?_⟩ (fun j σ H4 _ ⟨_, _, _, h4, _⟩ => h4.t) ?_ ?_⟩)
      · rw [List.take_zero, List.append_nil]
        exact s3 _ _ hd
      · rintro j y σ H4 hj ⟨v4, rfl, s4, hb4, hd4⟩
        obtain ⟨x, hx, rfl⟩ := strget hj
        have hxz : x ∈ z.bs := List.mem_of_getElem? hx
        have hxb : x ∈ TB.boats sh := by
          rw [eB]
          simp [hxz]
        have tk := take_snoc hx
        have hnot : x ∉ TB.boats (sh.take i) ++ z.bs.take j := by
          have e2 : TB.boats sh = (TB.boats (sh.take i) ++ z.bs.take j) ++ ([x] ++ (z.bs.drop (j + 1) ++ B)) := by
            rw [eB]
            conv => lhs; rw [← List.take_append_drop (j + 1) z.bs, tk]
            simp
          rw [e2, List.nodup_append] at nd
          exact fun h => nd.2.2 x h x (by simp) rfl
        refine ⟨.str x, rfl, .ref p, rfl, p, _, rfl, .inr (hp.same s4).t, rfl, flat_strs st, _, rfl, ?_⟩
        rw [inV_str, decide_eq_true (sub x hxb)]
        refine iteF ?_
        refine ⟨_, rfl, _, rfl, D, _, rfl, DGet.k (k := Sum.inr x) hd4, _, rfl, ?_⟩
        rw [mt_none hnot]
        refine iteF ?_
        refine ⟨_, rfl, _, rfl, D, _, rfl, DPut.k (k := Sum.inr x) hd4 (ltz ?_), ?_⟩
        · unfold mt
          rw [List.length_map, List.length_append]
          have : (z.bs.take j).length ≤ z.bs.length := by rw [List.length_take]; omega
          omega
        · rw [putK_new _ (mt_none hnot), mt_snoc]
          refine ⟨_, rfl, sameUpd s4 hD, (SameT.dct hd4).row hb4, ?_⟩
          rw [upd_same, tk, List.append_assoc]
      · rintro σ H4 ⟨v4, rfl, s4, hb4, hd4⟩
        refine ⟨_, _, rfl, s4, ?_⟩
        rw [bl, hd4, List.length_map, List.take_length]
    · rintro σ H2 ⟨v3, v4, rfl, s2, hd⟩
      exact q H2 s2
def spTouchFault (K : PySem.W.Frag) : Sp := fun vs H Q _ => ∃ (p a e : Addr) (st : List Str) (sh : List (TB.Ev Str)) (r : Nat) (x y : Str), vs = [.ref p, .int r, .ref a, .ref e] ∧ RowF H p st ∧ st.Nodup ∧ ShV K H a sh ∧ TB.Sound st r sh ∧ TB.Ev.touch x y ∈ sh ∧
  SqT K H e [.str "touch", .str x, .str y] ∧ sh.length ≤ 1000 ∧ ∀ H', Same H H' → Q .non H'
theorem ok_touch_fault {f : Addr} {fd : FuncData} (F : Fun K "touch_fault" "touch_fault" s_touch_fault f fd) (T : Blt mg) (c_goes_ahead : Cal P w K mg base 1 "goes_ahead" ["start", "event"] (spAhead K)) (c_boats_between : Cal P w K mg base 1 "boats_between" ["start", "event"] (spBetween K)) :
    FnOk P w K mg base CX0 2 f fd ["start", "reach", "sheet", "event"] (spTouchFault K) := by
  refine F.ok sc_touch_fault (fun vs H Q E h => ?_) (fun cdv A outer s H vs Q E hr h => ?_)
  · obtain ⟨p, a, e, st, sh, r, x, y, rfl, _⟩ := h
    rfl
  · obtain ⟨p, a, e, st, sh, r, x, y, rfl, hp, nd, ⟨vs0, hS, hE⟩, so, hm, he, hl, q⟩ := h
    have hu := hu_of hr
    obtain ⟨A, M, C, est, hM, sub, _⟩ := so.tch x y hm
    have hev : EvT K H p e st x y A M C := ⟨hp, he, nd, est⟩
    refine ⟨_, (pss_cons (ps_if (pt_not (pt_val (pe_k c_goes_ahead hr (by decide) (by rfl) (pa_cons (pv 0) (pa_cons (pv 3) pa_nil)))))
      (pss_one (ps_ret (pe_tup (pa_cons pe_str (pa_cons (pv 3) pa_nil)))))
      pss_nil)
    (pss_cons (ps_set (i := 4) sc_touch_fault.nd rfl (.inl rfl) (pe_k c_boats_between hr (by decide) (by rfl) (pa_cons (pv 0) (pa_cons (pv 3) pa_nil))))
    (pss_cons (ps_if (pt_cmpR op_gt (pe_callB call_len_seq (by rfl) T.len PySem.boot_len (pa_cons (pv 4) pa_nil)) (pv 1) (by rfl))
      (pss_one (ps_ret (pe_tup (pa_cons pe_str (pa_cons (pv 3) pa_nil)))))
      pss_nil)
    (pss_cons (ps_for PassesOwn.never rfl (pi_tup (pv 4)) (pg_name (i := 5) sc_touch_fault.nd rfl (.inr rfl))
      (pss_one (ps_if (pt_not (pt_val (pe_callB (cr_any rfl) (by rfl) T.any (by decide +kernel) (pa_cons (pe_lc (own := [("other", 6)]) (g := gName 6) (by rfl) sc_touch_fault.nd (pi_tup (pv 2)) (blkOk_by (own := [("other", 6)]) (N := ["start", "reach", "sheet", "event", "between", "boat", "other"]) (sc := defScope s_touch_fault) (by decide +kernel)) (fun _ _ _ _ _ => (pg_name (i := 6) sc_touch_fault.nd rfl (.inl rfl))) (fun _ _ _ _ _ => pts_nil) (fun _ _ _ _ _ => (pe_cmpR (r := rIn K false) op_in_seq (pv 5) (pe_slice (r := rSlF K) sl_tupF (pv 6) (po_some pe_int) po_none) (by rfl)))) pa_nil))))
        (pss_one (ps_ret (pe_tup (pa_cons pe_str (pa_cons (pv 3) (pa_cons (pv 5) pa_nil))))))
        pss_nil)))
    (pss_one (ps_ret pe_non)))))), ?_⟩
    refine ⟨.ref p, rfl, .ref e, rfl, p, e, st, x, y, A, M, C, rfl, hev, _, rfl, ?_⟩
    refine iteF ?_
    refine ⟨.ref p, rfl, .ref e, rfl, p, e, st, x, y, A, M, C, rfl, hev, fun H1 b s1 hb => ?_⟩
    refine ⟨.ref b, rfl, b, _, rfl, .inr hb.t, .int r, rfl, _, _, rfl, rfl, _, rfl, ?_⟩
    refine ite2 (fun c => ?_) (fun _ => ?_)
    · exfalso
      have := of_decide_eq_true c
      rw [List.length_map] at this
      omega
    refine ⟨.ref b, rfl, b, rfl, ⟨_, hb.t⟩, for_tup (K := K) (a := b) (xs := M.map V.str) (fun i σ H2 => ∃ v5 v6 : Option V, σ = [some (.ref p), some (.int r), some (.ref a), some (.ref e), some (.ref b), v5, v6] ∧ Same H1 H2)
      ⟨none, none, rfl, Same.refl _⟩ (fun i σ H2 _ ⟨_, _, _, h2⟩ => sameT h2 hb.t) ?_ ?_⟩
    · rintro i v σ H2 hi ⟨v5, v6, rfl, s2⟩
      obtain ⟨z, hz, rfl⟩ := strget hi
      have hzM : z ∈ TB.boats sh := sub z (List.mem_of_getElem? hz)
      have sH : Same H H2 := s1.trans s2
      refine ⟨.ref a, rfl, a, rfl, ⟨_, sameT sH hS⟩, fun D hD => lc_tup (K := K) (a := a) (xs := vs0) (fun j H3 => Same H2 H3 ∧ H3 D = some (.lst (((sh.take j).map fun e => decide (z ∈ e.bs)).map V.bl))) ⟨same_upd hD, upd_same⟩ (fun j H3 _ h => sameT (sH.trans h.1) hS) (fun j x3 H3 hj h3 => ?_) (fun H3 h3 => ?_)⟩
      · obtain ⟨sm, hd⟩ := h3
        obtain ⟨d, z3, rfl, hz3, hzt⟩ := hE.get hj
        have hj2 := (List.getElem?_eq_some_iff.mp hz3).1
        refine ⟨rfl, ?_⟩
        refine lcYes ?_
        refine ⟨.str z, rfl, .ref d, rfl, 1, rfl, slNo (sl_ev (sameT (sH.trans sm) hzt) fun H4 g s4 hg => ?_)⟩
        refine ⟨g, _, rfl, .inr hg.t, rfl, flat_strs _, _, s4 _ _ hd, ltz ?_, sameUpd (sm.trans s4) hD, ?_⟩
        · rw [List.length_map, List.length_map, List.length_take]
          omega
        · rw [upd_same, inV_str, take_snoc hz3, List.map_append, List.map_append]
          simp
      · obtain ⟨sm, hd⟩ := h3
        have hd : H3 D = some (.lst ((sh.map fun e => decide (z ∈ e.bs)).map V.bl)) := by
          rw [hd, hE.len, List.take_length]
        refine ⟨D, _, rfl, SqL.of hd, _, rfl, ?_⟩
        have e1 : (sh.map fun e => decide (z ∈ e.bs)).any id = true := by
          rw [List.any_map, List.any_eq_true]
          obtain ⟨g, hg, hg2⟩ := List.mem_flatMap.mp hzM
          exact ⟨g, hg, decide_eq_true hg2⟩
        rw [e1]
        refine iteF ?_
        exact ⟨_, _, rfl, s2.trans sm⟩
    · rintro σ H2 ⟨v5, v6, rfl, s2⟩
      exact q H2 (s1.trans s2)
def spCrossed (K : PySem.W.Frag) : Sp := fun vs H Q _ => ∃ (p e d : Addr) (st : List Str) (x y u v : Str) (A M C : List Str), vs = [.ref p, .ref e, .ref d] ∧ EvT K H p e st x y A M C ∧ SqT K H d [.str "touch", .str u, .str v] ∧ (u ∈ M ↔ v ∈ M) ∧ ∀ H', Same H H' → Q (.bl false) H'
theorem ok_is_crossed {f : Addr} {fd : FuncData} (F : Fun K "is_crossed" "is_crossed" s_is_crossed f fd) (T : Blt mg) (c_boats_between : Cal P w K mg base 1 "boats_between" ["start", "event"] (spBetween K)) :
    FnOk P w K mg base CX0 2 f fd ["start", "one", "other"] (spCrossed K) := by
  refine F.ok sc_is_crossed (fun vs H Q E h => ?_) (fun cdv A outer s H vs Q E hr h => ?_)
  · obtain ⟨p, e, d, st, x, y, u, v, A, M, C, rfl, _⟩ := h
    rfl
  · obtain ⟨p, e, d, st, x, y, u, v, A, M, C, rfl, hev, hd, huv, q⟩ := h
    refine ⟨_, (pss_cons (ps_set (i := 3) sc_is_crossed.nd rfl (.inl rfl) (pe_k c_boats_between hr (by decide) (by rfl) (pa_cons (pv 0) (pa_cons (pv 1) pa_nil))))
    (pss_one (ps_ret (pe_cmpR op_ne (pe_cmpR op_in_seq (pe_ix ix_tup (pv 2) pe_int (fun _ _ => rfl)) (pv 3) (by rfl)) (pe_cmpR op_in_seq (pe_ix ix_tup (pv 2) pe_int (fun _ _ => rfl)) (pv 3) (by rfl)) (by rfl))))), ?_⟩
    refine ⟨.ref p, rfl, .ref e, rfl, p, e, st, x, y, A, M, C, rfl, hev, fun H1 b s1 hb => ?_⟩
    refine ⟨.ref d, rfl, d, _, 1, _, rfl, rfl, sameT s1 hd, atI_nat (j := 1) rfl, .ref b, rfl, b, _, rfl, .inr hb.t, rfl, flat_strs M, ?_⟩
    refine ⟨.ref d, rfl, d, _, 2, _, rfl, rfl, sameT s1 hd, atI_nat (j := 2) rfl, .ref b, rfl, b, _, rfl, .inr hb.t, rfl, flat_strs M, ?_⟩
    refine ⟨rfl, ?_⟩
    rw [inV_str, inV_str]
    have := q H1 s1
    by_cases hu : u ∈ M
    · rw [decide_eq_true hu, decide_eq_true (huv.mp hu)]
      exact this
    · rw [decide_eq_false hu, decide_eq_false (fun h => hu (huv.mpr h))]
      exact this
/-- how many places an event takes -/
def spLen (K : PySem.W.Frag) : Sp := fun vs H Q _ => ∃ (p e : Addr) (st : List Str) (sh : List (TB.Ev Str)) (r : Nat) (z : TB.Ev Str), vs = [.ref p, .ref e] ∧ RowF H p st ∧ st.Nodup ∧ TB.Sound st r sh ∧ z ∈ sh ∧ SqT K H e (evL z) ∧ ∀ H' (n : Nat), Same H H' → n ≤ 2 + st.length → Q (.int n) H'
theorem ok_length_of {f : Addr} {fd : FuncData} (F : Fun K "length_of" "length_of" s_length_of f fd) (T : Blt mg) (c_boats_between : Cal P w K mg base 1 "boats_between" ["start", "event"] (spBetween K)) :
    FnOk P w K mg base CX0 2 f fd ["start", "event"] (spLen K) := by
  refine F.ok sc_length_of (fun vs H Q E h => ?_) (fun cdv A outer s H vs Q E hr h => ?_)
  · obtain ⟨p, e, st, sh, r, z, rfl, _⟩ := h
    rfl
  · obtain ⟨p, e, st, sh, r, z, rfl, hp, nd, so, hz, he, q⟩ := h
    refine ⟨_, (pss_cons (ps_if (pt_cmpR op_eq (pe_ix ix_tup (pv 1) pe_int (fun _ _ => rfl)) pe_str (by rfl))
      (pss_one (ps_ret pe_int))
      pss_nil)
    (pss_one (ps_ret (pe_op op_add (pe_callB call_len_seq (by rfl) T.len PySem.boot_len (pa_cons (pe_k c_boats_between hr (by decide) (by rfl) (pa_cons (pv 0) (pa_cons (pv 1) pa_nil))) pa_nil)) pe_int)))), ?_⟩
    cases z with
    | drop x =>
      refine ⟨.ref e, rfl, e, _, 0, _, rfl, rfl, he, rfl, rfl, _, rfl, iteT ?_⟩
      exact q H 1 (Same.refl H) (by omega)
    | touch x y =>
      obtain ⟨A, M, C, est, hM, sub, _⟩ := so.tch x y hz
      refine ⟨.ref e, rfl, e, _, 0, _, rfl, rfl, he, rfl, rfl, _, rfl, iteF ?_⟩
      refine ⟨.ref p, rfl, .ref e, rfl, p, e, st, x, y, A, M, C, rfl, ⟨hp, he, nd, est⟩, fun H1 b s1 hb => ?_⟩
      refine ⟨b, _, rfl, .inr hb.t, _, _, rfl, rfl, ?_⟩
      rw [List.length_map]
      refine q H1 (M.length + 2) s1 ?_
      rw [est]
      simp
      omega
end
end TBW
namespace TBW
open PySem PySem.Spec PyProof.Rows L2 TBR
theorem cutV_to (xs : List V) (hi : Nat) : cutV xs none (some (hi : Int)) = xs.take hi := cutS_to xs hi
open Classical in
theorem sort_use {K : PySem.W.Frag} {H : Hp} {a : Addr} {xs : List V} {Q : VK} (S : PyData → Prop) (hS : SqL K H a xs) (hd : ∀ x ∈ xs, ∃ d, Dp K H x d ∧ S d) (hal : ∀ d d', S d → S d' → PySem.W.alike d d' = true) (ht : ∀ d, S d → ∃ x r, d = .tuple (x :: r)) (hp : ∀ d, S d → d.depth ≤ 60)
    (q : ∀ ys p, ys.Perm xs → H p = none → Q (.ref p) (upd H p (.lst ys))) : rSortD K [.ref a] H Q := by
  have hk : ∀ x ∈ xs, Dp K H x (if h : ∃ d, Dp K H x d ∧ S d then h.choose else .none) ∧ S (if h : ∃ d, Dp K H x d ∧ S d then h.choose else .none) := by
    intro x hx
    have h := hd x hx
    rw [dif_pos h]
    exact h.choose_spec
  refine ⟨a, xs, fun x => if h : ∃ d, Dp K H x d ∧ S d then h.choose else .none, rfl, hS, fun x hx => (hk x hx).1, ?_, .inl ?_, fun x hx => hp _ (hk x hx).2, q⟩
  · intro d h1 d' h2
    obtain ⟨x, hx, rfl⟩ := List.mem_map.mp h1
    obtain ⟨y, hy, rfl⟩ := List.mem_map.mp h2
    exact hal _ _ (hk x hx).2 (hk y hy).2
  · intro d h1
    obtain ⟨x, hx, rfl⟩ := List.mem_map.mp h1
    exact ht _ (hk x hx).2
theorem sortNil {K : PySem.W.Frag} {x : V} {σ : L2.St} {H : Hp} {Q : VK} (h : rSortD K [x] H Q) : tNil σ H fun xs H2 => rSortD K (x :: xs) H2 Q := h
/-- an event as data -/
def evD : TB.Ev Str → PyData
  | .drop x => .tuple [.str "drop", .str x]
  | .touch x y => .tuple [.str "touch", .str x, .str y]
theorem evD_dp {K : PySem.W.Frag} {H : Hp} {a : Addr} {z : TB.Ev Str} (h : SqT K H a (evL z)) : Dp K H (.ref a) (evD z) := by
  cases z with
  | drop x => exact .tup h (.cons (.str _) (.cons (.str _) .nil))
  | touch x y => exact .tup h (.cons (.str _) (.cons (.str _) (.cons (.str _) .nil)))
theorem evD_alike (z z' : TB.Ev Str) : PySem.W.alike (evD z) (evD z') = true := by
  cases z <;> cases z' <;> simp [evD, PySem.W.alike, PySem.W.alikeAll]
theorem evD_depth (z : TB.Ev Str) : (evD z).depth = 1 := by
  cases z <;> simp [evD, PyData.depth, PyData.depthAll]
section
variable {P : Program} {w : World} {K : PySem.W.Frag} {mg : Str → Option Value} {base : Heap}
def spFault (K : PySem.W.Frag) : Sp := fun vs H Q _ => ∃ (p a : Addr) (st : List Str) (sh : List (TB.Ev Str)) (r : Nat), vs = [.ref p, .int r, .ref a] ∧ RowF H p st ∧ st.Nodup ∧ ShV K H a sh ∧ TB.Sound st r sh ∧ sh.length ≤ 1000 ∧ ∀ H', Same H H' → Q .non H'
theorem ok_fault_of {f : Addr} {fd : FuncData} (F : Fun K "fault_of" "fault_of" s_fault_of f fd) (T : Blt mg) (c_strange_or_twice : Cal P w K mg base 1 "strange_or_twice" ["start", "sheet"] (spStrange K)) (c_touches_in : Cal P w K mg base 1 "touches_in" ["sheet"] (spTouches K))
    (c_touch_fault : Cal P w K mg base 2 "touch_fault" ["start", "reach", "sheet", "event"] (spTouchFault K)) (c_is_crossed : Cal P w K mg base 2 "is_crossed" ["start", "one", "other"] (spCrossed K)) :
    FnOk P w K mg base CX0 3 f fd ["start", "reach", "sheet"] (spFault K) := by
  refine F.ok sc_fault_of (fun vs H Q E h => ?_) (fun cdv A outer s H vs Q E hr h => ?_)
  · obtain ⟨p, a, st, sh, r, rfl, _⟩ := h
    rfl
  · obtain ⟨p, a, st, sh, r, rfl, hp, nd, hsh, so, hl, q⟩ := h
    refine ⟨_, (pss_cons (ps_set (i := 3) sc_fault_of.nd rfl (.inl rfl) (pe_k c_strange_or_twice hr (by decide) (by rfl) (pa_cons (pv 0) (pa_cons (pv 2) pa_nil))))
    (pss_cons (ps_if (pt_cmpR op_notN (pv 3) pe_non (by rfl))
      (pss_one (ps_ret (pv 3)))
      pss_nil)
    (pss_cons (ps_set (i := 4) sc_fault_of.nd rfl (.inl rfl) (pe_k c_touches_in hr (by decide) (by rfl) (pa_cons (pv 2) pa_nil)))
    (pss_cons (ps_for PassesOwn.never rfl (pi_list (pv 4)) (pg_name (i := 5) sc_fault_of.nd rfl (.inl rfl))
      (pss_cons (ps_set (i := 3) sc_fault_of.nd rfl (.inl rfl) (pe_k c_touch_fault hr (by decide) (by rfl) (pa_cons (pv 0) (pa_cons (pv 1) (pa_cons (pv 2) (pa_cons (pv 5) pa_nil))))))
      (pss_one (ps_if (pt_cmpR op_notN (pv 3) pe_non (by rfl))
        (pss_one (ps_ret (pv 3)))
        pss_nil))))
    (pss_cons (ps_for PassesOwn.never rfl (pi_enum (by rfl) T.enumerate (pa_cons (pv 4) pa_nil)) (pg_tup (by rfl) (pgs_cons (pg_name (i := 6) sc_fault_of.nd rfl (.inl rfl)) (pgs_cons (pg_name (i := 7) sc_fault_of.nd rfl (.inl rfl)) pgs_nil)))
      (pss_one (ps_for PassesOwn.never rfl (pi_list (pe_slice sl_list (pv 4) po_none (po_some (pv 6)))) (pg_name (i := 8) sc_fault_of.nd rfl (.inl rfl))
        (pss_one (ps_if (pt_val (pe_k c_is_crossed hr (by decide) (by rfl) (pa_cons (pv 0) (pa_cons (pv 7) (pa_cons (pv 8) pa_nil)))))
          (pss_one (ps_ret (pe_tup (pa_cons pe_str (pa_cons (pv 7) (pa_cons (pv 8) pa_nil))))))
          pss_nil)))))
    (pss_one (ps_ret pe_non))))))), ?_⟩
    refine ⟨.ref p, rfl, .ref a, rfl, p, a, st, sh, rfl, hp, hsh, so.nd, so.sub, hl, fun H1 s1 => ?_⟩
    refine ⟨_, rfl, rfl, _, rfl, iteNS rfl ?_⟩
    refine ⟨.ref a, rfl, a, sh, rfl, hsh.same s1, hl, fun H2 b ws s2 hb hw => ?_⟩
    refine ⟨.ref b, rfl, b, rfl, ⟨_, SqL.of hb⟩, for_list (K := K) (a := b) (xs := ws) (fun i σ H3 => ∃ v3 v5 v6 v7 v8 : Option V, σ = [some (.ref p), some (.int r), some (.ref a), v3, some (.ref b), v5, v6, v7, v8] ∧ Same H2 H3)
      ⟨_, none, none, none, none, rfl, Same.refl _⟩ (fun i σ H3 _ ⟨_, _, _, _, _, _, h3⟩ => SqL.of (h3 _ _ hb)) ?_ ?_⟩
    · rintro i x0 σ H3 hi ⟨v3, v5, v6, v7, v8, rfl, s3⟩
      obtain ⟨d, z, rfl, hz, hzt⟩ := hw.get hi
      obtain ⟨x, y, rfl, hm⟩ := mem_isT hz
      have sH := (s1.trans s2).trans s3
      refine ⟨.ref p, rfl, .int r, rfl, .ref a, rfl, .ref d, rfl, p, a, d, st, sh, r, x, y, rfl, hp.same sH, nd, hsh.same sH, so, hm, sameT s3 hzt, hl, fun H4 s4 => ?_⟩
      refine ⟨_, rfl, rfl, _, rfl, iteNS rfl ?_⟩
      exact ⟨_, _, v6, v7, v8, rfl, s3.trans s4⟩
    · rintro σ H3 ⟨v3, v5, v6, v7, v8, rfl, s3⟩
      refine ⟨.ref b, rfl, b, _, rfl, SqL.of (s3 _ _ hb), for_it walk_enum (fun i σ H4 => ∃ v6 v7 v8 : Option V, σ = [some (.ref p), some (.int r), some (.ref a), v3, some (.ref b), v5, v6, v7, v8] ∧ Same H2 H4)
        ⟨_, _, _, rfl, s3⟩ (fun i σ H4 _ ⟨_, _, _, _, h4⟩ => SqL.of (h4 _ _ hb)) ?_ ?_⟩
      · rintro i v σ H4 H5 hi ⟨v6, v7, v8, rfl, s4⟩ ⟨TT, x1, x2, rfl, nT, rfl, e1, e2⟩
        have ex1 : x1 = .int (i : Nat) := (Option.some.inj e1).symm
        subst ex1
        obtain ⟨d, z, rfl, hz, hzt⟩ := hw.get e2
        obtain ⟨x, y, rfl, hm⟩ := mem_isT hz
        have s5 : Same H2 (upd H4 TT (.tup [.int (i : Nat), .ref d])) := s4.trans (same_upd nT)
        refine ⟨TT, [_, _], rfl, .inl (.inl upd_same), rfl, _, [_], rfl, _, [], rfl, rfl, ?_⟩
        refine ⟨.ref b, rfl, .int i, rfl, i, rfl, b, _, rfl, SqL.of (s5 _ _ hb), fun c nc => ?_⟩
        rw [cutV_to]
        refine ⟨c, rfl, ⟨_, SqL.of upd_same⟩, for_list (K := K) (a := c) (xs := ws.take i) (fun j σ H6 => ∃ v8 : Option V, σ = [some (.ref p), some (.int r), some (.ref a), v3, some (.ref b), v5, some (.int i), some (.ref d), v8] ∧ Same (upd (upd H4 TT (.tup [.int (i : Nat), .ref d])) c (.lst (ws.take i))) H6)
          ⟨_, rfl, Same.refl _⟩ (fun j σ H6 _ ⟨_, _, h6⟩ => SqL.of (h6 _ _ upd_same)) ?_ ?_⟩
        · rintro j v σ H6 hj ⟨v8, rfl, s6⟩
          have sB : Same H2 H6 := (s5.trans (same_upd nc)).trans s6
          obtain ⟨g, z2, rfl, hz2, hz2t⟩ := (hw.take i).get hj
          have hz3 : (sh.filter isT)[j]? = some z2 := by
            rw [List.getElem?_take] at hz2
            split at hz2
            · exact hz2
            · cases hz2
          obtain ⟨u, v, rfl, hm2⟩ := mem_isT hz3
          obtain ⟨A, M, C, est, hM, sub, cr⟩ := so.tch x y hm
          refine ⟨.ref p, rfl, .ref d, rfl, .ref g, rfl, p, d, g, st, x, y, u, v, A, M, C, rfl, ⟨(hp.same (s1.trans s2)).same sB, sameT sB hzt, nd, est⟩, sameT sB hz2t, cr u v hm2, fun H7 s7 => ?_⟩
          exact ⟨_, rfl, iteF ⟨_, rfl, s6.trans s7⟩⟩
        · rintro σ H6 ⟨v8, rfl, s6⟩
          exact ⟨_, _, _, rfl, (s5.trans (same_upd nc)).trans s6⟩
      · rintro σ H4 ⟨v6, v7, v8, rfl, s4⟩
        exact q H4 ((s1.trans s2).trans s4)
def spOrder (K : PySem.W.Frag) : Sp := fun vs H Q _ => ∃ (p a : Addr) (st : List Str) (sh : List (TB.Ev Str)) (r : Nat), vs = [.ref p, .int r, .ref a] ∧ RowF H p st ∧ st.Nodup ∧ ShV K H a sh ∧ TB.Sound st r sh ∧ sh.length ≤ 1000 ∧ ∀ H' q v, Same H H' → SqT K H' q [.str "course", v] → Q (.ref q) H'
theorem ok_order_of {f : Addr} {fd : FuncData} (F : Fun K "order_of" "order_of" s_order_of f fd) (T : Blt mg) (c_fault_of : Cal P w K mg base 3 "fault_of" ["start", "reach", "sheet"] (spFault K)) (c_length_of : Cal P w K mg base 2 "length_of" ["start", "event"] (spLen K)) :
    FnOk P w K mg base CX0 4 f fd ["start", "reach", "sheet"] (spOrder K) := by
  refine F.ok sc_order_of (fun vs H Q E h => ?_) (fun cdv A outer s H vs Q E hr h => ?_)
  · obtain ⟨p, a, st, sh, r, rfl, _⟩ := h
    rfl
  · obtain ⟨p, a, st, sh, r, rfl, hp, nd, ⟨vs0, hS, hE⟩, so, hl, q⟩ := h
    refine ⟨_, (pss_cons (ps_set (i := 3) sc_order_of.nd rfl (.inl rfl) (pe_k c_fault_of hr (by decide) (by rfl) (pa_cons (pv 0) (pa_cons (pv 1) (pa_cons (pv 2) pa_nil)))))
    (pss_cons (ps_if (pt_cmpR op_notN (pv 3) pe_non (by rfl))
      (pss_one (ps_ret (pe_tup (pa_cons pe_str (pa_cons (pv 3) pa_nil)))))
      pss_nil)
    (pss_cons (ps_set (i := 4) sc_order_of.nd rfl (.inl rfl) (pe_callB (cr_sortD hr.units) (by rfl) T.sorted (by decide +kernel) (pa_cons (pe_lc (own := [("event", 5)]) (g := gName 5) (by rfl) sc_order_of.nd (pi_tup (pv 2)) (blkOk_by (own := [("event", 5)]) (N := ["start", "reach", "sheet", "fault", "order", "event", "length"]) (sc := defScope s_order_of) (by decide +kernel)) (fun _ _ _ _ _ => (pg_name (i := 5) sc_order_of.nd rfl (.inl rfl))) (fun _ _ _ _ _ => pts_nil) (fun _ _ _ _ _ => (pe_tup (pa_cons (pe_k c_length_of hr (by decide) (by rfl) (pa_cons (pv 0) (pa_cons (pv 5) pa_nil))) (pa_cons (pv 5) pa_nil))))) pa_nil)))
    (pss_one (ps_ret (pe_tup (pa_cons pe_str (pa_cons (pe_callTy call_tupF (by rfl) T.tuple (by decide +kernel) (pa_cons (pe_lc (own := [("length", 6), ("event", 5)]) (g := (gTup K 2 (gCons (gName 6) (gCons (gName 5) (gNil))))) (by rfl) sc_order_of.nd (pi_list (pv 4)) (blkOk_by (own := [("length", 6), ("event", 5)]) (N := ["start", "reach", "sheet", "fault", "order", "event", "length"]) (sc := defScope s_order_of) (by decide +kernel)) (fun _ _ _ _ _ => (pg_tup (by rfl) (pgs_cons (pg_name (i := 6) sc_order_of.nd rfl (.inl rfl)) (pgs_cons (pg_name (i := 5) sc_order_of.nd rfl (.inl rfl)) pgs_nil)))) (fun _ _ _ _ _ => pts_nil) (fun _ _ _ _ _ => (pv 5))) pa_nil)) pa_nil)))))))), ?_⟩
    refine ⟨.ref p, rfl, .int r, rfl, .ref a, rfl, p, a, st, sh, r, rfl, hp, nd, ⟨vs0, hS, hE⟩, so, hl, fun H1 s1 => ?_⟩
    refine ⟨_, rfl, rfl, _, rfl, iteNS rfl ?_⟩
    refine ⟨.ref a, rfl, a, rfl, ⟨_, sameT s1 hS⟩, fun D hD => lc_tup (K := K) (a := a) (xs := vs0) (fun j H3 => Same H1 H3 ∧ ∃ ws, H3 D = some (.lst ws) ∧ ws.length = j ∧ ∀ x ∈ ws, ∃ c n e z, x = .ref c ∧ SqT K H3 c [.int n, .ref e] ∧ SqT K H3 e (evL z))
      ⟨same_upd hD, [], upd_same, rfl, fun x hx => by cases hx⟩ (fun j H3 _ h => sameT (s1.trans h.1) hS) (fun j x3 H3 hj h3 => ?_) (fun H3 h3 => ?_)⟩
    · obtain ⟨sm, ws, hd, hn, hall⟩ := h3
      obtain ⟨d, z, rfl, hz, hzt⟩ := hE.get hj
      have hj2 := (List.getElem?_eq_some_iff.mp hz).1
      have sH := s1.trans sm
      refine ⟨rfl, lcYes ?_⟩
      refine ⟨.ref p, rfl, .ref d, rfl, p, d, st, sh, r, z, rfl, hp.same sH, nd, so, List.mem_of_getElem? hz, sameT sH hzt, fun H4 n s4 hn4 => ?_⟩
      refine ⟨.ref d, rfl, (by show 2 ≤ sizeLine; decide), fun c nc => ?_⟩
      have s5 : Same H4 (upd H4 c (.tup [.int n, .ref d])) := same_upd nc
      have hd5 := s5 _ _ (s4 _ _ hd)
      refine ⟨ws, hd5, ltz (by omega), sameUpd ((sm.trans s4).trans s5) hD, _, upd_same, by rw [List.length_append, hn]; rfl, ?_⟩
      intro x hx
      rw [List.mem_append] at hx
      rcases hx with hx | hx
      · obtain ⟨c', n', e', z', rfl, h1, h2⟩ := hall x hx
        exact ⟨c', n', e', z', rfl, (SameT.lst hd5).seq (sameT (s4.trans s5) h1), (SameT.lst hd5).seq (sameT (s4.trans s5) h2)⟩
      · rw [List.mem_singleton] at hx
        subst hx
        exact ⟨c, n, d, z, rfl, (SameT.lst hd5).seq (SqT.of upd_same), (SameT.lst hd5).seq (sameT ((sH.trans s4).trans s5) hzt)⟩
    · obtain ⟨sm, ws, hd, hn, hall⟩ := h3
      refine sortNil (sort_use (fun d => ∃ (n : Int) (z : TB.Ev Str), d = .tuple [.int n, evD z]) (SqL.of hd) (fun x hx => ?_) ?_ ?_ ?_ (fun ys c hperm nc => ?_))
      · obtain ⟨c, n, e, z, rfl, h1, h2⟩ := hall x hx
        exact ⟨_, .tup h1 (.cons (.int n) (.cons (evD_dp h2) .nil)), n, z, rfl⟩
      · rintro d d' ⟨n, z, rfl⟩ ⟨n', z', rfl⟩
        simp [PySem.W.alike, PySem.W.alikeAll, evD_alike]
      · rintro d ⟨n, z, rfl⟩
        exact ⟨_, _, rfl⟩
      · rintro d ⟨n, z, rfl⟩
        simp [PyData.depth, PyData.depthAll, evD_depth]
      · have lys : ys.length = sh.length := by rw [hperm.length_eq, hn, hE.len]
        have sm2 : Same H1 (upd H3 c (.lst ys)) := sm.trans (same_upd nc)
        refine ⟨.ref c, rfl, c, rfl, ⟨_, SqL.of upd_same⟩, fun D2 hD2 => lc_list (K := K) (a := c) (xs := ys) (fun j H5 => Same (upd H3 c (.lst ys)) H5 ∧ ∃ us, H5 D2 = some (.lst us) ∧ us.length = j)
          ⟨same_upd hD2, [], upd_same, rfl⟩ (fun j H5 _ h => SqL.of (h.1 _ _ upd_same)) (fun j x3 H5 hj h5 => ?_) (fun H5 h5 => ?_)⟩
        · obtain ⟨sm5, us, hd5, hn5⟩ := h5
          have hj2 := (List.getElem?_eq_some_iff.mp hj).1
          obtain ⟨g, n, e, z, rfl, h1, h2⟩ := hall x3 (hperm.mem_iff.mp (List.mem_of_getElem? hj))
          refine ⟨g, _, rfl, sameT ((same_upd nc).trans sm5) h1, rfl, _, _, rfl, _, _, rfl, rfl, ?_⟩
          refine ⟨rfl, lcYes ?_⟩
          refine ⟨_, rfl, us, hd5, ltz (by omega), sameUpd sm5 hD2, _, upd_same, by rw [List.length_append, hn5]; rfl⟩
        · obtain ⟨sm5, us, hd5, hn5⟩ := h5
          refine ⟨D2, us, rfl, SqL.of hd5, fun g o ng ho => ?_⟩
          refine ⟨(by show 2 ≤ sizeLine; decide), fun t nt => ?_⟩
          exact q _ t _ ((((s1.trans sm2).trans sm5).trans (same_upd ng)).trans (same_upd nt)) (SqT.of upd_same)
end
end TBW
namespace TBW
open PySem PySem.Spec PyProof.Rows L2 TBR
/-! ### the days, without a heap -/
abbrev Ev := TB.Ev Str
theorem races_lt {n s k : Nat} (h : 1 ≤ s) : k < races n s ↔ k * s < n := by
  unfold races
  rw [← Nat.succ_le_iff, Nat.le_div_iff_mul_le (by omega)]
  rw [show Nat.succ k * s = k * s + s by rw [Nat.succ_mul]]
  omega
theorem races_le {n s : Nat} (h : 1 ≤ s) (h1 : 1 ≤ n) : races n s ≤ n := by
  unfold races
  rw [Nat.div_le_iff_le_mul_add_pred (by omega)]
  have : s * n ≥ 1 * n := Nat.mul_le_mul_right n h
  obtain ⟨t, rfl⟩ : ∃ t, s = t + 1 := ⟨s - 1, by omega⟩
  obtain ⟨u, rfl⟩ : ∃ u, n = u + 1 := ⟨n - 1, by omega⟩
  have e : (t + 1) * (u + 1) = t * u + t + u + 1 := by
    rw [Nat.add_mul, Nat.mul_add]
    omega
  rw [e]
  have := Nat.zero_le (t * u)
  omega
theorem races_pos {n s : Nat} (h : 1 ≤ s) (h1 : 1 ≤ n) : 0 < races n s := (races_lt h).mpr (by omega)
theorem last_ge {n s k : Nat} (h : k * s < n) : k * s ≤ lastOf n s k ∧ lastOf n s k + 1 ≤ n := by
  unfold lastOf
  omega
theorem seg_len {α : Type} {s k : Nat} {row : List α} (h : k * s < row.length) : (seg s k row).length = lastOf row.length s k + 1 - k * s := by
  have := last_ge h
  unfold seg
  rw [List.length_take, List.length_drop]
  omega
theorem seg_parts {α : Type} {s k : Nat} {row : List α} (h : k * s < row.length) : row = row.take (k * s) ++ seg s k row ++ row.drop (lastOf row.length s k + 1) := by
  have hl := last_ge h
  have e : row.drop (lastOf row.length s k + 1) = (row.drop (k * s)).drop (lastOf row.length s k + 1 - k * s) := by
    rw [List.drop_drop]
    congr 1
    omega
  unfold seg
  rw [e, List.append_assoc, List.take_append_drop, List.take_append_drop]
theorem lay_perm {s k : Nat} {row som : List Str} (h : k * s < row.length) (p : som.Perm (seg s k row)) : (lay s k row som).Perm row := by
  conv => rhs; rw [seg_parts h]
  unfold lay
  exact (p.append_left _).append_right _
theorem exch_perm {l : List Str} {i j : Nat} (hi : i < l.length) (hj : j < l.length) : (exch l i j l[i] l[j]).Perm l := List.set_set_perm hi hj
/-- every boat of the events stands there -/
def In (st : List Str) (sh : List Ev) : Prop := ∀ z, z ∈ TB.boats sh → z ∈ st
theorem exT_perm {st row : List Str} {z : Ev} (hl : row.length = st.length) (h : ∀ b, b ∈ z.bs → b ∈ st) : (exT st row z).Perm row := by
  cases z with
  | drop x => exact .refl _
  | touch x y =>
    have hx := List.idxOf_lt_length_of_mem (h x (by simp [TB.Ev.bs]))
    have hy := List.idxOf_lt_length_of_mem (h y (by simp [TB.Ev.bs]))
    rw [exT_at rfl rfl (by omega) (by omega)]
    exact exch_perm _ _
theorem behind_perm {st : List Str} : ∀ (sh : List Ev) (row : List Str), row.length = st.length → In st sh → (sh.foldl (exT st) row).Perm row
  | [], _, _, _ => .refl _
  | z :: sh, row, hl, h => by
    have hz : ∀ b, b ∈ z.bs → b ∈ st := fun b hb => h b (by simp [TB.boats, hb])
    have hs : In st sh := fun b hb => h b (by
      simp only [TB.boats, List.flatMap_cons, List.mem_append]
      exact .inr hb)
    have p := exT_perm hl hz
    rw [List.foldl_cons]
    exact (behind_perm sh _ (by rw [p.length_eq, hl]) hs).trans p
theorem in_filter {st : List Str} {sh : List Ev} (h : In st sh) : In st (sh.filter isT) := fun b hb => h b (by
  obtain ⟨z, hz, hb⟩ := List.mem_flatMap.mp hb
  exact List.mem_flatMap.mpr ⟨z, (List.mem_filter.mp hz).1, hb⟩)
theorem behindT_perm {st : List Str} {sh : List Ev} (h : In st sh) : (behindT st (sh.filter isT)).Perm st := behind_perm _ _ rfl (in_filter h)
def stepR (s k : Nat) (sh : List Ev) (row : List Str) : List Str := lay s k row (behindT (seg s k row) (sh.filter isT))
/-- the row after j races, of m -/
def rowsAt (s m : Nat) (f : Nat → List Ev) (row : List Str) : Nat → List Str
  | 0 => row
  | j + 1 => stepR s (m - 1 - j) (f (m - 1 - j)) (rowsAt s m f row j)
structure DayOk (s r : Nat) (f : Nat → List Ev) (row : List Str) : Prop where
  s1 : 1 ≤ s
  s8 : s ≤ 8
  n1 : 1 ≤ row.length
  n9 : row.length ≤ 100
  nd : row.Nodup
  snd : ∀ j, j < races row.length s → TB.Sound (seg s (races row.length s - 1 - j) (rowsAt s (races row.length s) f row j)) r (f (races row.length s - 1 - j))
  len : ∀ k, k < races row.length s → (f k).length ≤ 1000
theorem rows_perm {s r : Nat} {f : Nat → List Ev} {row : List Str} (D : DayOk s r f row) : ∀ j, j ≤ races row.length s → (rowsAt s (races row.length s) f row j).Perm row
  | 0, _ => .refl _
  | j + 1, h => by
    have ih := rows_perm D j (by omega)
    have so := D.snd j (by omega)
    have hk : (races row.length s - 1 - j) * s < (rowsAt s (races row.length s) f row j).length := by
      rw [ih.length_eq]
      exact (races_lt D.s1).mp (by omega)
    exact (lay_perm hk (behindT_perm so.sub)).trans ih
theorem rows_len {s r : Nat} {f : Nat → List Ev} {row : List Str} (D : DayOk s r f row) {j : Nat} (h : j ≤ races row.length s) : (rowsAt s (races row.length s) f row j).length = row.length := (rows_perm D j h).length_eq
theorem seg_nd {s k : Nat} {row : List Str} (h : row.Nodup) : (seg s k row).Nodup := (List.take_sublist _ _ |>.trans (List.drop_sublist _ _)).nodup h
theorem seg_le {s k : Nat} {row : List Str} : (seg s k row).length ≤ row.length := by
  unfold seg
  rw [List.length_take, List.length_drop]
  omega
/-- the day's sheets -/
def DayV (K : PySem.W.Frag) (H : Hp) (d : Addr) (f : Nat → List Ev) (m : Nat) : Prop := ∃ vs : List V, SqT K H d vs ∧ vs.length = m ∧ ∀ k, k < m → ∃ b, vs[k]? = some (.ref b) ∧ ShV K H b (f k)
theorem SameT.day {K : PySem.W.Frag} {H H' : Hp} (s : SameT H H') {d : Addr} {f : Nat → List Ev} {m : Nat} (h : DayV K H d f m) : DayV K H' d f m := by
  obtain ⟨vs, h1, h2, h3⟩ := h
  refine ⟨vs, s.seq h1, h2, fun k hk => ?_⟩
  obtain ⟨b, e, h⟩ := h3 k hk
  exact ⟨b, e, s.sh h⟩
def downL (m : Nat) : List V := (List.range m).map fun j => V.int ((m - 1 - j : Nat) : Int)
theorem downL_get {m j : Nat} {v : V} (h : (downL m)[j]? = some v) : j < m ∧ v = .int ((m - 1 - j : Nat) : Int) := by
  unfold downL at h
  rw [List.getElem?_map] at h
  by_cases hj : j < m
  · rw [List.getElem?_range hj] at h
    exact ⟨hj, (Option.some.inj h).symm⟩
  · rw [List.getElem?_eq_none (by simp; omega)] at h
    cases h
theorem downL_len (m : Nat) : (downL m).length = m := by simp [downL]
theorem slNo0 {σ : L2.St} {H : Hp} {R : Option Int → Hp → Prop} (h : R none H) : tNoPart σ H R := h
section
variable {P : Program} {w : World} {K : PySem.W.Frag} {mg : Str → Option Value} {base : Heap}
def spStartOn (K : PySem.W.Frag) : Sp := fun vs H Q _ => ∃ (a p : Addr) (k s r : Nat) (row : List Str), vs = [.ref a, .ref p, .int k] ∧ SqT K H a [.int s, .int r] ∧ RowF H p row ∧ s ≤ 8 ∧ k ≤ 1000 ∧ 1 ≤ row.length ∧ ∀ H' q, Same H H' → RowF H' q (seg s k row) → Q (.ref q) H'
theorem seg_cut {α : Type} (s k : Nat) (row : List α) : cutS row (some ((k * s : Nat) : Int)) (some ((lastOf row.length s k : Nat) + 1 : Int)) = seg s k row := by
  rw [show ((lastOf row.length s k : Nat) + 1 : Int) = ((lastOf row.length s k + 1 : Nat) : Int) by omega, cutS_nat]
  rfl
theorem ok_start_on {f : Addr} {fd : FuncData} (F : Fun K "start_on" "start_on" s_start_on f fd) (T : Blt mg) (c_span : Cal P w K mg base 1 "span" ["meeting", "n", "k"] (spSpan K)) : FnOk P w K mg base CX0 2 f fd ["meeting", "row", "k"] (spStartOn K) := by
  refine F.ok sc_start_on (fun vs H Q E h => ?_) (fun cdv A outer s H vs Q E hr h => ?_)
  · obtain ⟨a, p, k, s, r, row, rfl, _⟩ := h
    rfl
  · obtain ⟨a, p, k, s, r, row, rfl, hm, hp, hs, hk, hn, q⟩ := h
    refine ⟨_, (pss_cons (ps_asg (pe_k c_span hr (by decide) (by rfl) (pa_cons (pv 0) (pa_cons (pe_callB call_len_seq (by rfl) T.len PySem.boot_len (pa_cons (pv 1) pa_nil)) (pa_cons (pv 2) pa_nil)))) (pg_tup (by rfl) (pgs_cons (pg_name (i := 3) sc_start_on.nd rfl (.inl rfl)) (pgs_cons (pg_name (i := 4) sc_start_on.nd rfl (.inl rfl)) pgs_nil))))
    (pss_one (ps_ret (pe_slice sl_tupF (pv 1) (po_some (pv 3)) (po_some (pe_op op_add (pv 4) pe_int)))))), ?_⟩
    refine ⟨.ref a, rfl, .ref p, rfl, p, _, rfl, .inr hp.t, .int k, rfl, a, row.length, k, s, r, ?_, hm, hs, hk, hn, fun t nt => ?_⟩
    · rw [List.length_map]
      rfl
    have s1 := same_upd (o := .tup [.int (k * s : Nat), .int (lastOf row.length s k : Nat)]) nt
    refine ⟨t, _, rfl, SqT.of upd_same, rfl, _, _, rfl, _, _, rfl, rfl, ?_⟩
    refine ⟨.ref p, rfl, _, rfl, _, rfl, _, rfl, _, _, rfl, rfl, _, rfl, sl_row (hp.same s1) fun H' b sm hb => q H' b (s1.trans sm) ?_⟩
    rw [seg_cut] at hb
    exact hb
def spLaidOn (K : PySem.W.Frag) : Sp := fun vs H Q _ => ∃ (a p b : Addr) (k s r : Nat) (row som : List Str), vs = [.ref a, .ref p, .int k, .ref b] ∧ SqT K H a [.int s, .int r] ∧ RowF H p row ∧ RowF H b som ∧ s ≤ 8 ∧ k ≤ 1000 ∧ 1 ≤ row.length ∧ row.length ≤ 100 ∧ som.length ≤ 100 ∧
  ∀ H' q, Same H H' → RowF H' q (lay s k row som) → Q (.ref q) H'
theorem ok_laid_on {f : Addr} {fd : FuncData} (F : Fun K "laid_on" "laid_on" s_laid_on f fd) (T : Blt mg) (c_span : Cal P w K mg base 1 "span" ["meeting", "n", "k"] (spSpan K)) : FnOk P w K mg base CX0 2 f fd ["meeting", "row", "k", "some"] (spLaidOn K) := by
  refine F.ok sc_laid_on (fun vs H Q E h => ?_) (fun cdv A outer s H vs Q E hr h => ?_)
  · obtain ⟨a, p, b, k, s, r, row, som, rfl, _⟩ := h
    rfl
  · obtain ⟨a, p, b, k, s, r, row, som, rfl, hm, hp, hb, hs, hk, hn, hn9, hs9, q⟩ := h
    refine ⟨_, (pss_cons (ps_asg (pe_k c_span hr (by decide) (by rfl) (pa_cons (pv 0) (pa_cons (pe_callB call_len_seq (by rfl) T.len PySem.boot_len (pa_cons (pv 1) pa_nil)) (pa_cons (pv 2) pa_nil)))) (pg_tup (by rfl) (pgs_cons (pg_name (i := 4) sc_laid_on.nd rfl (.inl rfl)) (pgs_cons (pg_name (i := 5) sc_laid_on.nd rfl (.inl rfl)) pgs_nil))))
    (pss_one (ps_ret (pe_op op_catF (pe_op op_catF (pe_slice sl_tupF (pv 1) po_none (po_some (pv 4))) (pv 3)) (pe_slice sl_tupF (pv 1) (po_some (pe_op op_add (pv 5) pe_int)) po_none))))), ?_⟩
    refine ⟨.ref a, rfl, .ref p, rfl, p, _, rfl, .inr hp.t, .int k, rfl, a, row.length, k, s, r, ?_, hm, hs, hk, hn, fun t nt => ?_⟩
    · rw [List.length_map]
      rfl
    have s1 := same_upd (o := .tup [.int (k * s : Nat), .int (lastOf row.length s k : Nat)]) nt
    refine ⟨t, _, rfl, SqT.of upd_same, rfl, _, _, rfl, _, _, rfl, rfl, ?_⟩
    refine ⟨.ref p, rfl, slNo0 ?_⟩
    refine ⟨_, rfl, _, rfl, sl_row (hp.same s1) fun H2 c s2 hc => ?_⟩
    rw [cutS_to] at hc
    refine ⟨.ref b, rfl, cat_row hc ((hb.same s1).same s2) (by rw [List.length_take]; omega) fun H3 e s3 he => ?_⟩
    refine ⟨.ref p, rfl, _, rfl, _, _, rfl, rfl, _, rfl, slNo (sl_row (((hp.same s1).same s2).same s3) fun H4 g s4 hg => ?_)⟩
    rw [show ((lastOf row.length s k : Nat) + 1 : Int) = ((lastOf row.length s k + 1 : Nat) : Int) by omega, cutS_from] at hg
    refine cat_row (he.same s4) hg (by rw [List.length_append, List.length_take, List.length_drop]; omega) fun H5 h s5 hh => ?_
    exact q H5 h ((((s1.trans s2).trans s3).trans s4).trans s5) hh
def spGoing (K : PySem.W.Frag) : Sp := fun vs H Q _ => ∃ (a p : Addr) (s r : Nat) (row : List Str), vs = [.ref a, .ref p] ∧ SqT K H a [.int s, .int r] ∧ RowF H p row ∧ 1 ≤ s ∧ s ≤ 8 ∧ 1 ≤ row.length ∧ row.length ≤ 100 ∧ ∀ q, H q = none → Q (.ref q) (upd H q (.lst (downL (races row.length s))))
theorem ok_races_going {f : Addr} {fd : FuncData} (F : Fun K "races_going" "races_going" s_races_going f fd) (T : Blt mg) (c_races_of : Cal P w K mg base 1 "races_of" ["meeting", "n"] (spRaces K)) : FnOk P w K mg base CX0 2 f fd ["meeting", "row"] (spGoing K) := by
  refine F.ok sc_races_going (fun vs H Q E h => ?_) (fun cdv A outer s H vs Q E hr h => ?_)
  · obtain ⟨a, p, s, r, row, rfl, _⟩ := h
    rfl
  · obtain ⟨a, p, s, r, row, rfl, hm, hp, h1, h8, hn, hn9, q⟩ := h
    refine ⟨_, (pss_one (ps_ret (pe_listDown (by rfl) (by rfl) T.list (by rfl) T.range (pa_cons (pe_op op_sub (pe_k c_races_of hr (by decide) (by rfl) (pa_cons (pv 0) (pa_cons (pe_callB call_len_seq (by rfl) T.len PySem.boot_len (pa_cons (pv 1) pa_nil)) pa_nil))) pe_int) (pa_cons (pe_un un_neg pe_int) (pa_cons (pe_un un_neg pe_int) pa_nil)))))), ?_⟩
    have hle := races_le (n := row.length) h1 hn
    refine ⟨.ref a, rfl, .ref p, rfl, p, _, rfl, .inr hp.t, a, row.length, s, r, ?_, hm, h1, h8, ?_⟩
    · rw [List.length_map]
      rfl
    refine ⟨_, _, rfl, rfl, _, rfl, _, rfl, _, _, rfl, ⟨by omega, by omega, by omega, by omega, by omega⟩, fun c nc => ?_⟩
    have e : downV (((races row.length s : Nat) : Int) - 1) (-1) = downL (races row.length s) := by
      unfold downV downL
      rw [show (((races row.length s : Nat) : Int) - 1 - (-1)).toNat = races row.length s by omega]
      refine List.map_congr_left fun j hj => ?_
      have := List.mem_range.mp hj
      congr 1
      omega
    rw [e]
    exact q c nc
end
end TBW
namespace TBW
open PySem PySem.Spec PyProof.Rows L2 TBR
section
variable {P : Program} {w : World} {K : PySem.W.Frag} {mg : Str → Option Value} {base : Heap}
def spDayBehind (K : PySem.W.Frag) : Sp := fun vs H Q _ => ∃ (a p d : Addr) (s r : Nat) (row : List Str) (f : Nat → List Ev), vs = [.ref a, .ref p, .ref d] ∧ SqT K H a [.int s, .int r] ∧ RowF H p row ∧ DayOk s r f row ∧ DayV K H d f (races row.length s) ∧
  ∀ H' q t, Same H H' → SqT K H' q [.str "row", .ref t] → RowF H' t (rowsAt s (races row.length s) f row (races row.length s)) → Q (.ref q) H'
theorem DayOk.seg9 {s r : Nat} {f : Nat → List Ev} {row : List Str} (D : DayOk s r f row) {j k : Nat} (h : j ≤ races row.length s) : (seg s k (rowsAt s (races row.length s) f row j)).length ≤ 100 := by
  have := D.n9
  have := rows_len D h
  have := seg_le (s := s) (k := k) (row := rowsAt s (races row.length s) f row j)
  omega
theorem ok_day_behind {f : Addr} {fd : FuncData} (F : Fun K "day_behind" "day_behind" s_day_behind f fd) (T : Blt mg) (c_races_of : Cal P w K mg base 1 "races_of" ["meeting", "n"] (spRaces K)) (c_races_going : Cal P w K mg base 2 "races_going" ["meeting", "row"] (spGoing K))
    (c_start_on : Cal P w K mg base 2 "start_on" ["meeting", "row", "k"] (spStartOn K)) (c_order_of : Cal P w K mg base 4 "order_of" ["start", "reach", "sheet"] (spOrder K)) (c_laid_on : Cal P w K mg base 2 "laid_on" ["meeting", "row", "k", "some"] (spLaidOn K)) (c_row_behind : Cal P w K mg base 2 "row_behind" ["start", "sheet"] (spBehind K)) :
    FnOk P w K mg base CX0 5 f fd ["meeting", "row", "day"] (spDayBehind K) := by
  refine F.ok sc_day_behind (fun vs H Q E h => ?_) (fun cdv A outer s H vs Q E hr h => ?_)
  · obtain ⟨a, p, d, s, r, row, f, rfl, _⟩ := h
    rfl
  · obtain ⟨a, p, d, s, r, row, f, rfl, hm, hp, D, dv, q⟩ := h
    refine ⟨_, (pss_cons (ps_set (i := 3) sc_day_behind.nd rfl (.inl rfl) (pe_k c_races_of hr (by decide) (by rfl) (pa_cons (pv 0) (pa_cons (pe_callB call_len_seq (by rfl) T.len PySem.boot_len (pa_cons (pv 1) pa_nil)) pa_nil))))
    (pss_cons (ps_if (pt_cmpR op_ne (pe_callB call_len_seq (by rfl) T.len PySem.boot_len (pa_cons (pv 2) pa_nil)) (pv 3) (by rfl))
      (pss_one (ps_ret (pe_tup (pa_cons pe_str (pa_cons pe_non (pa_cons (pe_tup (pa_cons pe_str (pa_cons (pv 3) pa_nil))) pa_nil))))))
      pss_nil)
    (pss_cons (ps_for PassesOwn.never rfl (pi_list (pe_k c_races_going hr (by decide) (by rfl) (pa_cons (pv 0) (pa_cons (pv 1) pa_nil)))) (pg_name (i := 4) sc_day_behind.nd rfl (.inl rfl))
      (pss_cons (ps_set (i := 5) sc_day_behind.nd rfl (.inl rfl) (pe_k c_start_on hr (by decide) (by rfl) (pa_cons (pv 0) (pa_cons (pv 1) (pa_cons (pv 4) pa_nil)))))
      (pss_cons (ps_asg (pe_k c_order_of hr (by decide) (by rfl) (pa_cons (pv 5) (pa_cons (pe_ix ix_tup (pv 0) pe_int (fun _ _ => rfl)) (pa_cons (pe_ix ix_tup (pv 2) (pv 4) (fun _ _ => rfl)) pa_nil)))) (pg_tup (by rfl) (pgs_cons (pg_name (i := 6) sc_day_behind.nd rfl (.inl rfl)) (pgs_cons (pg_name (i := 7) sc_day_behind.nd rfl (.inl rfl)) pgs_nil))))
      (pss_cons (ps_if (pt_cmpR op_eq (pv 6) pe_str (by rfl))
        (pss_one (ps_ret (pe_tup (pa_cons (pv 6) (pa_cons (pv 4) (pa_cons (pv 7) pa_nil))))))
        pss_nil)
      (pss_one (ps_set (i := 1) sc_day_behind.nd rfl (.inl rfl) (pe_k c_laid_on hr (by decide) (by rfl) (pa_cons (pv 0) (pa_cons (pv 1) (pa_cons (pv 4) (pa_cons (pe_k c_row_behind hr (by decide) (by rfl) (pa_cons (pv 5) (pa_cons (pe_ix ix_tup (pv 2) (pv 4) (fun _ _ => rfl)) pa_nil))) pa_nil)))))))))))
    (pss_one (ps_ret (pe_tup (pa_cons pe_str (pa_cons (pv 1) pa_nil)))))))), ?_⟩
    have hmn := races_le (n := row.length) D.s1 D.n1
    have hn9 := D.n9
    obtain ⟨ds, hd1, hd2, hd3⟩ := id dv
    refine ⟨.ref a, rfl, .ref p, rfl, p, _, rfl, .inr hp.t, a, row.length, s, r, ?_, hm, D.s1, D.s8, ?_⟩
    · rw [List.length_map]
      rfl
    refine ⟨.ref d, rfl, d, _, rfl, .inr hd1, _, rfl, rfl, _, rfl, ?_⟩
    rw [hd2]
    refine iteNS rfl ?_
    refine ⟨.ref a, rfl, .ref p, rfl, a, p, s, r, row, rfl, hm, hp, D.s1, D.s8, D.n1, D.n9, fun b nb => ?_⟩
    have s0 := same_upd (o := .lst (downL (races row.length s))) nb
    refine ⟨b, rfl, ⟨_, SqL.of upd_same⟩, for_list (K := K) (a := b) (xs := downL (races row.length s)) (fun i σ H2 => ∃ (c : Addr) (v4 v5 v6 v7 : Option V), σ = [some (.ref a), some (.ref c), some (.ref d), some (.int (races row.length s : Nat)), v4, v5, v6, v7] ∧ Same (upd H b (.lst (downL (races row.length s)))) H2 ∧ RowF H2 c (rowsAt s (races row.length s) f row i))
      ⟨p, none, none, none, none, rfl, Same.refl _, hp.same s0⟩ (fun i σ H2 _ ⟨_, _, _, _, _, _, h2, _⟩ => SqL.of (h2 _ _ upd_same)) ?_ ?_⟩
    · rintro i v σ H2 hi ⟨c, v4, v5, v6, v7, rfl, s2, hc⟩
      obtain ⟨him, rfl⟩ := downL_get hi
      have sH : Same H H2 := s0.trans s2
      have hm2 := sameT sH hm
      have hlen := rows_len D (j := i) (by omega)
      have hklt : (races row.length s - 1 - i) * s < row.length := (races_lt D.s1).mp (by omega)
      have so := D.snd i him
      have hnd : (seg s (races row.length s - 1 - i) (rowsAt s (races row.length s) f row i)).Nodup := seg_nd ((rows_perm D i (by omega)).nodup_iff.mpr D.nd)
      obtain ⟨db, hb1, hb2⟩ := hd3 (races row.length s - 1 - i) (by omega)
      have hl := D.len (races row.length s - 1 - i) (by omega)
      refine ⟨.ref a, rfl, .ref c, rfl, _, rfl, a, c, races row.length s - 1 - i, s, r, _, rfl, hm2, hc, D.s8, by omega, by rw [hlen]; exact D.n1, fun H3 g s3 hg => ?_⟩
      have s23 := sH.trans s3
      refine ⟨.ref g, rfl, .ref a, rfl, a, _, 1, _, rfl, rfl, sameT s3 hm2, atI_nat (j := 1) rfl, .ref d, rfl, _, rfl, d, ds, _, _, rfl, rfl, sameT s23 hd1, atI_nat hb1, g, db, _, _, r, rfl, hg, hnd, hb2.same s23, so, hl, fun H4 t v s4 ht => ?_⟩
      have s24 := s23.trans s4
      refine ⟨t, _, rfl, ht, rfl, _, _, rfl, _, _, rfl, rfl, ?_⟩
      refine ⟨_, rfl, rfl, _, rfl, iteF ?_⟩
      refine ⟨.ref a, rfl, .ref c, rfl, _, rfl, .ref g, rfl, .ref d, rfl, _, rfl, d, ds, _, _, rfl, rfl, sameT s24 hd1, atI_nat hb1, g, db, _, _, r, rfl, hg.same s4, hnd, hb2.same s24, so, hl, fun H5 e s5 he => ?_⟩
      have pl := (behindT_perm so.sub).length_eq
      have s9 := D.seg9 (j := i) (k := races row.length s - 1 - i) (by omega)
      refine ⟨a, c, e, races row.length s - 1 - i, s, r, _, _, rfl, sameT ((s3.trans s4).trans s5) hm2, hc.same ((s3.trans s4).trans s5), he, D.s8, by omega, by rw [hlen]; exact D.n1, by rw [hlen]; exact D.n9, by rw [pl]; exact s9, fun H6 h s6 hh => ?_⟩
      exact ⟨h, _, _, _, _, rfl, (((s2.trans s3).trans s4).trans s5).trans s6, hh⟩
    · rintro σ H2 ⟨c, v4, v5, v6, v7, rfl, s2, hc⟩
      rw [downL_len] at hc
      refine ⟨.ref c, rfl, (by show 2 ≤ sizeLine; decide), fun t nt => ?_⟩
      exact q _ t c ((s0.trans s2).trans (same_upd nt)) (SqT.of upd_same) (hc.same (same_upd nt))
def spStarts (K : PySem.W.Frag) : Sp := fun vs H Q _ => ∃ (a p d : Addr) (s r : Nat) (row : List Str) (f : Nat → List Ev), vs = [.ref a, .ref p, .ref d] ∧ SqT K H a [.int s, .int r] ∧ RowF H p row ∧ DayOk s r f row ∧ DayV K H d f (races row.length s) ∧
  ∀ H' q ss, Same H H' → SqT K H' q ss → ss.length = races row.length s → (∀ k, k < races row.length s → ∃ b, ss[k]? = some (.ref b) ∧ RowF H' b (seg s k (rowsAt s (races row.length s) f row (races row.length s - 1 - k)))) → Q (.ref q) H'
theorem ok_starts_of {f : Addr} {fd : FuncData} (F : Fun K "starts_of" "starts_of" s_starts_of f fd) (T : Blt mg) (c_races_going : Cal P w K mg base 2 "races_going" ["meeting", "row"] (spGoing K))
    (c_start_on : Cal P w K mg base 2 "start_on" ["meeting", "row", "k"] (spStartOn K)) (c_laid_on : Cal P w K mg base 2 "laid_on" ["meeting", "row", "k", "some"] (spLaidOn K)) (c_row_behind : Cal P w K mg base 2 "row_behind" ["start", "sheet"] (spBehind K)) :
    FnOk P w K mg base CX0 3 f fd ["meeting", "row", "day"] (spStarts K) := by
  refine F.ok sc_starts_of (fun vs H Q E h => ?_) (fun cdv A outer s H vs Q E hr h => ?_)
  · obtain ⟨a, p, d, s, r, row, f, rfl, _⟩ := h
    rfl
  · obtain ⟨a, p, d, s, r, row, f, rfl, hm, hp, D, dv, q⟩ := h
    refine ⟨_, (pss_cons (ps_set (i := 3) sc_starts_of.nd rfl (.inl rfl) (pe_lst pa_nil))
    (pss_cons (ps_for PassesOwn.never rfl (pi_list (pe_k c_races_going hr (by decide) (by rfl) (pa_cons (pv 0) (pa_cons (pv 1) pa_nil)))) (pg_name (i := 4) sc_starts_of.nd rfl (.inl rfl))
      (pss_cons (ps_set (i := 5) sc_starts_of.nd rfl (.inl rfl) (pe_k c_start_on hr (by decide) (by rfl) (pa_cons (pv 0) (pa_cons (pv 1) (pa_cons (pv 4) pa_nil)))))
      (pss_cons (ps_expr (pe_bm PySem.F.plainAttrs_list PySem.F.slot_list_append PySem.F.type_list_append mt_append (pv 3) (pa_cons (pv 5) pa_nil)))
      (pss_one (ps_set (i := 1) sc_starts_of.nd rfl (.inl rfl) (pe_k c_laid_on hr (by decide) (by rfl) (pa_cons (pv 0) (pa_cons (pv 1) (pa_cons (pv 4) (pa_cons (pe_k c_row_behind hr (by decide) (by rfl) (pa_cons (pv 5) (pa_cons (pe_ix ix_tup (pv 2) (pv 4) (fun _ _ => rfl)) pa_nil))) pa_nil))))))))))
    (pss_cons (ps_expr (pe_bm0 PySem.F.plainAttrs_list PySem.F.slot_list_reverse PySem.F.type_list_reverse mt_reverse (pv 3)))
    (pss_one (ps_ret (pe_callTy call_tupF (by rfl) T.tuple (by decide +kernel) (pa_cons (pv 3) pa_nil))))))), ?_⟩
    have hmn := races_le (n := row.length) D.s1 D.n1
    have hn9 := D.n9
    obtain ⟨ds, hd1, hd2, hd3⟩ := id dv
    refine ⟨Nat.zero_le _, fun o no => ?_⟩
    have so0 := same_upd (o := .lst []) no
    refine ⟨.ref a, rfl, .ref p, rfl, a, p, s, r, row, rfl, sameT so0 hm, hp.same so0, D.s1, D.s8, D.n1, D.n9, fun b nb => ?_⟩
    have nbo : b ≠ o := fun e => by
      subst e
      rw [upd_same] at nb
      cases nb
    have s0 : Same H (upd (upd H o (.lst [])) b (.lst (downL (races row.length s)))) := so0.trans (same_upd nb)
    have nHb : H b = none := so0.free nb
    refine ⟨b, rfl, ⟨_, SqL.of upd_same⟩, for_list (K := K) (a := b) (xs := downL (races row.length s)) (fun i σ H2 => ∃ (c : Addr) (v4 v5 : Option V) (us : List V), σ = [some (.ref a), some (.ref c), some (.ref d), some (.ref o), v4, v5] ∧ Same H H2 ∧ H2 b = some (.lst (downL (races row.length s))) ∧ RowF H2 c (rowsAt s (races row.length s) f row i) ∧
        H2 o = some (.lst us) ∧ us.length = i ∧ ∀ j, j < i → ∃ g, us[j]? = some (.ref g) ∧ RowF H2 g (seg s (races row.length s - 1 - j) (rowsAt s (races row.length s) f row j)))
      ⟨p, none, none, [], rfl, s0, upd_same, hp.same s0, by rw [upd_ne nbo.symm, upd_same], rfl, fun j hj => by omega⟩ (fun i σ H2 _ ⟨_, _, _, _, _, _, h2, _⟩ => SqL.of h2) ?_ ?_⟩
    · rintro i v σ H2 hi ⟨c, v4, v5, us, rfl, sH, hb, hc, ho, hul, hus⟩
      obtain ⟨him, rfl⟩ := downL_get hi
      have hm2 := sameT sH hm
      have hlen := rows_len D (j := i) (by omega)
      have hklt : (races row.length s - 1 - i) * s < row.length := (races_lt D.s1).mp (by omega)
      have so := D.snd i him
      have hnd : (seg s (races row.length s - 1 - i) (rowsAt s (races row.length s) f row i)).Nodup := seg_nd ((rows_perm D i (by omega)).nodup_iff.mpr D.nd)
      obtain ⟨db, hb1, hb2⟩ := hd3 (races row.length s - 1 - i) (by omega)
      have hl := D.len (races row.length s - 1 - i) (by omega)
      refine ⟨.ref a, rfl, .ref c, rfl, _, rfl, a, c, races row.length s - 1 - i, s, r, _, rfl, hm2, hc, D.s8, by omega, by rw [hlen]; exact D.n1, fun H3 g s3 hg => ?_⟩
      have s23 := sH.trans s3
      have ho3 := s3 _ _ ho
      refine ⟨.ref o, rfl, .inl ⟨rfl, _, SqL.of ho3⟩, .ref g, rfl, o, us, _, rfl, rfl, ho3, ltz (by omega), ?_⟩
      have st := SameT.lst (o := .lst (us ++ [.ref g])) ho3
      have s4 : Same H (upd H3 o (.lst (us ++ [.ref g]))) := sameUpd s23 no
      refine ⟨.ref a, rfl, .ref c, rfl, _, rfl, .ref g, rfl, .ref d, rfl, _, rfl, d, ds, _, _, rfl, rfl, sameT s4 hd1, atI_nat hb1, g, db, _, _, r, rfl, st.row hg, hnd, hb2.same s4, so, hl, fun H5 e s5 he => ?_⟩
      have pl := (behindT_perm so.sub).length_eq
      have s9 := D.seg9 (j := i) (k := races row.length s - 1 - i) (by omega)
      refine ⟨a, c, e, races row.length s - 1 - i, s, r, _, _, rfl, sameT (s4.trans s5) hm, (st.row (hc.same s3)).same s5, he, D.s8, by omega, by rw [hlen]; exact D.n1, by rw [hlen]; exact D.n9, by rw [pl]; exact s9, fun H6 h s6 hh => ?_⟩
      have s56 := s5.trans s6
      refine ⟨h, _, _, us ++ [.ref g], rfl, s4.trans s56, s56 _ _ (by rw [upd_ne nbo]; exact s3 _ _ hb), hh, s56 _ _ upd_same, by rw [List.length_append, hul]; rfl, fun j hj => ?_⟩
      by_cases hji : j < i
      · obtain ⟨g', e1, e2⟩ := hus j hji
        exact ⟨g', by rw [List.getElem?_append_left (by omega)]; exact e1, (st.row (e2.same s3)).same s56⟩
      · have : j = i := by omega
        subst this
        exact ⟨g, by rw [← hul]; simp, (st.row hg).same s56⟩
    · rintro σ H2 ⟨c, v4, v5, us, rfl, sH, hb, hc, ho, hul, hus⟩
      rw [downL_len] at hul hus
      refine ⟨.ref o, rfl, .inl ⟨rfl, _, SqL.of ho⟩, o, us, rfl, rfl, ho, ?_⟩
      refine ⟨.ref o, rfl, o, _, rfl, SqL.of upd_same, fun t ob nt hob => ?_⟩
      have st := SameT.lst (o := .lst us.reverse) ho
      have s4 : Same H (upd H2 o (.lst us.reverse)) := sameUpd sH no
      refine q _ t us.reverse (s4.trans (same_upd nt)) (TupF.new hob).t (by rw [List.length_reverse, hul]) fun k hk => ?_
      obtain ⟨g, e1, e2⟩ := hus (races row.length s - 1 - k) (by omega)
      rw [show races row.length s - 1 - (races row.length s - 1 - k) = k by omega] at e2
      refine ⟨g, ?_, (st.row e2).same (same_upd nt)⟩
      rw [List.getElem?_reverse (by omega), hul]
      exact e1
end
end TBW
namespace TBW
open PySem PySem.Spec PyProof.Rows L2 TBR
/-! ### marks and partners, without a heap -/
def fset (g : Str → Option Str) (k v : Str) : Str → Option Str := fun z => if z = k then some v else g z
def mkStep (g : Str → Option Str) : Ev → Str → Option Str
  | .drop x => fset g x "d"
  | .touch x y => fset (fset g x "u") y "t"
def mkF (sh : List Ev) : Str → Option Str := sh.foldl mkStep fun _ => none
def parStep (g : Str → Option Str) : Ev → Str → Option Str
  | .drop _ => g
  | .touch x y => fset (fset g x y) y x
def parF (sh : List Ev) : Str → Option Str := sh.foldl parStep fun _ => none
theorem mkF_snoc (sh : List Ev) (z : Ev) : mkF (sh ++ [z]) = mkStep (mkF sh) z := by
  unfold mkF
  rw [List.foldl_append]
  rfl
theorem parF_snoc (sh : List Ev) (z : Ev) : parF (sh ++ [z]) = parStep (parF sh) z := by
  unfold parF
  rw [List.foldl_append]
  rfl
/-- a dict of texts stands for a function -/
def DictF (H : Hp) (D : Addr) (g : Str → Option Str) (n : Nat) : Prop := ∃ kvs, H D = some (.dK kvs) ∧ kvs.length ≤ n ∧ ∀ z, valV kvs (Sum.inr z : Key) = (g z).map V.str
theorem DictF.put {H : Hp} {D : Addr} {g : Str → Option Str} {n : Nat} (h : DictF H D g n) (k v : Str) {kvs : List (Key × V)} (e : H D = some (.dK kvs)) : DictF (upd H D (.dK (putK kvs (Sum.inr k : Key) (.str v)))) D (fset g k v) (n + 1) := by
  obtain ⟨kvs', e', hn, hv⟩ := h
  rw [e] at e'
  cases e'
  refine ⟨_, upd_same, Nat.le_trans (length_putK _ _ _) (by omega), fun z => ?_⟩
  rw [valV_put, hv]
  unfold fset
  by_cases hz : z = k
  · subst hz
    rw [if_pos rfl, if_pos rfl]
    rfl
  · rw [if_neg hz, if_neg (fun e => hz (by cases e; rfl))]
section
variable {P : Program} {w : World} {K : PySem.W.Frag} {mg : Str → Option Value} {base : Heap}
def marksL (st : List Str) (sh : List Ev) : List Str := st.map fun z => (mkF sh z).getD "o"
def spMarks (K : PySem.W.Frag) : Sp := fun vs H Q _ => ∃ (p a : Addr) (st : List Str) (sh : List Ev), vs = [.ref p, .ref a] ∧ RowF H p st ∧ ShV K H a sh ∧ st.length ≤ 1000 ∧ sh.length ≤ 1000 ∧ ∀ H' q, Same H H' → RowF H' q (marksL st sh) → Q (.ref q) H'
theorem ok_marks_of {f : Addr} {fd : FuncData} (F : Fun K "marks_of" "marks_of" s_marks_of f fd) (T : Blt mg) : FnOk P w K mg base CX0 1 f fd ["start", "sheet"] (spMarks K) := by
  refine F.ok sc_marks_of (fun vs H Q E h => ?_) (fun cdv A outer s H vs Q E hr h => ?_)
  · obtain ⟨p, a, st, sh, rfl, _⟩ := h
    rfl
  · obtain ⟨p, a, st, sh, rfl, hp, ⟨vs0, hS, hE⟩, hn, hl, q⟩ := h
    have hu := hu_of hr
    refine ⟨_, (pss_cons (ps_set (i := 2) sc_marks_of.nd rfl (.inr rfl) pe_dnewK)
    (pss_cons (ps_for PassesOwn.never rfl (pi_tup (pv 1)) (pg_name (i := 3) sc_marks_of.nd rfl (.inl rfl))
      (pss_one (ps_if (pt_cmpR op_eq (pe_ix ix_tup (pv 3) pe_int (fun _ _ => rfl)) pe_str (by rfl))
        (pss_one (ps_dput hu (pv 2) (pe_ix ix_tup (pv 3) pe_int (fun _ _ => rfl)) pe_str rfl))
        (pss_cons (ps_dput hu (pv 2) (pe_ix ix_tup (pv 3) pe_int (fun _ _ => rfl)) pe_str rfl)
        (pss_one (ps_dput hu (pv 2) (pe_ix ix_tup (pv 3) pe_int (fun _ _ => rfl)) pe_str rfl))))))
    (pss_one (ps_ret (pe_callTy call_tupF (by rfl) T.tuple (by decide +kernel) (pa_cons (pe_lc (own := [("boat", 4)]) (g := gName 4) (by rfl) sc_marks_of.nd (pi_tup (pv 0)) (blkOk_by (own := [("boat", 4)]) (N := ["start", "sheet", "found", "event", "boat"]) (sc := defScope s_marks_of) (by decide +kernel)) (fun _ _ _ _ _ => (pg_name (i := 4) sc_marks_of.nd rfl (.inl rfl))) (fun _ _ _ _ _ => pts_nil) (fun _ _ _ _ _ => (pe_dget2 hu (pv 2) (pv 4) pe_str ⟨rfl, rfl, rfl, rfl⟩))) pa_nil)))))), ?_⟩
    intro D hD
    refine ⟨.ref a, rfl, a, rfl, ⟨_, sameT (same_upd hD) hS⟩, for_tup (K := K) (a := a) (xs := vs0) (fun i σ H2 => ∃ v3 v4 : Option V, σ = [some (.ref p), some (.ref a), some (.ref D), v3, v4] ∧ Same H H2 ∧ DictF H2 D (mkF (sh.take i)) (2 * i))
      ⟨none, none, rfl, same_upd hD, [], upd_same, Nat.zero_le _, fun z => rfl⟩ (fun i σ H2 _ ⟨_, _, _, s2, _⟩ => sameT s2 hS) ?_ ?_⟩
    · rintro i x σ H2 hi ⟨v3, v4, rfl, s2, hd⟩
      obtain ⟨e, z, rfl, hz, hzt⟩ := hE.get hi
      have hi2 := (List.getElem?_eq_some_iff.mp hz).1
      obtain ⟨kvs, hk1, hk2, hk3⟩ := id hd
      have he := sameT s2 hzt
      have tk : mkF (sh.take (i + 1)) = mkStep (mkF (sh.take i)) z := by rw [take_snoc hz, mkF_snoc]
      cases z with
      | drop x =>
        refine ⟨.ref e, rfl, e, _, 0, _, rfl, rfl, he, rfl, rfl, _, rfl, iteT ?_⟩
        refine ⟨.ref D, rfl, .ref e, rfl, e, _, 1, _, rfl, rfl, he, rfl, D, _, rfl, DPut.k (k := Sum.inr x) hk1 (ltz (by omega)), ?_⟩
        refine ⟨_, _, rfl, sameUpd s2 hD, ?_⟩
        rw [tk]
        obtain ⟨k2, h1, h2, h3⟩ := hd.put x "d" hk1
        exact ⟨k2, h1, by omega, h3⟩
      | touch x y =>
        refine ⟨.ref e, rfl, e, _, 0, _, rfl, rfl, he, rfl, rfl, _, rfl, iteF ?_⟩
        refine ⟨.ref D, rfl, .ref e, rfl, e, _, 1, _, rfl, rfl, he, rfl, D, _, rfl, DPut.k (k := Sum.inr x) hk1 (ltz (by omega)), ?_⟩
        have d2 := hd.put x "u" hk1
        have he2 := (SameT.dct (o := .dK (putK kvs (Sum.inr x : Key) (.str "u"))) hk1).seq he
        have hl2 := length_putK kvs (Sum.inr x : Key) (.str "u")
        refine ⟨.ref D, rfl, .ref e, rfl, e, _, 2, _, rfl, rfl, he2, rfl, D, _, rfl, DPut.k (k := Sum.inr y) upd_same (ltz (by omega)), ?_⟩
        refine ⟨_, _, rfl, sameUpd (sameUpd s2 hD) hD, ?_⟩
        rw [tk]
        obtain ⟨k2, h1, h2, h3⟩ := d2.put y "t" upd_same
        exact ⟨k2, h1, by omega, h3⟩
    · rintro σ H2 ⟨v3, v4, rfl, s2, hd⟩
      rw [hE.len, List.take_length] at hd
      obtain ⟨kvs, hk1, hk2, hk3⟩ := hd
      have hp2 := hp.same s2
      refine ⟨.ref p, rfl, p, rfl, ⟨_, hp2.t⟩, fun D2 hD2 => lc_tup (K := K) (a := p) (xs := st.map V.str) (fun j H3 => Same H2 H3 ∧ H3 D2 = some (.lst ((marksL (st.take j) sh).map V.str)))
        ⟨same_upd hD2, upd_same⟩ (fun j H3 _ h => (hp2.same h.1).t) (fun j v H3 hj h3 => ?_) (fun H3 h3 => ?_)⟩
      · obtain ⟨sm, hd2⟩ := h3
        obtain ⟨x, hx, rfl⟩ := strget hj
        have hj2 := (List.getElem?_eq_some_iff.mp hx).1
        refine ⟨rfl, lcYes ?_⟩
        refine ⟨.ref D, rfl, D, rfl, .inl ⟨kvs, Rd.of (sm _ _ hk1)⟩, .str x, rfl, _, DGet.k (k := Sum.inr x) (sm _ _ hk1), ?_⟩
        refine ⟨_, hd2, ltz ?_, sameUpd sm hD2, ?_⟩
        · unfold marksL
          rw [List.length_map, List.length_map, List.length_take]
          omega
        · rw [upd_same, hk3, take_snoc hx]
          unfold marksL
          rw [List.map_append, List.map_append]
          cases e : mkF sh x <;> simp [e]
      · obtain ⟨sm, hd2⟩ := h3
        rw [List.length_map, List.take_length] at hd2
        refine ⟨D2, _, rfl, SqL.of hd2, fun t ob nt hob => ?_⟩
        exact q _ t ((s2.trans sm).trans (same_upd nt)) (TupF.new hob)
def spPartners (K : PySem.W.Frag) : Sp := fun vs H Q _ => ∃ (a : Addr) (sh : List Ev), vs = [.ref a] ∧ ShV K H a sh ∧ sh.length ≤ 1000 ∧ ∀ H' D, Same H H' → DictF H' D (parF sh) 2000 → Q (.ref D) H'
theorem ok_partners_of {f : Addr} {fd : FuncData} (F : Fun K "partners_of" "partners_of" s_partners_of f fd) (T : Blt mg) : FnOk P w K mg base CX0 1 f fd ["sheet"] (spPartners K) := by
  refine F.ok sc_partners_of (fun vs H Q E h => ?_) (fun cdv A outer s H vs Q E hr h => ?_)
  · obtain ⟨a, sh, rfl, _⟩ := h
    rfl
  · obtain ⟨a, sh, rfl, ⟨vs0, hS, hE⟩, hl, q⟩ := h
    have hu := hu_of hr
    refine ⟨_, (pss_cons (ps_set (i := 1) sc_partners_of.nd rfl (.inl rfl) pe_dnewK)
    (pss_cons (ps_for PassesOwn.never rfl (pi_tup (pv 0)) (pg_name (i := 2) sc_partners_of.nd rfl (.inl rfl))
      (pss_one (ps_if (pt_cmpR op_eq (pe_ix ix_tup (pv 2) pe_int (fun _ _ => rfl)) pe_str (by rfl))
        (pss_cons (ps_dput hu (pv 1) (pe_ix ix_tup (pv 2) pe_int (fun _ _ => rfl)) (pe_ix ix_tup (pv 2) pe_int (fun _ _ => rfl)) rfl)
        (pss_one (ps_dput hu (pv 1) (pe_ix ix_tup (pv 2) pe_int (fun _ _ => rfl)) (pe_ix ix_tup (pv 2) pe_int (fun _ _ => rfl)) rfl)))
        pss_nil)))
    (pss_one (ps_ret (pv 1))))), ?_⟩
    intro D hD
    refine ⟨.ref a, rfl, a, rfl, ⟨_, sameT (same_upd hD) hS⟩, for_tup (K := K) (a := a) (xs := vs0) (fun i σ H2 => ∃ v2 : Option V, σ = [some (.ref a), some (.ref D), v2] ∧ Same H H2 ∧ DictF H2 D (parF (sh.take i)) (2 * i))
      ⟨none, rfl, same_upd hD, [], upd_same, Nat.zero_le _, fun z => rfl⟩ (fun i σ H2 _ ⟨_, _, s2, _⟩ => sameT s2 hS) ?_ ?_⟩
    · rintro i x σ H2 hi ⟨v2, rfl, s2, hd⟩
      obtain ⟨e, z, rfl, hz, hzt⟩ := hE.get hi
      have hi2 := (List.getElem?_eq_some_iff.mp hz).1
      obtain ⟨kvs, hk1, hk2, hk3⟩ := id hd
      have he := sameT s2 hzt
      have tk : parF (sh.take (i + 1)) = parStep (parF (sh.take i)) z := by rw [take_snoc hz, parF_snoc]
      cases z with
      | drop x =>
        refine ⟨.ref e, rfl, e, _, 0, _, rfl, rfl, he, rfl, rfl, _, rfl, iteF ?_⟩
        refine ⟨_, rfl, s2, ?_⟩
        rw [tk]
        exact ⟨kvs, hk1, by omega, hk3⟩
      | touch x y =>
        refine ⟨.ref e, rfl, e, _, 0, _, rfl, rfl, he, rfl, rfl, _, rfl, iteT ?_⟩
        refine ⟨.ref e, rfl, e, _, 2, _, rfl, rfl, he, rfl, .ref D, rfl, .ref e, rfl, e, _, 1, _, rfl, rfl, he, rfl, D, _, rfl, DPut.k (k := Sum.inr x) hk1 (ltz (by omega)), ?_⟩
        have d2 := hd.put x y hk1
        have he2 := (SameT.dct (o := .dK (putK kvs (Sum.inr x : Key) (.str y))) hk1).seq he
        have hl2 := length_putK kvs (Sum.inr x : Key) (.str y)
        refine ⟨.ref e, rfl, e, _, 1, _, rfl, rfl, he2, rfl, .ref D, rfl, .ref e, rfl, e, _, 2, _, rfl, rfl, he2, rfl, D, _, rfl, DPut.k (k := Sum.inr y) upd_same (ltz (by omega)), ?_⟩
        refine ⟨_, rfl, sameUpd (sameUpd s2 hD) hD, ?_⟩
        rw [tk]
        obtain ⟨k2, h1, h2, h3⟩ := d2.put y x upd_same
        exact ⟨k2, h1, by omega, h3⟩
    · rintro σ H2 ⟨v2, rfl, s2, hd⟩
      rw [hE.len, List.take_length] at hd
      obtain ⟨kvs, hk1, hk2, hk3⟩ := hd
      exact ⟨.ref D, rfl, q H2 D s2 ⟨kvs, hk1, by omega, hk3⟩⟩
end
end TBW
namespace TBW
open PySem PySem.Spec PyProof.Rows L2 TBR
/-! ### deeds -/
abbrev Deed := Nat × Str × Option Str
def optV : Option Str → V
  | none => .non
  | some x => .str x
def dedL (d : Deed) : List V := [.int (d.1 : Nat), .str d.2.1, optV d.2.2]
inductive Deeds (K : PySem.W.Frag) (H : Hp) : List V → List Deed → Prop
  | nil : Deeds K H [] []
  | cons {a : Addr} {vs : List V} {e : Deed} {sh : List Deed} : SqT K H a (dedL e) → Deeds K H vs sh → Deeds K H (.ref a :: vs) (e :: sh)
theorem Deeds.tt {K : PySem.W.Frag} {H H' : Hp} (s : SameT H H') {vs : List V} {sh : List Deed} (h : Deeds K H vs sh) : Deeds K H' vs sh := by
  induction h with
  | nil => exact .nil
  | cons a _ ih => exact .cons (s.seq a) ih
theorem Deeds.len {K : PySem.W.Frag} {H : Hp} {vs : List V} {sh : List Deed} (h : Deeds K H vs sh) : vs.length = sh.length := by
  induction h with
  | nil => rfl
  | cons a _ ih => simp [ih]
theorem Deeds.get {K : PySem.W.Frag} {H : Hp} {vs : List V} {sh : List Deed} (h : Deeds K H vs sh) {i : Nat} {v : V} (e : vs[i]? = some v) : ∃ a z, v = .ref a ∧ sh[i]? = some z ∧ SqT K H a (dedL z) := by
  induction h generalizing i with
  | nil => cases e
  | cons a _ ih =>
    cases i with
    | zero =>
      cases e
      exact ⟨_, _, rfl, rfl, a⟩
    | succ i => exact ih e
theorem Deeds.snoc {K : PySem.W.Frag} {H : Hp} {vs : List V} {sh : List Deed} (h : Deeds K H vs sh) {a : Addr} {z : Deed} (hz : SqT K H a (dedL z)) : Deeds K H (vs ++ [.ref a]) (sh ++ [z]) := by
  induction h with
  | nil => exact .cons hz .nil
  | cons a _ ih => exact .cons a ih
def deedAt (sh : List Ev) (k : Nat) (z : Str) : Deed := (k, (mkF sh z).getD "o", parF sh z)
/-- a boat's deeds after j races -/
def deeds (s m : Nat) (f : Nat → List Ev) (row : List Str) : Nat → Str → List Deed
  | 0, _ => []
  | j + 1, z => if z ∈ seg s (m - 1 - j) (rowsAt s m f row j) then deeds s m f row j z ++ [deedAt (f (m - 1 - j)) (m - 1 - j) z] else deeds s m f row j z
theorem deeds_len (s m : Nat) (f : Nat → List Ev) (row : List Str) : ∀ (j : Nat) (z : Str), (deeds s m f row j z).length ≤ j
  | 0, _ => Nat.le_refl _
  | j + 1, z => by
    have ih := deeds_len s m f row j z
    unfold deeds
    split
    · rw [List.length_append]
      show _ + 1 ≤ j + 1
      omega
    · omega
/-- the dict of lists, while it grows -/
def kp (row : List Str) (ls : List Addr) : List (Key × V) := List.zipWith (fun b l => (Sum.inr b, V.ref l)) row ls
theorem kp_keys : ∀ {row : List Str} {ls : List Addr} {z : Str}, (Sum.inr z : Key) ∈ (kp row ls).map (·.1) → z ∈ row
  | [], _, _, h => by simp [kp] at h
  | b :: row, [], _, h => by simp [kp] at h
  | b :: row, l :: ls, z, h => by
    rw [show kp (b :: row) (l :: ls) = (Sum.inr b, V.ref l) :: kp row ls from rfl, List.map_cons, List.mem_cons] at h
    rcases h with h | h
    · cases h
      exact List.mem_cons_self
    · exact List.mem_cons_of_mem _ (kp_keys h)
theorem kp_get : ∀ {row : List Str} {ls : List Addr} {i : Nat} {b : Str} {l : Addr}, row.Nodup → row[i]? = some b → ls[i]? = some l → valV (kp row ls) (Sum.inr b : Key) = some (.ref l)
  | [], _, _, _, _, _, h, _ => by cases h
  | c :: row, [], _, _, _, _, _, h => by cases h
  | c :: row, l :: ls, 0, b, l', nd, h1, h2 => by
    cases h1
    cases h2
    exact valV_pos rfl
  | c :: row, l :: ls, i + 1, b, l', nd, h1, h2 => by
    have hb : b ∈ row := List.mem_of_getElem? (show row[i]? = some b from h1)
    rw [List.nodup_cons] at nd
    rw [show kp (c :: row) (l :: ls) = (Sum.inr c, V.ref l) :: kp row ls from rfl, valV_neg (fun e => nd.1 (by cases e; exact hb))]
    exact kp_get nd.2 h1 h2
theorem kp_snoc {row : List Str} {ls : List Addr} {b : Str} {l : Addr} (h : row.length = ls.length) : kp (row ++ [b]) (ls ++ [l]) = kp row ls ++ [(Sum.inr b, V.ref l)] := by
  unfold kp
  rw [List.zipWith_append h]
  rfl
theorem valV_no {kvs : List (Key × V)} {k : Key} (h : k ∉ kvs.map (·.1)) : valV kvs k = none := by
  cases e : valV kvs k with
  | none => rfl
  | some v => exact absurd (valV_in e) h
theorem merge_nd : ∀ (more kvs : List (Key × V)), ((kvs ++ more).map (·.1)).Nodup → mergeK kvs more = kvs ++ more
  | [], kvs, _ => (List.append_nil _).symm
  | x :: more, kvs, h => by
    have hx : x.1 ∉ kvs.map (·.1) := by
      rw [List.map_append, List.nodup_append] at h
      exact fun m => h.2.2 _ m _ (by simp) rfl
    show mergeK (putK kvs x.1 x.2) more = _
    rw [putK_new _ (valV_no hx)]
    have e : kvs ++ [(x.1, x.2)] ++ more = kvs ++ x :: more := by simp
    rw [merge_nd more _ (by rw [e]; exact h), e]
theorem kp_nd : ∀ {row : List Str} {ls : List Addr}, row.Nodup → ((kp row ls).map (·.1)).Nodup
  | [], _, _ => by simp [kp]
  | b :: row, [], _ => by simp [kp]
  | b :: row, l :: ls, h => by
    rw [List.nodup_cons] at h
    rw [show kp (b :: row) (l :: ls) = (Sum.inr b, V.ref l) :: kp row ls from rfl, List.map_cons, List.nodup_cons]
    exact ⟨fun m => h.1 (kp_keys m), kp_nd h.2⟩
structure Kpt (K : PySem.W.Frag) (H : Hp) (E : Addr) (row : List Str) (ls : List Addr) (g : Str → List Deed) : Prop where
  d : H E = some (.dK (kp row ls))
  ln : ls.length = row.length
  nd : ls.Nodup
  at_ : ∀ (i : Nat) (b : Str), row[i]? = some b → ∃ (l : Addr) (vs : List V), ls[i]? = some l ∧ H l = some (.lst vs) ∧ Deeds K H vs (g b)
theorem Kpt.same {K : PySem.W.Frag} {H H' : Hp} {E : Addr} {row : List Str} {ls : List Addr} {g : Str → List Deed} (s : Same H H') (k : Kpt K H E row ls g) : Kpt K H' E row ls g := by
  refine ⟨s _ _ k.d, k.ln, k.nd, fun i b h => ?_⟩
  obtain ⟨l, vs, e1, e2, e3⟩ := k.at_ i b h
  exact ⟨l, vs, e1, s _ _ e2, e3.tt (sameTT s)⟩
theorem Kpt.push {K : PySem.W.Frag} {H : Hp} {E : Addr} {row : List Str} {ls : List Addr} {g g' : Str → List Deed} (k : Kpt K H E row ls g) {i : Nat} {b : Str} {l t : Addr} {vs : List V} {d : Deed} (hb : row[i]? = some b) (rd : row.Nodup) (hl : ls[i]? = some l) (hv : H l = some (.lst vs))
    (ht : SqT K H t (dedL d)) (e1 : g' b = g b ++ [d]) (e2 : ∀ z, z ≠ b → g' z = g z) : Kpt K (upd H l (.lst (vs ++ [.ref t]))) E row ls g' := by
  have st := SameT.lst (o := .lst (vs ++ [.ref t])) hv
  refine ⟨?_, k.ln, k.nd, fun j c h => ?_⟩
  · rw [upd_ne (ne_of k.d hv (by intro z; cases z))]
    exact k.d
  · obtain ⟨l', vs', h1, h2, h3⟩ := k.at_ j c h
    by_cases hj : j = i
    · subst hj
      rw [hb] at h
      cases h
      rw [hl] at h1
      cases h1
      rw [hv] at h2
      cases h2
      refine ⟨l, _, hl, upd_same, ?_⟩
      rw [e1]
      exact (h3.tt st).snoc (st.seq ht)
    · have hc : c ≠ b := fun e => by
        subst e
        have := (List.getElem?_inj (List.getElem?_eq_some_iff.mp h).1 rd).mp (h.trans hb.symm)
        exact hj this
      have hl' : l' ≠ l := fun e => by
        subst e
        have := (List.getElem?_inj (List.getElem?_eq_some_iff.mp h1).1 k.nd).mp (h1.trans hl.symm)
        exact hj this
      refine ⟨l', vs', h1, by rw [upd_ne hl']; exact h2, ?_⟩
      rw [e2 c hc]
      exact h3.tt st
/-- what deeds_of gives -/
def KeptV (K : PySem.W.Frag) (H : Hp) (q : Addr) (row : List Str) (g : Str → List Deed) : Prop := ∃ ws : List V, SqT K H q ws ∧ ws.length = row.length ∧ ∀ (i : Nat) (b : Str), row[i]? = some b → ∃ (c u : Addr) (vs : List V), ws[i]? = some (V.ref c) ∧ SqT K H c [.str b, .ref u] ∧ SqT K H u vs ∧ Deeds K H vs (g b)
theorem SameT.keptV {K : PySem.W.Frag} {H H' : Hp} (s : SameT H H') {q : Addr} {row : List Str} {g : Str → List Deed} (h : KeptV K H q row g) : KeptV K H' q row g := by
  obtain ⟨ws, h1, h2, h3⟩ := h
  refine ⟨ws, s.seq h1, h2, fun i b hb => ?_⟩
  obtain ⟨c, u, vs, e1, e2, e3, e4⟩ := h3 i b hb
  exact ⟨c, u, vs, e1, s.seq e2, s.seq e3, e4.tt s⟩
section
variable {P : Program} {w : World} {K : PySem.W.Frag} {mg : Str → Option Value} {base : Heap}
def spDeeds (K : PySem.W.Frag) : Sp := fun vs H Q _ => ∃ (a p d : Addr) (s r : Nat) (row : List Str) (f : Nat → List Ev), vs = [.ref a, .ref p, .ref d] ∧ SqT K H a [.int s, .int r] ∧ RowF H p row ∧ DayOk s r f row ∧ DayV K H d f (races row.length s) ∧
  ∀ H' q, Same H H' → KeptV K H' q row (deeds s (races row.length s) f row (races row.length s)) → Q (.ref q) H'
theorem ok_deeds_of {f : Addr} {fd : FuncData} (F : Fun K "deeds_of" "deeds_of" s_deeds_of f fd) (T : Blt mg) (c_starts_of : Cal P w K mg base 3 "starts_of" ["meeting", "row", "day"] (spStarts K)) (c_races_going : Cal P w K mg base 2 "races_going" ["meeting", "row"] (spGoing K))
    (c_partners_of : Cal P w K mg base 1 "partners_of" ["sheet"] (spPartners K)) (c_marks_of : Cal P w K mg base 1 "marks_of" ["start", "sheet"] (spMarks K)) :
    FnOk P w K mg base CX0 4 f fd ["meeting", "row", "day"] (spDeeds K) := by
  refine F.ok sc_deeds_of (fun vs H Q E h => ?_) (fun cdv A outer s H vs Q E hr h => ?_)
  · obtain ⟨a, p, d, s, r, row, f, rfl, _⟩ := h
    rfl
  · obtain ⟨a, p, d, s, r, row, f, rfl, hm, hp, D, dv, q⟩ := h
    have hu := hu_of hr
    refine ⟨_, (pss_cons (ps_set (i := 4) sc_deeds_of.nd rfl (.inr rfl) (pe_callTy (call_dictP rfl) (by rfl) T.dict (by decide +kernel) (pa_cons (pe_lc (own := [("boat", 3)]) (g := gName 3) (by rfl) sc_deeds_of.nd (pi_tup (pv 1)) (blkOk_by (own := [("boat", 3)]) (N := ["meeting", "row", "day", "boat", "kept", "starts", "k", "others", "mark"]) (sc := defScope s_deeds_of) (by decide +kernel)) (fun _ _ _ _ _ => (pg_name (i := 3) sc_deeds_of.nd rfl (.inl rfl))) (fun _ _ _ _ _ => pts_nil) (fun _ _ _ _ _ => (pe_tup (pa_cons (pv 3) (pa_cons (pe_lst pa_nil) pa_nil))))) pa_nil)))
    (pss_cons (ps_set (i := 5) sc_deeds_of.nd rfl (.inl rfl) (pe_k c_starts_of hr (by decide) (by rfl) (pa_cons (pv 0) (pa_cons (pv 1) (pa_cons (pv 2) pa_nil)))))
    (pss_cons (ps_for PassesOwn.never rfl (pi_list (pe_k c_races_going hr (by decide) (by rfl) (pa_cons (pv 0) (pa_cons (pv 1) pa_nil)))) (pg_name (i := 6) sc_deeds_of.nd rfl (.inl rfl))
      (pss_cons (ps_set (i := 7) sc_deeds_of.nd rfl (.inl rfl) (pe_k c_partners_of hr (by decide) (by rfl) (pa_cons (pe_ix ix_tup (pv 2) (pv 6) (fun _ _ => rfl)) pa_nil)))
      (pss_one (ps_for PassesOwn.never rfl (RZ.pi_zipA (by rfl) T.zip (pa_cons (pe_ix ix_tup (pv 5) (pv 6) (fun _ _ => rfl)) (pa_cons (pe_k c_marks_of hr (by decide) (by rfl) (pa_cons (pe_ix ix_tup (pv 5) (pv 6) (fun _ _ => rfl)) (pa_cons (pe_ix ix_tup (pv 2) (pv 6) (fun _ _ => rfl)) pa_nil))) pa_nil))) (pg_tup (by rfl) (pgs_cons (pg_name (i := 3) sc_deeds_of.nd rfl (.inl rfl)) (pgs_cons (pg_name (i := 8) sc_deeds_of.nd rfl (.inl rfl)) pgs_nil)))
        (pss_one (ps_expr (pe_bm PySem.F.plainAttrs_list PySem.F.slot_list_append PySem.F.type_list_append mt_append (pe_dget hu (pv 4) (pv 3) (fun _ _ => rfl)) (pa_cons (pe_tup (pa_cons (pv 6) (pa_cons (pv 8) (pa_cons (pe_dget1 hu (pv 7) (pv 3) ⟨rfl, rfl, rfl, rfl⟩) pa_nil)))) pa_nil))))))))
    (pss_one (ps_ret (pe_callTy call_tupF (by rfl) T.tuple (by decide +kernel) (pa_cons (pe_lc (own := [("boat", 3)]) (g := gName 3) (by rfl) sc_deeds_of.nd (pi_tup (pv 1)) (blkOk_by (own := [("boat", 3)]) (N := ["meeting", "row", "day", "boat", "kept", "starts", "k", "others", "mark"]) (sc := defScope s_deeds_of) (by decide +kernel)) (fun _ _ _ _ _ => (pg_name (i := 3) sc_deeds_of.nd rfl (.inl rfl))) (fun _ _ _ _ _ => pts_nil) (fun _ _ _ _ _ => (pe_tup (pa_cons (pv 3) (pa_cons (pe_callTy (r := rTupF K) call_tupF (by rfl) T.tuple (by decide +kernel) (pa_cons (pe_dget hu (pv 4) (pv 3) (fun _ _ => rfl)) pa_nil)) pa_nil))))) pa_nil))))))), ?_⟩
    have hmn := races_le (n := row.length) D.s1 D.n1
    have hn9 := D.n9
    obtain ⟨ds, hd1, hd2, hd3⟩ := id dv
    -- kept
    refine ⟨.ref p, rfl, p, rfl, ⟨_, hp.t⟩, fun D1 hD1 => lc_tup (K := K) (a := p) (xs := row.map V.str) (fun j H3 => Same H H3 ∧ ∃ ps ls : List Addr, H3 D1 = some (.lst (ps.map V.ref)) ∧ ps.length = j ∧ ls.length = j ∧ ls.Nodup ∧ (∀ l ∈ ls, H3 l = some (.lst []) ∧ l ≠ D1 ∧ H l = none) ∧ Paired (fun (c : Addr) (kv : Key × V) => SqT K H3 c [kV kv.1, kv.2]) ps (kp (row.take j) ls))
      ⟨same_upd hD1, [], [], upd_same, rfl, rfl, List.nodup_nil, fun l hl => (by cases hl), .nil⟩ (fun j H3 _ h => (hp.same h.1).t) (fun j v H3 hj h3 => ?_) (fun H3 h3 => ?_)⟩
    · obtain ⟨sm, ps, ls, h1, h2, h3, h4, h5, h6⟩ := h3
      obtain ⟨x, hx, rfl⟩ := strget hj
      have hj2 := (List.getElem?_eq_some_iff.mp hx).1
      refine ⟨rfl, lcYes ?_⟩
      refine ⟨.str x, rfl, Nat.zero_le _, fun l nl => ?_⟩
      refine ⟨(by show 2 ≤ sizeLine; decide), fun c nc => ?_⟩
      have sl := same_upd (o := .lst []) nl
      have sc := same_upd (o := .tup [.str x, .ref l]) nc
      have h1' := sc _ _ (sl _ _ h1)
      have nlD : l ≠ D1 := (ne_of_none h1 nl).symm
      have ncl : l ≠ c := ne_of_none upd_same nc
      refine ⟨_, h1', ltz (by rw [List.length_map]; omega), sameUpd ((sm.trans sl).trans sc) hD1, ps ++ [c], ls ++ [l], ?_, ?_, ?_, ?_, ?_, ?_⟩
      · rw [upd_same, List.map_append]
        rfl
      · rw [List.length_append, h2]
        rfl
      · rw [List.length_append, h3]
        rfl
      · rw [List.nodup_append]
        refine ⟨h4, by simp, fun y hy z hz => ?_⟩
        rw [List.mem_singleton] at hz
        subst hz
        exact ne_of_none (h5 y hy).1 nl
      · intro y hy
        rw [List.mem_append] at hy
        rcases hy with hy | hy
        · obtain ⟨y1, y2, y3⟩ := h5 y hy
          exact ⟨by rw [upd_ne y2]; exact sc _ _ (sl _ _ y1), y2, y3⟩
        · rw [List.mem_singleton] at hy
          subst hy
          exact ⟨by rw [upd_ne nlD]; exact sc _ _ upd_same, nlD, sm.free nl⟩
      · have e : kp (row.take (j + 1)) (ls ++ [l]) = kp (row.take j) ls ++ [(Sum.inr x, V.ref l)] := by
          rw [take_snoc hx, kp_snoc (by rw [List.length_take, h3]; omega)]
        rw [e]
        refine Paired.snoc (Paired.mapP h6 fun c' kv hc' => (SameT.lst h1').seq (sameT (sl.trans sc) hc')) ?_
        exact (SameT.lst h1').seq (SqT.of upd_same)
    · obtain ⟨sm, ps, ls, h1, h2, h3, h4, h5, h6⟩ := h3
      rw [List.length_map] at h2 h3
      rw [List.length_map, List.take_length] at h6
      refine ⟨D1, ps, kp row ls, rfl, SqL.of h1, h6, fun E nE => ?_⟩
      rw [merge_nd (kp row ls) [] (kp_nd D.nd)]
      rw [List.nil_append]
      have sE := same_upd (o := .dK (kp row ls)) nE
      have nHE : H E = none := sm.free nE
      have s0 : Same H (upd H3 E (.dK (kp row ls))) := sm.trans sE
      have k0 : Kpt K (upd H3 E (.dK (kp row ls))) E row ls (deeds s (races row.length s) f row 0) := by
        refine ⟨upd_same, h3, h4, fun i b hb => ?_⟩
        have hi := (List.getElem?_eq_some_iff.mp hb).1
        have hl := List.getElem?_eq_getElem (l := ls) (i := i) (by omega)
        exact ⟨_, [], hl, sE _ _ (h5 _ (List.mem_of_getElem? hl)).1, .nil⟩
      have hls : ∀ l ∈ ls, H l = none := fun l hl => (h5 l hl).2.2
      -- starts
      refine ⟨.ref a, rfl, .ref p, rfl, .ref d, rfl, a, p, d, s, r, row, f, rfl, sameT s0 hm, hp.same s0, D, (sameTT s0).day dv, fun H4 t ss s4 hss1 hss2 hss3 => ?_⟩
      have s04 := s0.trans s4
      refine ⟨.ref a, rfl, .ref p, rfl, a, p, s, r, row, rfl, sameT s04 hm, hp.same s04, D.s1, D.s8, D.n1, D.n9, fun b nb => ?_⟩
      have sb := same_upd (o := .lst (downL (races row.length s))) nb
      refine ⟨b, rfl, ⟨_, SqL.of upd_same⟩, for_list (K := K) (a := b) (xs := downL (races row.length s)) (fun i σ H5 => ∃ (v3 v6 v7 v8 : Option V), σ = [some (.ref a), some (.ref p), some (.ref d), v3, some (.ref E), some (.ref t), v6, v7, v8] ∧ Same H H5 ∧ SameT (upd H4 b (.lst (downL (races row.length s)))) H5 ∧ H5 b = some (.lst (downL (races row.length s))) ∧ b ∉ ls ∧ Kpt K H5 E row ls (deeds s (races row.length s) f row i))
        ⟨none, none, none, none, rfl, s04.trans sb, sameTT (Same.refl _), upd_same, ?_, (k0.same s4).same sb⟩ (fun i σ H5 _ ⟨_, _, _, _, _, _, _, h5, _⟩ => SqL.of h5) ?_ ?_⟩
      · intro hb
        have := s4 _ _ (sE _ _ (h5 b hb).1)
        rw [nb] at this
        cases this
      · rintro i v σ H5 hi ⟨v3, v6, v7, v8, rfl, s05, st5, hb5, nbl, kk⟩
        obtain ⟨him, rfl⟩ := downL_get hi
        obtain ⟨db, hb1, hb2⟩ := hd3 (races row.length s - 1 - i) (by omega)
        obtain ⟨sg, hg1, hg2⟩ := hss3 (races row.length s - 1 - i) (by omega)
        have hl := D.len (races row.length s - 1 - i) (by omega)
        rw [show races row.length s - 1 - (races row.length s - 1 - i) = i by omega] at hg2
        generalize hSG : seg s (races row.length s - 1 - i) (rowsAt s (races row.length s) f row i) = SG at hg2
        have hsg9 : SG.length ≤ 100 := by rw [← hSG]; exact D.seg9 (by omega)
        have hnd : SG.Nodup := by rw [← hSG]; exact seg_nd ((rows_perm D i (by omega)).nodup_iff.mpr D.nd)
        have hsub : ∀ z ∈ SG, z ∈ row := by
          intro z hz
          rw [← hSG] at hz
          exact (rows_perm D i (by omega)).mem_iff.mp (List.mem_of_mem_drop (List.mem_of_mem_take hz))
        have hss5 := st5.seq (sameT sb hss1)
        have hg5 := st5.row (hg2.same sb)
        -- others
        refine ⟨.ref d, rfl, _, rfl, d, ds, _, _, rfl, rfl, sameT s05 hd1, atI_nat hb1, db, _, rfl, hb2.same s05, hl, fun H6 O s6 hO => ?_⟩
        have s06 := s05.trans s6
        refine ⟨.ref t, rfl, _, rfl, t, ss, _, _, rfl, rfl, sameT s6 hss5, atI_nat hg1, .ref t, rfl, _, rfl, t, ss, _, _, rfl, rfl, sameT s6 hss5, atI_nat hg1, .ref d, rfl, _, rfl, d, ds, _, _, rfl, rfl, sameT s06 hd1, atI_nat hb1, ?_⟩
        refine ⟨sg, db, SG, _, rfl, hg5.same s6, hb2.same s06, by omega, hl, fun H7 M s7 hM => ?_⟩
        have s07 := s06.trans s7
        obtain ⟨okv, hO1, hO2, hO3⟩ := hO
        have hO7 := s7 _ _ hO1
        have hb7 := s7 _ _ (s6 _ _ hb5)
        refine ⟨sg, M, SG.map V.str, _, rfl, .inr ⟨((hg5.same s6).same s7).t, hM.t, ?_⟩⟩
        have nOE : ∀ l ∈ ls, O ≠ l := fun l hl e => by
          obtain ⟨n, hn⟩ := List.getElem?_of_mem hl
          obtain ⟨hn1, hn2⟩ := List.getElem?_eq_some_iff.mp hn
          obtain ⟨l', vs', e1, e2, _⟩ := kk.at_ n row[n] (List.getElem?_eq_getElem (by have := kk.ln; omega))
          rw [hn] at e1
          cases e1
          rw [← e] at e2
          rw [s6 _ _ e2] at hO1
          cases hO1
        refine RZ.for_zipT (K := K) (a := sg) (b := M) (xs := SG.map V.str) (by unfold marksL; simp) (fun j σ H8 => ∃ (v3 v8 : Option V), σ = [some (.ref a), some (.ref p), some (.ref d), v3, some (.ref E), some (.ref t), some (.int (races row.length s - 1 - i : Nat)), some (.ref O), v8] ∧ Same H H8 ∧ SameT H7 H8 ∧ H8 b = some (.lst (downL (races row.length s))) ∧ H8 O = some (.dK okv) ∧
            Kpt K H8 E row ls (fun z => if z ∈ SG.take j then deeds s (races row.length s) f row i z ++ [deedAt (f (races row.length s - 1 - i)) (races row.length s - 1 - i) z] else deeds s (races row.length s) f row i z))
          ⟨v3, v8, rfl, s07, sameTT (Same.refl _), hb7, hO7, ?_⟩ (fun j σ H8 ⟨_, _, _, _, st8, _⟩ => ⟨(st8.row ((hg5.same s6).same s7)).t, (st8.row hM).t⟩) ?_ ?_
        · have : (fun z => if z ∈ SG.take 0 then deeds s (races row.length s) f row i z ++ [deedAt (f (races row.length s - 1 - i)) (races row.length s - 1 - i) z] else deeds s (races row.length s) f row i z) = deeds s (races row.length s) f row i := by
            funext z
            rw [List.take_zero, if_neg (by simp)]
          rw [this]
          exact (kk.same s6).same s7
        · rintro j x y TT σ H8 hx hy ⟨v3, v8, rfl, s08, st8, hb8, hO8, k8⟩ nT
          obtain ⟨z, hz, rfl⟩ := strget hx
          obtain ⟨mk, hmk, rfl⟩ := strget hy
          have hmk2 : mk = (mkF (f (races row.length s - 1 - i)) z).getD "o" := by
            unfold marksL at hmk
            rw [List.getElem?_map, hz] at hmk
            exact (Option.some.inj hmk).symm
          have sT := same_upd (o := .tup [.str z, .str mk]) nT
          refine ⟨TT, _, rfl, SqT.of upd_same, rfl, _, _, rfl, _, _, rfl, rfl, ?_⟩
          obtain ⟨n, hn⟩ := List.getElem?_of_mem (hsub z (List.mem_of_getElem? hz))
          have k8' := k8.same sT
          obtain ⟨l, vs, hl1, hl2, hl3⟩ := k8'.at_ n z hn
          have hlk := kp_get D.nd hn hl1
          have hzn : z ∉ SG.take j := by
            intro h
            obtain ⟨i', hi'⟩ := List.getElem?_of_mem h
            rw [List.getElem?_take] at hi'
            split at hi'
            · have := (List.getElem?_inj (List.getElem?_eq_some_iff.mp hi').1 hnd).mp (hi'.trans hz.symm)
              omega
            · cases hi'
          have hvs := hl3.len
          rw [if_neg hzn] at hvs
          have := deeds_len s (races row.length s) f row i z
          refine ⟨.ref E, rfl, .str z, rfl, E, .ref l, rfl, ?_, .inl ⟨rfl, _, SqL.of hl2⟩, ?_⟩
          · rw [← hlk]
            exact DGet.k (k := Sum.inr z) k8'.d
          refine ⟨_, rfl, .str mk, rfl, .ref O, rfl, O, rfl, .inl ⟨okv, Rd.of (sT _ _ hO8)⟩, .str z, rfl, _, DGet.k (k := Sum.inr z) (sT _ _ hO8), (by show 3 ≤ sizeLine; decide), fun u nu => ?_⟩
          have su := same_upd (o := .tup [.int (races row.length s - 1 - i : Nat), .str mk, (valV okv (Sum.inr z : Key)).getD .non]) nu
          have hopt : (valV okv (Sum.inr z : Key)).getD .non = optV (parF (f (races row.length s - 1 - i)) z) := by
            rw [hO3]
            cases parF (f (races row.length s - 1 - i)) z <;> rfl
          have hl2' := su _ _ hl2
          refine ⟨l, vs, _, rfl, rfl, hl2', ltz (by omega), ?_⟩
          have hlH : H l = none := hls l (List.mem_of_getElem? hl1)
          have hbl : b ≠ l := fun e => nbl (by rw [e]; exact List.mem_of_getElem? hl1)
          refine ⟨_, _, rfl, sameUpd ((s08.trans sT).trans su) hlH, (st8.trans (sameTT (sT.trans su))).trans (SameT.lst hl2'), by rw [upd_ne hbl]; exact su _ _ (sT _ _ hb8), by rw [upd_ne (nOE l (List.mem_of_getElem? hl1))]; exact su _ _ (sT _ _ hO8), ?_⟩
          refine (k8'.same su).push (d := deedAt (f (races row.length s - 1 - i)) (races row.length s - 1 - i) z) hn D.nd hl1 hl2' ?_ ?_ ?_
          · refine SqT.of ?_
            rw [upd_same, hopt, hmk2]
            rfl
          · rw [if_neg hzn, if_pos (by rw [take_snoc hz]; simp)]
          · intro z' hz'
            rw [take_snoc hz]
            by_cases h : z' ∈ SG.take j
            · rw [if_pos h, if_pos (by simp [h])]
            · rw [if_neg h, if_neg (by simp [h, hz'])]
        · rintro σ H8 ⟨v3, v8, rfl, s08, st8, hb8, hO8, k8⟩
          refine ⟨_, _, _, _, rfl, s08, (st5.trans (sameTT (s6.trans s7))).trans st8, hb8, nbl, ?_⟩
          have : (fun z => if z ∈ SG.take (SG.map V.str).length then deeds s (races row.length s) f row i z ++ [deedAt (f (races row.length s - 1 - i)) (races row.length s - 1 - i) z] else deeds s (races row.length s) f row i z) = deeds s (races row.length s) f row (i + 1) := by
            funext z
            rw [List.length_map, List.take_length]
            show _ = if z ∈ seg s (races row.length s - 1 - i) (rowsAt s (races row.length s) f row i) then _ else _
            rw [hSG]
          rw [this] at k8
          exact k8
      · rintro σ H5 ⟨v3, v6, v7, v8, rfl, s05, st5, hb5, nbl, kk⟩
        rw [downL_len] at kk
        have hp5 := hp.same s05
        refine ⟨.ref p, rfl, p, rfl, ⟨_, hp5.t⟩, fun D2 hD2 => lc_tup (K := K) (a := p) (xs := row.map V.str) (fun j H6 => Same H5 H6 ∧ ∃ ws : List V, H6 D2 = some (.lst ws) ∧ ws.length = j ∧ ∀ (i : Nat) (b : Str), i < j → row[i]? = some b → ∃ (c u : Addr) (vs : List V), ws[i]? = some (V.ref c) ∧ SqT K H6 c [.str b, .ref u] ∧ SqT K H6 u vs ∧ Deeds K H6 vs (deeds s (races row.length s) f row (races row.length s) b))
          ⟨same_upd hD2, [], upd_same, rfl, fun i b hi => by omega⟩ (fun j H6 _ h => (hp5.same h.1).t) (fun j v H6 hj h6 => ?_) (fun H6 h6 => ?_)⟩
        · obtain ⟨sm6, ws, e1, e2, e3⟩ := h6
          obtain ⟨x, hx, rfl⟩ := strget hj
          have hj2 := (List.getElem?_eq_some_iff.mp hx).1
          have k6 := kk.same sm6
          obtain ⟨l, vs, hl1, hl2, hl3⟩ := k6.at_ j x hx
          refine ⟨rfl, lcYes ?_⟩
          refine ⟨.str x, rfl, .ref E, rfl, .str x, rfl, E, .ref l, rfl, ?_, l, vs, rfl, SqL.of hl2, fun u ob nu hob => ?_⟩
          · rw [← kp_get D.nd hx hl1]
            exact DGet.k (k := Sum.inr x) k6.d
          have su := same_upd (o := .frz ob (.tup vs)) nu
          refine ⟨(by show 2 ≤ sizeLine; decide), fun c nc => ?_⟩
          have sc := same_upd (o := .tup [.str x, .ref u]) nc
          have e1' := sc _ _ (su _ _ e1)
          have st := SameT.lst (o := .lst (ws ++ [.ref c])) e1'
          refine ⟨ws, e1', ltz (by omega), sameUpd ((sm6.trans su).trans sc) hD2, _, upd_same, by rw [List.length_append, e2]; rfl, fun i b hi hb => ?_⟩
          by_cases hij : i < j
          · obtain ⟨c', u', vs', g1, g2, g3, g4⟩ := e3 i b hij hb
            exact ⟨c', u', vs', by rw [List.getElem?_append_left (by omega)]; exact g1, st.seq (sameT (su.trans sc) g2), st.seq (sameT (su.trans sc) g3), g4.tt ((sameTT (su.trans sc)).trans st)⟩
          · have : i = j := by omega
            subst this
            rw [hx] at hb
            cases hb
            exact ⟨c, u, vs, by rw [← e2]; simp, st.seq (SqT.of upd_same), st.seq (sameT sc (TupF.new hob).t), hl3.tt ((sameTT (su.trans sc)).trans st)⟩
        · obtain ⟨sm6, ws, e1, e2, e3⟩ := h6
          rw [List.length_map] at e2 e3
          refine ⟨D2, ws, rfl, SqL.of e1, fun t2 ob nt hob => ?_⟩
          have s2 := same_upd (o := .frz ob (.tup ws)) nt
          refine q _ t2 ((s05.trans sm6).trans s2) ⟨ws, (TupF.new hob).t, e2, fun i b hb => ?_⟩
          obtain ⟨c', u', vs', g1, g2, g3, g4⟩ := e3 i b (List.getElem?_eq_some_iff.mp hb).1 hb
          exact ⟨c', u', vs', g1, sameT s2 g2, sameT s2 g3, g4.tt (sameTT s2)⟩
end
end TBW
namespace TBW
open PySem PySem.Spec PyProof.Rows L2 TBR
/-! ### the draws -/
theorem seq_cut {t1 t2 : TS} {D : Ends} {σ : L2.St} {H : Hp} (P : L2.St → Hp → Prop) (h2 : ∀ σ H, P σ H → t2 D σ H) (h1 : ∀ N : L2.St → Hp → Prop, (∀ σ H, P σ H → N σ H) → t1 { D with nx := N } σ H) : tSeq t1 t2 D σ H := h1 _ h2
theorem dgk {H : Hp} {d : Addr} {kvs : List (Key × V)} {x : Str} {v : V} (hd : H d = some (.dK kvs)) (h : valV kvs (Sum.inr x : Key) = some v) : DGet H d (.str x) (some v) := h ▸ DGet.k (k := Sum.inr x) hd
theorem put_len {kvs : List (Key × V)} {k : Key} {v x : V} (h : valV kvs k = some v) : (putK kvs k x).length = kvs.length := by
  unfold putK
  rw [if_pos (by rw [valV_any, h]; rfl), List.length_map]
def kC : Key := Sum.inr "cells"
def kA : Key := Sum.inr "at"
def kL : Key := Sum.inr "left"
def kS : Key := Sum.inr "seed"
theorem kCA : kC ≠ kA := by decide +kernel
theorem kCL : kC ≠ kL := by decide +kernel
theorem kCS : kC ≠ kS := by decide +kernel
theorem kAL : kA ≠ kL := by decide +kernel
theorem kAS : kA ≠ kS := by decide +kernel
theorem kLS : kL ≠ kS := by decide +kernel
structure DR (H : Hp) (d : Addr) (kvs : List (Key × V)) (c : Addr) (cells : List Int) (a l s : Int) : Prop where
  hd : H d = some (.dK kvs)
  n4 : kvs.length = 4
  hc : H c = some (.lst (cells.map V.int))
  vC : valV kvs kC = some (.ref c)
  vA : valV kvs kA = some (.int a)
  vL : valV kvs kL = some (.int l)
  vS : valV kvs kS = some (.int s)
theorem DR.nc {H : Hp} {d : Addr} {kvs : List (Key × V)} {c : Addr} {cells : List Int} {a l s : Int} (h : DR H d kvs c cells a l s) : c ≠ d := ne_of h.hc h.hd (by intro z; cases z)
theorem DR.put {H : Hp} {d : Addr} {kvs : List (Key × V)} {c : Addr} {cells : List Int} {a l s a' l' s' : Int} (h : DR H d kvs c cells a l s) {k : Key} {n v0 : V} (e : valV kvs k = some v0) (kc : kC ≠ k)
    (ea : (if kA = k then some n else some (.int a)) = some (.int a')) (el : (if kL = k then some n else some (.int l)) = some (.int l')) (es : (if kS = k then some n else some (.int s)) = some (.int s')) :
    DR (upd H d (.dK (putK kvs k n))) d (putK kvs k n) c cells a' l' s' where
  hd := upd_same
  n4 := by rw [put_len e, h.n4]
  hc := by rw [upd_ne h.nc]; exact h.hc
  vC := by rw [valV_put, if_neg kc]; exact h.vC
  vA := by rw [valV_put, h.vA]; exact ea
  vL := by rw [valV_put, h.vL]; exact el
  vS := by rw [valV_put, h.vS]; exact es
theorem DR.at_ {H : Hp} {d : Addr} {kvs : List (Key × V)} {c : Addr} {cells : List Int} {a l s : Int} (h : DR H d kvs c cells a l s) (n : Int) : DR (upd H d (.dK (putK kvs kA (.int n)))) d (putK kvs kA (.int n)) c cells n l s :=
  h.put h.vA kCA (if_pos rfl) (if_neg kAL.symm) (if_neg kAS.symm)
theorem DR.left {H : Hp} {d : Addr} {kvs : List (Key × V)} {c : Addr} {cells : List Int} {a l s : Int} (h : DR H d kvs c cells a l s) (n : Int) : DR (upd H d (.dK (putK kvs kL (.int n)))) d (putK kvs kL (.int n)) c cells a n s :=
  h.put h.vL kCL (if_neg kAL) (if_pos rfl) (if_neg kLS.symm)
theorem DR.seed {H : Hp} {d : Addr} {kvs : List (Key × V)} {c : Addr} {cells : List Int} {a l s : Int} (h : DR H d kvs c cells a l s) (n : Int) : DR (upd H d (.dK (putK kvs kS (.int n)))) d (putK kvs kS (.int n)) c cells a l n :=
  h.put h.vS kCS (if_neg kAS) (if_neg kLS) (if_pos rfl)
def Draws (H : Hp) (d c : Addr) : Prop := ∃ kvs cells a l s, DR H d kvs c cells a l s ∧ 0 ≤ a ∧ 0 ≤ l ∧ 0 ≤ s ∧ s < 2 ^ 61
/-- only d has changed -/
def Oth (d : Addr) (H H' : Hp) : Prop := ∀ b o, b ≠ d → H b = some o → H' b = some o
theorem Oth.refl (d : Addr) (H : Hp) : Oth d H H := fun _ _ _ e => e
theorem Oth.trans {d : Addr} {H H1 H2 : Hp} (a : Oth d H H1) (b : Oth d H1 H2) : Oth d H H2 := fun c o n e => b c o n (a c o n e)
theorem Oth.upd (d : Addr) (H : Hp) (o : HO) : Oth d H (L2.upd H d o) := fun c u n e => by
  rw [upd_ne n]
  exact e
theorem Oth.of {d : Addr} {H H' : Hp} (s : Same H H') : Oth d H H' := fun b o _ e => s b o e
theorem Oth.tt {d : Addr} {H H' : Hp} {kvs : List (Key × V)} (h : H d = some (.dK kvs)) (s : Oth d H H') : SameT H H' :=
  ⟨fun b xs e => s _ _ (ne_of e h (by intro z; cases z)) e, fun b o u e => s _ _ (ne_of e h (by intro z; cases z)) e⟩
theorem Draws.tt {d c : Addr} {H H' : Hp} (h : Draws H d c) (s : Oth d H H') : SameT H H' := by
  obtain ⟨kvs, cells, a, l, s', h, _⟩ := h
  exact s.tt h.hd
theorem Draws.same {d c : Addr} {H H' : Hp} (h : Draws H d c) (s : Same H H') : Draws H' d c := by
  obtain ⟨kvs, cells, a, l, s', h, r⟩ := h
  exact ⟨kvs, cells, a, l, s', ⟨s _ _ h.hd, h.n4, s _ _ h.hc, h.vC, h.vA, h.vL, h.vS⟩, r⟩
theorem Draws.upd {d c M : Addr} {H : Hp} {o : HO} (h : Draws H d c) (nd : M ≠ d) (nc : M ≠ c) : Draws (L2.upd H M o) d c := by
  obtain ⟨kvs, cells, a, l, s', h, r⟩ := h
  exact ⟨kvs, cells, a, l, s', ⟨by rw [upd_ne nd.symm]; exact h.hd, h.n4, by rw [upd_ne nc.symm]; exact h.hc, h.vC, h.vA, h.vL, h.vS⟩, r⟩
theorem Draws.nd {d c M : Addr} {H : Hp} (h : Draws H d c) (n : H M = none) : M ≠ d := by
  obtain ⟨kvs, cells, a, l, s', h, r⟩ := h
  exact (ne_of_none h.hd n).symm
theorem Draws.nc {d c M : Addr} {H : Hp} (h : Draws H d c) (n : H M = none) : M ≠ c := by
  obtain ⟨kvs, cells, a, l, s', h, r⟩ := h
  exact (ne_of_none h.hc n).symm
section
variable {P : Program} {w : World} {K : PySem.W.Frag} {mg : Str → Option Value} {base : Heap}
def spNext (K : PySem.W.Frag) : Sp := fun vs H Q _ => ∃ (d c : Addr) (m : Nat), vs = [.ref d, .int m] ∧ Draws H d c ∧ 1 ≤ m ∧ m ≤ 1000 ∧ ∀ (v : Nat) H', v < m → Draws H' d c → Oth d H H' → Q (.int v) H'
theorem ok_law_next {f : Addr} {fd : FuncData} (F : Fun K "_law_next" "_law_next" s_law_next f fd) (T : Blt mg) : FnOk P w K mg base CX0 1 f fd ["_law_draws", "_law_many"] (spNext K) := by
  refine F.ok sc_law_next (fun vs H Q E h => ?_) (fun cdv A outer s H vs Q E hr h => ?_)
  · obtain ⟨d, c, m, rfl, _⟩ := h
    rfl
  · obtain ⟨d, c, m, rfl, hd, m1, m9, q⟩ := h
    have hu := hu_of hr
    refine ⟨_, (pss_cons (ps_if (PW.pt (pw_and (pt_cmpR op_eq (pe_dget hu (pv 0) pe_str (fun _ _ => rfl)) pe_int (by rfl)) (pw_and1 (pt_cmpR op_lt (pe_dget hu (pv 0) pe_str (fun _ _ => rfl)) (pe_callB call_len_seq (by rfl) T.len PySem.boot_len (pa_cons (pe_dget hu (pv 0) pe_str (fun _ _ => rfl)) pa_nil)) (by rfl)))))
      (pss_cons (ps_set (i := 2) sc_law_next.nd rfl (.inl rfl) (pe_ix ix_list (pe_dget hu (pv 0) pe_str (fun _ _ => rfl)) (pe_dget hu (pv 0) pe_str (fun _ _ => rfl)) (fun _ _ => rfl)))
      (pss_cons (ps_dput hu (pv 0) pe_str (pe_op op_add (pe_dget hu (pv 0) pe_str (fun _ _ => rfl)) pe_int) rfl)
      (pss_cons (ps_dput hu (pv 0) pe_str (pe_op op_mod (pe_op op_add (pe_op op_add (pe_op op_mulW (pe_dget hu (pv 0) pe_str (fun _ _ => rfl)) pe_int) (pe_op op_mod (pv 2) (pe_op op_pow pe_int pe_int))) pe_int) pe_int) rfl)
      (pss_one (ps_dput hu (pv 0) pe_str (pe_op op_mul (pv 2) (pe_callTy call_int1 (by rfl) T.int (by decide +kernel) (pa_cons (pe_cmpR op_ge (pv 2) (pe_op op_pow pe_int pe_int) (by rfl)) pa_nil))) rfl)))))
      pss_nil)
    (pss_cons (ps_if (pt_cmpR op_gt (pe_dget hu (pv 0) pe_str (fun _ _ => rfl)) pe_int (by rfl))
      (pss_cons (ps_set (i := 3) sc_law_next.nd rfl (.inl rfl) (pe_op op_mod (pe_dget hu (pv 0) pe_str (fun _ _ => rfl)) (pv 1)))
      (pss_cons (ps_dput hu (pv 0) pe_str (pe_op op_fdiv (pe_dget hu (pv 0) pe_str (fun _ _ => rfl)) (pv 1)) rfl)
      (pss_one (ps_ret (pv 3)))))
      pss_nil)
    (pss_cons (ps_dput hu (pv 0) pe_str (pe_op op_mod (pe_op op_add (pe_op op_mulW (pe_dget hu (pv 0) pe_str (fun _ _ => rfl)) pe_int) pe_int) pe_int) rfl)
    (pss_one (ps_ret (pe_op op_mod (pe_op op_fdiv (pe_op op_mod (pe_op op_mulW (pe_dget hu (pv 0) pe_str (fun _ _ => rfl)) (pe_dget hu (pv 0) pe_str (fun _ _ => rfl))) pe_int) pe_int) (pv 1))))))), ?_⟩
    have fin : ∀ (x : Int) H', Draws H' d c → Oth d H H' → Q (.int (x % m)) H' := by
      intro x H' h1 h2
      have a1 := Int.emod_nonneg x (show (m : Int) ≠ 0 by omega)
      have a2 := Int.emod_lt_of_pos x (show (0 : Int) < m by omega)
      have := q (x % m).toNat H' (by omega) h1 h2
      rw [Int.toNat_of_nonneg a1] at this
      exact this
    refine seq_cut (P := fun σ H1 => ∃ v2, σ = [some (.ref d), some (.int m), v2, none] ∧ Draws H1 d c ∧ Oth d H H1) ?_ (fun N hN => ?_)
    · rintro σ H1 ⟨v2, rfl, ⟨kvs, cells, a, l, s, D, ha, hl, hs, hs2⟩, hot⟩
      have k4 : kvs.length < sizeLine := ltz (by have := D.n4; omega)
      refine ⟨.ref d, rfl, d, _, rfl, dgk D.hd D.vL, _, _, rfl, rfl, _, rfl, ite2 (fun c1 => ?_) (fun c1 => ?_)⟩
      · refine ⟨.ref d, rfl, d, _, rfl, dgk D.hd D.vL, .int m, rfl, _, _, rfl, rfl, (by show (0 : Int) < m; omega), ?_⟩
        refine ⟨.ref d, rfl, d, _, rfl, dgk D.hd D.vL, .int m, rfl, _, _, rfl, rfl, ⟨by omega, by omega⟩, .ref d, rfl, d, _, rfl, DPut.k (k := kL) D.hd k4, ?_⟩
        refine ⟨_, rfl, fin l _ ⟨_, _, _, _, _, D.left _, ha, Int.ediv_nonneg hl (by omega), hs, hs2⟩ (hot.trans (Oth.upd _ _ _))⟩
      · refine ⟨.ref d, rfl, d, _, rfl, dgk D.hd D.vS, _, _, rfl, rfl, wide_mul (a := 62) (b := 62) (by omega) (by decide) (by decide) (by decide) (by decide), _, _, rfl, rfl, _, _, rfl, rfl, (by show (0 : Int) < 2305843009213693951; decide), .ref d, rfl, d, _, rfl, DPut.k (k := kS) D.hd k4, ?_⟩
        have b1 := Int.emod_nonneg (s * 1181783497276652981 + 12345678910987) (show (2305843009213693951 : Int) ≠ 0 by decide)
        have b2 := Int.emod_lt_of_pos (s * 1181783497276652981 + 12345678910987) (show (0 : Int) < 2305843009213693951 by decide)
        have D2 := D.seed ((s * 1181783497276652981 + 12345678910987) % 2305843009213693951)
        refine ⟨.ref d, rfl, d, _, rfl, dgk D2.hd D2.vS, .ref d, rfl, d, _, rfl, dgk D2.hd D2.vS, _, _, rfl, rfl, wide_mul (a := 62) (b := 62) (by omega) (by omega) (by decide) (by decide) (by decide), _, _, rfl, rfl, (by show (0 : Int) < 2305843009213693921; decide), _, _, rfl, rfl, ⟨by decide, by decide⟩, .int m, rfl, _, _, rfl, rfl, (by show (0 : Int) < m; omega), ?_⟩
        exact fin _ _ ⟨_, _, _, _, _, D2, ha, hl, b1, by omega⟩ (hot.trans (Oth.upd _ _ _))
    · obtain ⟨kvs, cells, a, l, s, D, ha, hl, hs, hs2⟩ := id hd
      have k4 : kvs.length < sizeLine := ltz (by have := D.n4; omega)
      have no : ∀ v2, N [some (.ref d), some (.int m), v2, none] H := fun v2 => hN _ _ ⟨v2, rfl, hd, Oth.refl _ _⟩
      refine ⟨.ref d, rfl, d, _, rfl, dgk D.hd D.vL, rfl, _, rfl, ite2 (fun c1 => ?_) (fun c1 => iteF (no _))⟩
      refine ⟨.ref d, rfl, d, _, rfl, dgk D.hd D.vA, .ref d, rfl, d, _, rfl, dgk D.hd D.vC, c, _, rfl, .inl (SqL.of D.hc), _, _, rfl, rfl, _, rfl, ite2 (fun c2 => ?_) (fun c2 => no _)⟩
      have c3 := of_decide_eq_true c2
      rw [List.length_map] at c3
      obtain ⟨n, rfl⟩ : ∃ n : Nat, a = n := ⟨a.toNat, by omega⟩
      have hn : n < cells.length := by omega
      have hcell : (cells.map V.int)[n]? = some (.int cells[n]) := by
        rw [List.getElem?_map, List.getElem?_eq_getElem hn]
        rfl
      refine ⟨.ref d, rfl, d, _, rfl, dgk D.hd D.vC, .ref d, rfl, d, _, rfl, dgk D.hd D.vA, c, _, _, _, rfl, rfl, SqL.of D.hc, atI_nat hcell, ?_⟩
      refine ⟨.ref d, rfl, d, _, rfl, dgk D.hd D.vA, _, _, rfl, rfl, .ref d, rfl, d, _, rfl, DPut.k (k := kA) D.hd k4, ?_⟩
      have D2 := D.at_ ((n : Int) + 1)
      have k42 : (putK kvs kA (.int ((n : Int) + 1))).length < sizeLine := ltz (by have := D2.n4; omega)
      refine ⟨.ref d, rfl, d, _, rfl, dgk D2.hd D2.vS, _, _, rfl, rfl, wide_mul (a := 62) (b := 62) (by omega) (by decide) (by decide) (by decide) (by decide), _, rfl, _, _, rfl, rfl, ⟨by decide, by decide, by decide⟩, _, _, rfl, rfl, (by show (0 : Int) < 10 ^ Int.toNat 30; decide), _, _, rfl, rfl, _, _, rfl, rfl, _, _, rfl, rfl, (by show (0 : Int) < 2305843009213693951; decide), .ref d, rfl, d, _, rfl, DPut.k (k := kS) D2.hd k42, ?_⟩
      generalize hE : s * 7368787 + cells[n] % 10 ^ Int.toNat 30 + 11 = E0
      have D3 := D2.seed (E0 % 2305843009213693951)
      have k43 : (putK (putK kvs kA (.int ((n : Int) + 1))) kS (.int (E0 % 2305843009213693951))).length < sizeLine := ltz (by have := D3.n4; omega)
      refine ⟨_, rfl, _, rfl, _, _, rfl, rfl, ⟨by decide, by decide, by decide⟩, _, _, rfl, rfl, ?_⟩
      refine .inr ⟨_, rfl, _, _, rfl, rfl, .inr ?_, .ref d, rfl, d, _, rfl, DPut.k (k := kL) D3.hd k43, ?_⟩
      · split <;> constructor <;> decide
      have b1 := Int.emod_nonneg E0 (show (2305843009213693951 : Int) ≠ 0 by decide)
      have b2 := Int.emod_lt_of_pos E0 (show (0 : Int) < 2305843009213693951 by decide)
      have D4 := D3.left (cells[n] * (if decide ((10 : Int) ^ Int.toNat 18 ≤ cells[n]) = true then 1 else 0))
      refine hN _ _ ⟨_, rfl, ⟨_, _, _, _, _, D4, by omega, ?_, b1, by omega⟩, ((Oth.upd _ _ _).trans (Oth.upd _ _ _)).trans (Oth.upd _ _ _)⟩
      by_cases hc : (10 : Int) ^ Int.toNat 18 ≤ cells[n]
      · rw [decide_eq_true hc, if_pos rfl]
        have : (0 : Int) < 10 ^ Int.toNat 18 := by decide
        omega
      · rw [decide_eq_false hc, if_neg (by decide)]
        omega
def spBegin (K : PySem.W.Frag) : Sp := fun vs H Q _ => ∃ (a : Addr) (ns : List Int), vs = [.ref a] ∧ SqL K H a (ns.map V.int) ∧ ns.length ≤ 1000 ∧ ∀ H' d c, Same H H' → H d = none → Draws H' d c → Q (.ref d) H'
theorem ok_law_begin {f : Addr} {fd : FuncData} (F : Fun K "_law_begin" "_law_begin" s_law_begin f fd) (T : Blt mg) : FnOk P w K mg base CX0 1 f fd ["_law_script"] (spBegin K) := by
  refine F.ok sc_law_begin (fun vs H Q E h => ?_) (fun cdv A outer s H vs Q E hr h => ?_)
  · obtain ⟨a, ns, rfl, _⟩ := h
    rfl
  · obtain ⟨a, ns, rfl, hS, hl, q⟩ := h
    refine ⟨_, (pss_one (ps_ret (pe_disp (pps_cons pe_str (pe_callTy call_list_of (by rfl) T.list (by decide +kernel) (pa_cons (pe_slice sl_list (pv 0) po_none (po_some pe_int)) pa_nil)) (pps_cons pe_str pe_int (pps_cons pe_str pe_int (pps_cons pe_str (pe_op op_add pe_int (pe_callB call_len_seq (by rfl) T.len PySem.boot_len (pa_cons (pe_slice sl_list (pv 0) po_none (po_some pe_int)) pa_nil))) pps_nil)))) (by rfl) (by rfl) (fun z => by cases z) (by decide)))), ?_⟩
    intro d hd
    have s0 := same_upd (o := .dK []) hd
    refine ⟨.ref a, rfl, 63, rfl, a, _, rfl, s0.seq hS, fun c1 n1 => ?_⟩
    have s1 := same_upd (o := .lst (cutV (ns.map V.int) none (some 63))) n1
    refine ⟨c1, _, rfl, .inl (SqL.of upd_same), fun c n2 => ?_⟩
    have s2 := same_upd (o := .lst (cutV (ns.map V.int) none (some 63))) n2
    refine ⟨.ref a, rfl, 63, rfl, a, _, rfl, s2.seq (s1.seq (s0.seq hS)), fun c3 n3 => ?_⟩
    have s3 := same_upd (o := .lst (cutV (ns.map V.int) none (some 63))) n3
    have e1 : cutV (ns.map V.int) none (some 63) = (ns.take 63).map V.int := by
      rw [show (63 : Int) = ((63 : Nat) : Int) from rfl, cutV_to, List.map_take]
    refine ⟨c3, _, rfl, .inl (SqL.of upd_same), _, _, rfl, rfl, ?_⟩
    have hd3 := s3 _ _ (s2 _ _ (s1 _ _ (show (upd H d (.dK [])) d = some (.dK []) from upd_same)))
    refine ⟨hd3, [(kC, .ref c), (kA, .int 0), (kL, .int 0), (kS, _)], rfl, (by show 4 ≤ 15; decide), ?_⟩
    rw [merge_nd _ [] (by show [kC, kA, kL, kS].Nodup; decide +kernel), List.nil_append]
    have len1 : (cutV (ns.map V.int) none (some 63)).length ≤ 1000 := by
      rw [e1, List.length_map, List.length_take]
      omega
    refine q _ d c (sameUpd (((s0.trans s1).trans s2).trans s3) hd) hd ⟨_, ns.take 63, 0, 0, _, ⟨upd_same, rfl, ?_, valV_pos rfl, (valV_neg kCA).trans (valV_pos rfl), (valV_neg kCL).trans ((valV_neg kAL).trans (valV_pos rfl)), (valV_neg kCS).trans ((valV_neg kAS).trans ((valV_neg kLS).trans (valV_pos rfl)))⟩, Int.le_refl _, Int.le_refl _, by omega, by omega⟩
    have hc := s3 _ _ (show (upd (upd (upd H d (.dK [])) c1 (.lst (cutV (ns.map V.int) none (some 63)))) c (.lst (cutV (ns.map V.int) none (some 63)))) c = some (.lst (cutV (ns.map V.int) none (some 63))) from upd_same)
    rw [upd_ne (ne_of hc hd3 (by intro z; cases z)), ← e1]
    exact hc
end
end TBW
namespace TBW
open PySem PySem.Spec PyProof.Rows L2 TBR
/-! ### lists compared -/
theorem dpInts {K : PySem.W.Frag} {H : Hp} : ∀ ns : List Int, DpAll K H (ns.map V.int) (ns.map PyData.int)
  | [] => .nil
  | n :: ns => .cons (.int n) (dpInts ns)
theorem lay_ints : ∀ ns : List Int, PyData.canLayAll0 (ns.map PyData.int) = true
  | [] => by simp [PyData.canLayAll0]
  | n :: ns => by simp [PyData.canLayAll0, PyData.canLay0, lay_ints ns]
theorem lay_strs : ∀ ns : List Str, (∀ x ∈ ns, PyData.strOk x = true) → PyData.canLayAll0 (ns.map PyData.str) = true
  | [], _ => by simp [PyData.canLayAll0]
  | n :: ns, h => by simp [PyData.canLayAll0, PyData.canLay0, lay_strs ns (fun x hx => h x (List.mem_cons_of_mem _ hx)), h n List.mem_cons_self]
theorem depth_ints : ∀ ns : List Int, PyData.depthAll (ns.map PyData.int) = 0
  | [] => by simp [PyData.depthAll]
  | n :: ns => by simp [PyData.depthAll, PyData.depth, depth_ints ns]
theorem shaped_ints (ns : List Int) : SeqAt.shaped (.list (ns.map PyData.int)) = true := by
  unfold SeqAt.shaped
  rw [Bool.and_eq_true]
  exact ⟨by simp [PyData.canLay0, lay_ints], by simp [PyData.depth, depth_ints]⟩
theorem shaped_strs (ns : List Str) (h : ∀ x ∈ ns, PyData.strOk x = true) : SeqAt.shaped (.list (ns.map PyData.str)) = true := by
  unfold SeqAt.shaped
  rw [Bool.and_eq_true]
  exact ⟨by simp [PyData.canLay0, lay_strs ns h], by simp [PyData.depth, depth_strs]⟩
theorem shaped_nil : SeqAt.shaped (.list []) = true := shaped_ints []
theorem eqv_ints : ∀ xs ys : List Int, PyData.eqvAll (xs.map PyData.int) (ys.map PyData.int) = decide (xs = ys)
  | [], [] => by simp [PyData.eqvAll]
  | [], y :: ys => by simp [PyData.eqvAll]
  | x :: xs, [] => by simp [PyData.eqvAll]
  | x :: xs, y :: ys => by
    simp only [List.map_cons, PyData.eqvAll, PyData.eqv, eqv_ints xs ys, List.cons.injEq]
    by_cases h : x = y <;> simp [h]
theorem eqv_strs : ∀ xs ys : List Str, PyData.eqvAll (xs.map PyData.str) (ys.map PyData.str) = decide (xs = ys)
  | [], [] => by simp [PyData.eqvAll]
  | [], y :: ys => by simp [PyData.eqvAll]
  | x :: xs, [] => by simp [PyData.eqvAll]
  | x :: xs, y :: ys => by
    simp only [List.map_cons, PyData.eqvAll, PyData.eqv, eqv_strs xs ys, List.cons.injEq]
    by_cases h : x = y <;> simp [h]
/-- a list of numbers, is it another -/
theorem ne_ints {K : PySem.W.Frag} {H : Hp} {a b : Addr} {xs ys : List Int} {Q : VK} (ha : SqL K H a (xs.map V.int)) (hb : SqL K H b (ys.map V.int)) (q : Q (.bl (!decide (xs = ys))) H) : rNeD K (.ref a) (.ref b) H Q := by
  refine ⟨_, _, .lst ha (dpInts xs), .lst hb (dpInts ys), shaped_ints xs, shaped_ints ys, ?_⟩
  rw [show PyData.eqv (.list (xs.map PyData.int)) (.list (ys.map PyData.int)) = PyData.eqvAll (xs.map PyData.int) (ys.map PyData.int) by simp [PyData.eqv], eqv_ints]
  exact q
theorem eq_ints {K : PySem.W.Frag} {H : Hp} {a b : Addr} {xs ys : List Int} {Q : VK} (ha : SqL K H a (xs.map V.int)) (hb : SqL K H b (ys.map V.int)) (q : Q (.bl (decide (xs = ys))) H) : rEqD K (.ref a) (.ref b) H Q := by
  refine ⟨_, _, .lst ha (dpInts xs), .lst hb (dpInts ys), shaped_ints xs, shaped_ints ys, ?_⟩
  rw [show PyData.eqv (.list (xs.map PyData.int)) (.list (ys.map PyData.int)) = PyData.eqvAll (xs.map PyData.int) (ys.map PyData.int) by simp [PyData.eqv], eqv_ints]
  exact q
theorem ne_strs {K : PySem.W.Frag} {H : Hp} {a b : Addr} {xs ys : List Str} {Q : VK} (ha : SqL K H a (xs.map V.str)) (hb : SqL K H b (ys.map V.str)) (ox : ∀ x ∈ xs, PyData.strOk x = true) (oy : ∀ x ∈ ys, PyData.strOk x = true) (q : Q (.bl (!decide (xs = ys))) H) : rNeD K (.ref a) (.ref b) H Q := by
  refine ⟨_, _, .lst ha (dpAll_strs xs), .lst hb (dpAll_strs ys), shaped_strs xs ox, shaped_strs ys oy, ?_⟩
  rw [show PyData.eqv (.list (xs.map PyData.str)) (.list (ys.map PyData.str)) = PyData.eqvAll (xs.map PyData.str) (ys.map PyData.str) by simp [PyData.eqv], eqv_strs]
  exact q
/-! ### words of marks -/
def mkS : TB.Mk → Str
  | .d => "d"
  | .o => "o"
  | .t => "t"
  | .u => "u"
def mkV (m : TB.Mk) : V := .str (mkS m)
def plV (p : Nat) : V := .int (p : Nat)
structure WS (H0 H : Hp) (d c M L : Addr) (wd : List TB.Mk) (pl : List Nat) : Prop where
  dr : Draws H d c
  ot : Oth d H0 H
  hM : H M = some (.lst (wd.map mkV))
  hL : H L = some (.lst (pl.map plV))
theorem WS.same {H0 H H' : Hp} {d c M L : Addr} {wd : List TB.Mk} {pl : List Nat} (w : WS H0 H d c M L wd pl) (s : Same H H') : WS H0 H' d c M L wd pl := ⟨w.dr.same s, w.ot.trans (Oth.of s), s _ _ w.hM, s _ _ w.hL⟩
theorem WS.draw {H0 H H' : Hp} {d c M L : Addr} {wd : List TB.Mk} {pl : List Nat} (w : WS H0 H d c M L wd pl) (nM : M ≠ d) (nL : L ≠ d) (h : Draws H' d c) (s : Oth d H H') : WS H0 H' d c M L wd pl := ⟨h, w.ot.trans s, s _ _ nM w.hM, s _ _ nL w.hL⟩
theorem WS.setM {H0 H : Hp} {d c M L : Addr} {wd : List TB.Mk} {pl : List Nat} (w : WS H0 H d c M L wd pl) (nM : M ≠ d) (nc : M ≠ c) (n0 : H0 M = none) (nml : M ≠ L) {wd' : List TB.Mk} {xs : List V} (e : xs = wd'.map mkV) : WS H0 (upd H M (.lst xs)) d c M L wd' pl :=
  ⟨w.dr.upd nM nc, fun b o h1 h2 => by rw [upd_ne (ne_of_none h2 n0)]; exact w.ot b o h1 h2, by rw [upd_same, e], by rw [upd_ne nml.symm]; exact w.hL⟩
theorem WS.setL {H0 H : Hp} {d c M L : Addr} {wd : List TB.Mk} {pl : List Nat} (w : WS H0 H d c M L wd pl) (nL : L ≠ d) (nc : L ≠ c) (n0 : H0 L = none) (nml : M ≠ L) {pl' : List Nat} {xs : List V} (e : xs = pl'.map plV) : WS H0 (upd H L (.lst xs)) d c M L wd pl' :=
  ⟨w.dr.upd nL nc, fun b o h1 h2 => by rw [upd_ne (ne_of_none h2 n0)]; exact w.ot b o h1 h2, by rw [upd_ne nml]; exact w.hM, by rw [upd_same, e]⟩
theorem plV_ints (pl : List Nat) : pl.map plV = (pl.map fun p : Nat => (p : Int)).map V.int := by
  rw [List.map_map]
  rfl
/-- is the pile empty -/
theorem pile_ne {K : PySem.W.Frag} {H : Hp} {L e : Addr} {pl : List Nat} {Q : VK} (hL : H L = some (.lst (pl.map plV))) (ne : H e = none) (q : Q (.bl (!decide (pl = []))) (upd H e (.lst []))) : rNeD K (.ref L) (.ref e) (upd H e (.lst [])) Q := by
  have hL2 := same_upd (o := .lst []) ne _ _ hL
  rw [plV_ints] at hL2
  refine ne_ints (ys := []) (SqL.of hL2) (SqL.of upd_same) ?_
  rw [show decide (pl.map (fun p : Nat => (p : Int)) = []) = decide (pl = []) by cases pl <;> simp]
  exact q
theorem ends {α : Type} {l : List α} (h : l ≠ []) : ∃ ys x, l = ys ++ [x] := ⟨l.dropLast, l.getLast h, (List.dropLast_concat_getLast h).symm⟩
end TBW
namespace TBW
open PySem PySem.Spec PyProof.Rows L2 TBR
section
variable {P : Program} {w : World} {K : PySem.W.Frag} {mg : Str → Option Value} {base : Heap}
def spWord (K : PySem.W.Frag) : Sp := fun vs H Q _ => ∃ (d c : Addr) (n r : Nat), vs = [.ref d, .int n, .int r] ∧ Draws H d c ∧ n ≤ 100 ∧ ∀ H' M wd, TB.W r true wd → wd.length = n → Draws H' d c → Oth d H H' → H' M = some (.lst (wd.map mkV)) → Q (.ref M) H'
theorem g_len {r : Nat} {wd : List TB.Mk} {pl : List Nat} (g : TB.G r wd pl) : pl.length ≤ wd.length := by
  induction g with
  | base _ => exact Nat.zero_le _
  | push _ _ ih =>
    rw [List.length_append, List.length_append]
    simp
    omega
theorem lastQ {ys : List Nat} {x : Nat} : ((ys ++ [x]).map plV)[((ys ++ [x]).map plV).length - 1]? = some (plV x) := by simp
theorem ok_law_word {f : Addr} {fd : FuncData} (F : Fun K "_law_word" "_law_word" s_law_word f fd) (T : Blt mg) (c_law_next : Cal P w K mg base 1 "_law_next" ["_law_draws", "_law_many"] (spNext K)) :
    FnOk P w K mg base CX0 2 f fd ["_law_draws", "_law_many", "_law_reach"] (spWord K) := by
  refine F.ok sc_law_word (fun vs H Q E h => ?_) (fun cdv A outer s H vs Q E hr h => ?_)
  · obtain ⟨d, c, n, r, rfl, _⟩ := h
    rfl
  · obtain ⟨d, c, n, r, rfl, hd, hn, q⟩ := h
    refine ⟨_, (pss_cons (ps_par (i := 3) (j := 4) (by rfl) sc_law_word.nd rfl rfl (by decide) rfl rfl (pa_cons (pe_lst pa_nil) (pa_cons (pe_lst pa_nil) pa_nil)) (by rfl))
    (pss_cons (ps_for PassesOwn.never rfl (pi_range1 (by rfl) T.range (pa_cons (pv 1) pa_nil)) (pg_name (i := 5) sc_law_word.nd rfl (.inl rfl))
      (pss_cons (ps_while PassesOwn.never (PW.pt (pw_and (pt_cmpR (op_neD hr.units) (pv 4) (pe_lst pa_nil) (by rfl)) (pw_and1 (pt_cmpR op_gt (pe_op op_sub (pe_op op_sub (pv 5) (pe_ix ix_list (pv 4) (pe_un un_neg pe_int) (fun _ _ => rfl))) pe_int) (pv 2) (by rfl)))))
        (pss_one (ps_asg pe_str (pg_sub (pv 3) (pe_bm0 PySem.F.plainAttrs_list PySem.F.slot_list_pop PySem.F.type_list_pop mt_pop (pv 4)) set_list))))
      (pss_cons (ps_set (i := 6) sc_law_word.nd rfl (.inl rfl) (pe_k c_law_next hr (by decide) (by rfl) (pa_cons (pv 0) (pa_cons pe_int pa_nil))))
      (pss_one (ps_if (PW.pt (pw_and (pt_cmpR (op_neD hr.units) (pv 4) (pe_lst pa_nil) (by rfl)) (pw_and1 (pt_cmpR op_lt (pv 6) pe_int (by rfl)))))
        (pss_cons (ps_asg pe_str (pg_sub (pv 3) (pe_bm0 PySem.F.plainAttrs_list PySem.F.slot_list_pop PySem.F.type_list_pop mt_pop (pv 4)) set_list))
        (pss_one (ps_expr (pe_bm PySem.F.plainAttrs_list PySem.F.slot_list_append PySem.F.type_list_append mt_append (pv 3) (pa_cons pe_str pa_nil)))))
        (pss_one (ps_if (PW.pt (pw_or (pt_cmpR op_eq (pv 6) pe_int (by rfl)) (pw_or1 (pt_cmpR op_eq (pv 6) pe_int (by rfl)))))
          (pss_cons (ps_expr (pe_bm PySem.F.plainAttrs_list PySem.F.slot_list_append PySem.F.type_list_append mt_append (pv 4) (pa_cons (pv 5) pa_nil)))
          (pss_one (ps_expr (pe_bm PySem.F.plainAttrs_list PySem.F.slot_list_append PySem.F.type_list_append mt_append (pv 3) (pa_cons pe_str pa_nil)))))
          (pss_one (ps_expr (pe_bm PySem.F.plainAttrs_list PySem.F.slot_list_append PySem.F.type_list_append mt_append (pv 3) (pa_cons (pe_ifExp (pt_cmpR (op_neD hr.units) (pv 4) (pe_lst pa_nil) (by rfl)) pe_str (pe_ix ix_list (pe_lst (pa_cons pe_str (pa_cons pe_str (pa_cons pe_str pa_nil)))) (pe_k c_law_next hr (by decide) (by rfl) (pa_cons (pv 0) (pa_cons pe_int pa_nil))) (fun _ _ => rfl))) pa_nil)))))))))))
    (pss_one (ps_ret (pv 3))))), ?_⟩
    refine ⟨Nat.zero_le _, fun M nM => ⟨Nat.zero_le _, fun L nL => ⟨_, _, rfl, ?_⟩⟩⟩
    have sM := same_upd (o := .lst []) nM
    have n0L : H L = none := sM.free nL
    have nML : M ≠ L := ne_of_none upd_same nL
    have nMd := hd.nd nM
    have nMc := hd.nc nM
    have nLd := hd.nd n0L
    have nLc := hd.nc n0L
    have w0 : WS H (upd (upd H M (.lst [])) L (.lst [])) d c M L [] [] := ⟨(hd.upd nMd nMc).upd nLd nLc, Oth.of (sM.trans (same_upd nL)), by rw [upd_ne nML, upd_same]; rfl, upd_same⟩
    refine ⟨.int n, rfl, n, rfl, by omega, by omega, for_range (lo := 0) (n := n) (fun i σ H2 => ∃ (v5 v6 : Option V) (wd : List TB.Mk) (pl : List Nat), σ = [some (.ref d), some (.int n), some (.int r), some (.ref M), some (.ref L), v5, v6] ∧ WS H H2 d c M L wd pl ∧ TB.G r wd pl ∧ wd.length = i)
      ⟨none, none, [], [], rfl, w0, .base (.nil true), rfl⟩ ?_ ?_⟩
    · rintro i σ H2 hi ⟨v5, v6, wd, pl, rfl, ws, g, hw⟩
      rw [Int.zero_add]
      refine seq_cut (P := fun σ H3 => ∃ pl, σ = [some (.ref d), some (.int n), some (.int r), some (.ref M), some (.ref L), some (.int i), v6] ∧ WS H H3 d c M L wd pl ∧ TB.G r wd pl ∧ ∀ ys p, pl = ys ++ [p] → wd.length ≤ p + 1 + r) ?_ (fun N hN => ?_)
      · rintro σ H3 ⟨pl, rfl, ws, g, hlast⟩
        refine ⟨.ref d, rfl, d, c, 5, rfl, ws.dr, by decide, by decide, fun way H4 hway hd4 ho4 => ?_⟩
        have ws4 := ws.draw nMd nLd hd4 ho4
        -- the three roads
        have hgl := g_len g
        refine ⟨.ref L, rfl, Nat.zero_le _, fun e ne => pile_ne ws4.hL ne ⟨_, rfl, ?_⟩⟩
        have ws5 := ws4.same (same_upd (o := .lst []) ne)
        generalize upd H4 e (.lst []) = H5 at ws5 ⊢
        have lM : (wd.map mkV).length < sizeLine := ltz (by rw [List.length_map]; omega)
        have lL : (pl.map plV).length < sizeLine := ltz (by rw [List.length_map]; omega)
        have w6 : WS H (upd H5 L (.lst (pl.map plV ++ [.int (i : Nat)]))) d c M L wd (pl ++ [i]) := ws5.setL nLd nLc n0L nML (by rw [List.map_append]; rfl)
        have w7 : WS H (upd (upd H5 L (.lst (pl.map plV ++ [.int (i : Nat)]))) M (.lst (wd.map mkV ++ [.str "d"]))) d c M L (wd ++ [.d]) (pl ++ [i]) := w6.setM nMd nMc nM nML (by rw [List.map_append]; rfl)
        have g7 : TB.G r (wd ++ [.d]) (pl ++ [i]) := by
          have := g.open_
          rw [hw] at this
          exact this
        by_cases hpl : pl = []
        · subst hpl
          refine iteF ?_
          refine ⟨.int way, rfl, rfl, _, rfl, ite2 (fun c1 => ?_) (fun c1 => ⟨.int way, rfl, rfl, _, rfl, ite2 (fun c2 => ?_) (fun c2 => ?_)⟩)⟩
          · refine iteT ?_
            refine ⟨.ref L, rfl, .inl ⟨rfl, _, SqL.of ws5.hL⟩, .int i, rfl, L, _, _, rfl, rfl, ws5.hL, lL, ?_⟩
            refine ⟨.ref M, rfl, .inl ⟨rfl, _, SqL.of w6.hM⟩, M, _, _, rfl, rfl, w6.hM, lM, ?_⟩
            exact ⟨_, _, _, _, rfl, w7, g7, by rw [List.length_append, hw]; rfl⟩
          · refine ⟨.ref L, rfl, .inl ⟨rfl, _, SqL.of ws5.hL⟩, .int i, rfl, L, _, _, rfl, rfl, ws5.hL, lL, ?_⟩
            refine ⟨.ref M, rfl, .inl ⟨rfl, _, SqL.of w6.hM⟩, M, _, _, rfl, rfl, w6.hM, lM, ?_⟩
            exact ⟨_, _, _, _, rfl, w7, g7, by rw [List.length_append, hw]; rfl⟩
          · refine ⟨.ref M, rfl, .inl ⟨rfl, _, SqL.of ws5.hM⟩, .ref L, rfl, Nat.zero_le _, fun e2 ne2 => pile_ne ws5.hL ne2 ⟨_, rfl, ?_⟩⟩
            have ws6 := ws5.same (same_upd (o := .lst []) ne2)
            refine iteF ?_
            refine ⟨(by show 3 ≤ sizeLine; decide), fun z nz => ?_⟩
            have ws7 := ws6.same (same_upd (o := .lst [.str "o", .str "o", .str "d"]) nz)
            refine ⟨.ref d, rfl, d, c, 3, rfl, ws7.dr, by decide, by decide, fun v H8 hv hd8 ho8 => ?_⟩
            have ws8 := ws7.draw nMd nLd hd8 ho8
            have hz := ho8 z _ (ws6.dr.nd nz) upd_same
            have fin : ∀ (mk : TB.Mk), (mk = .o ∨ mk = .d) → mkV mk = ([V.str "o", V.str "o", V.str "d"]).getD v .non → WS H (upd H8 M (.lst (wd.map mkV ++ [([V.str "o", V.str "o", V.str "d"]).getD v .non]))) d c M L (wd ++ [mk]) [] ∧ TB.G r (wd ++ [mk]) [] := by
              intro mk hmk e
              refine ⟨ws8.setM nMd nMc nM nML (by rw [List.map_append, ← e]; rfl), ?_⟩
              rcases hmk with rfl | rfl
              · exact g.addO
              · exact g.addD
            have h3 : ∃ mk : TB.Mk, (mk = .o ∨ mk = .d) ∧ mkV mk = ([V.str "o", V.str "o", V.str "d"]).getD v .non := by
              rcases (show v = 0 ∨ v = 1 ∨ v = 2 by omega) with rfl | rfl | rfl
              · exact ⟨.o, .inl rfl, rfl⟩
              · exact ⟨.o, .inl rfl, rfl⟩
              · exact ⟨.d, .inr rfl, rfl⟩
            obtain ⟨mk, hmk, emk⟩ := h3
            obtain ⟨f1, f2⟩ := fin mk hmk emk
            have hget : ([V.str "o", V.str "o", V.str "d"])[v]? = some (([V.str "o", V.str "o", V.str "d"]).getD v .non) := by
              rcases (show v = 0 ∨ v = 1 ∨ v = 2 by omega) with rfl | rfl | rfl <;> rfl
            refine ⟨z, _, _, _, rfl, rfl, SqL.of hz, atI_nat hget, M, _, _, rfl, rfl, ws8.hM, lM, ?_⟩
            exact ⟨_, _, _, _, rfl, f1, f2, by rw [List.length_append, hw]; rfl⟩
        · rw [decide_eq_false hpl]
          refine iteT ?_
          refine ⟨.int way, rfl, _, _, rfl, rfl, _, rfl, ite2 (fun c1 => ?_) (fun c1 => ?_)⟩
          · obtain ⟨ys, p, rfl⟩ := ends hpl
            have hle := hlast ys p rfl
            obtain ⟨g1, g2⟩ := g.close hle
            refine ⟨.ref M, rfl, .ref L, rfl, .inl ⟨rfl, _, SqL.of ws5.hL⟩, L, _, _, rfl, rfl, ws5.hL, lastQ, ?_⟩
            have ws6 := ws5.setL nLd nLc n0L nML (pl' := ys) (xs := ((ys ++ [p]).map plV).dropLast) (by rw [List.map_append]; simp)
            refine ⟨M, _, _, p, rfl, rfl, ws6.hM, ixN_of (by rw [List.length_map]; exact g2), ?_⟩
            have ws7 := ws6.setM nMd nMc nM nML (wd' := wd.set p .t) (xs := (wd.map mkV).set p (.str "t")) (by rw [List.map_set]; rfl)
            refine ⟨.ref M, rfl, .inl ⟨rfl, _, SqL.of ws7.hM⟩, M, _, _, rfl, rfl, ws7.hM, ltz (by rw [List.length_map, List.length_set]; omega), ?_⟩
            exact ⟨_, _, _, _, rfl, ws7.setM nMd nMc nM nML (by rw [List.map_append]; rfl), g1, by rw [List.length_append, List.length_set, hw]; rfl⟩
          · refine ⟨.int way, rfl, rfl, _, rfl, ite2 (fun c1 => ?_) (fun c1 => ⟨.int way, rfl, rfl, _, rfl, ite2 (fun c2 => ?_) (fun c2 => ?_)⟩)⟩
            · refine iteT ?_
              refine ⟨.ref L, rfl, .inl ⟨rfl, _, SqL.of ws5.hL⟩, .int i, rfl, L, _, _, rfl, rfl, ws5.hL, lL, ?_⟩
              refine ⟨.ref M, rfl, .inl ⟨rfl, _, SqL.of w6.hM⟩, M, _, _, rfl, rfl, w6.hM, lM, ?_⟩
              exact ⟨_, _, _, _, rfl, w7, g7, by rw [List.length_append, hw]; rfl⟩
            · refine ⟨.ref L, rfl, .inl ⟨rfl, _, SqL.of ws5.hL⟩, .int i, rfl, L, _, _, rfl, rfl, ws5.hL, lL, ?_⟩
              refine ⟨.ref M, rfl, .inl ⟨rfl, _, SqL.of w6.hM⟩, M, _, _, rfl, rfl, w6.hM, lM, ?_⟩
              exact ⟨_, _, _, _, rfl, w7, g7, by rw [List.length_append, hw]; rfl⟩
            · refine ⟨.ref M, rfl, .inl ⟨rfl, _, SqL.of ws5.hM⟩, .ref L, rfl, Nat.zero_le _, fun e2 ne2 => pile_ne ws5.hL ne2 ⟨_, rfl, ?_⟩⟩
              have ws6 := ws5.same (same_upd (o := .lst []) ne2)
              rw [decide_eq_false hpl]
              refine iteT ?_
              refine ⟨M, _, _, rfl, rfl, ws6.hM, lM, ?_⟩
              exact ⟨_, _, _, _, rfl, ws6.setM nMd nMc nM nML (by rw [List.map_append]; rfl), g.addD, by rw [List.length_append, hw]; rfl⟩
      · refine ⟨fun m σ H3 => ∃ pl, m = pl.length ∧ σ = [some (.ref d), some (.int n), some (.int r), some (.ref M), some (.ref L), some (.int i), v6] ∧ WS H H3 d c M L wd pl ∧ TB.G r wd pl, ⟨_, pl, rfl, rfl, ws, g⟩, ?_⟩
        rintro m σ H3 ⟨pl, rfl, rfl, ws, g⟩
        refine ⟨.ref L, rfl, Nat.zero_le _, fun e ne => pile_ne ws.hL ne ⟨_, rfl, ?_⟩⟩
        have ws2 := ws.same (same_upd (o := .lst []) ne)
        by_cases hpl : pl = []
        · subst hpl
          refine iteF ?_
          exact hN _ _ ⟨[], rfl, ws2, g, fun ys p h => by simp at h⟩
        · rw [decide_eq_false hpl]
          refine iteT ?_
          obtain ⟨ys, p, rfl⟩ := ends hpl
          have hlast : atI ((ys ++ [p]).map plV) (-1) = some (plV p) := by
            rw [List.map_append]
            exact atI_last _ _
          refine ⟨_, rfl, .ref L, rfl, 1, rfl, L, _, -1, _, rfl, rfl, SqL.of ws2.hL, hlast, _, _, rfl, rfl, _, _, rfl, rfl, .int r, rfl, _, _, rfl, rfl, _, rfl, ite2 (fun c1 => ?_) (fun c1 => ?_)⟩
          · obtain ⟨g1, g2, g3⟩ := g.lose
            refine ⟨fun σ' H' => ∃ pl', ys = pl' ∧ σ' = [some (.ref d), some (.int n), some (.int r), some (.ref M), some (.ref L), some (.int i), v6] ∧ WS H H' d c M L wd pl' ∧ TB.G r wd pl', fun σ' H' ⟨pl', e1, e2, e3, e4⟩ => ⟨_, by rw [List.length_append, ← e1]; exact Nat.lt_succ_self _, pl', rfl, e2, e3, e4⟩, ?_⟩
            refine ⟨.ref M, rfl, .ref L, rfl, .inl ⟨rfl, _, SqL.of ws2.hL⟩, L, _, _, rfl, rfl, ws2.hL, lastQ, ?_⟩
            have ws3 := ws2.setL nLd nLc n0L nML (pl' := ys) (xs := ((ys ++ [p]).map plV).dropLast) (by rw [List.map_append]; simp)
            refine ⟨M, _, _, p, rfl, rfl, ws3.hM, ixN_of (by rw [List.length_map]; exact g2), ?_⟩
            refine ⟨ys, rfl, rfl, ws3.setM nMd nMc nM nML ?_, g1⟩
            conv => rhs; rw [← g3]
            rw [List.map_set]
            rfl
          · refine hN _ _ ⟨_, rfl, ws2, g, fun zs p' hz => ?_⟩
            have := List.append_inj' hz rfl
            have e2 : p = p' := by simpa using this.2
            subst e2
            have c2 : ¬ ((r : Int) < (i : Int) - (p : Nat) - 1) := fun h => c1 (decide_eq_true h)
            omega
    · rintro σ H2 ⟨v5, v6, wd, pl, rfl, ws, g, hw⟩
      exact ⟨.ref M, rfl, q H2 M wd g.word hw ws.dr ws.ot ws.hM⟩
end
end TBW
namespace TBW
open PySem PySem.Spec PyProof.Rows L2 TBR
/-! ### change of places, without a heap -/
theorem parF_none {l : List Ev} {z : Str} (h : z ∉ TB.boats l) : parF l z = none := by
  have key : ∀ (l : List Ev) (g : Str → Option Str), z ∉ TB.boats l → l.foldl parStep g z = g z := by
    intro l
    induction l with
    | nil => intro g _; rfl
    | cons e l ih =>
      intro g h
      rw [TB.boats_cons, List.mem_append] at h
      rw [List.foldl_cons, ih _ (fun c => h (.inr c))]
      cases e with
      | drop x => rfl
      | touch x y =>
        have h1 : z ∉ [x, y] := fun c => h (.inl c)
        simp only [List.mem_cons, List.not_mem_nil, or_false, not_or] at h1
        show (if z = y then some x else if z = x then some y else g z) = g z
        rw [if_neg h1.2, if_neg h1.1]
  exact key l _ h
theorem parF_filter (sh : List Ev) : parF (sh.filter isT) = parF sh := by
  have key : ∀ (l : List Ev) (g : Str → Option Str), (l.filter isT).foldl parStep g = l.foldl parStep g := by
    intro l
    induction l with
    | nil => intro g; rfl
    | cons e l ih =>
      intro g
      cases e with
      | drop x => exact ih g
      | touch x y => exact ih _
  exact key sh _
/-- the law's own change of places -/
def afT (st : List Str) (row : List Str) : Ev → List Str
  | .touch x y => (row.set (st.idxOf x) y).set (st.idxOf y) x
  | .drop _ => row
def swapped (st : List Str) (l : List Ev) : List Str := st.map fun z => (parF l z).getD z
theorem idx_get {st : List Str} (nd : st.Nodup) {i : Nat} {z : Str} (h : st[i]? = some z) : st.idxOf z = i := by
  have hz : z ∈ st := List.mem_of_getElem? h
  have h1 := List.idxOf_lt_length_of_mem hz
  have h2 : st[st.idxOf z]? = some z := by
    rw [List.getElem?_eq_getElem h1]
    simp
  exact (List.getElem?_inj h1 nd).mp (h2.trans h.symm)
theorem idx_at2 {st : List Str} {z : Str} (hz : z ∈ st) : st[st.idxOf z]? = some z := by
  have h1 := List.idxOf_lt_length_of_mem hz
  rw [List.getElem?_eq_getElem h1]
  simp
theorem swap_step {st : List Str} (nd : st.Nodup) {l : List Ev} {x y : Str} (hx : x ∈ st) (hy : y ∈ st) (hxy : x ≠ y) : ((swapped st l).set (st.idxOf x) y).set (st.idxOf y) x = swapped st (l ++ [.touch x y]) := by
  apply List.ext_getElem?
  intro i
  have ix := List.idxOf_lt_length_of_mem hx
  have iy := List.idxOf_lt_length_of_mem hy
  have ex := idx_at2 hx
  have ey := idx_at2 hy
  rw [List.getElem?_set, List.getElem?_set, List.length_set]
  unfold swapped
  rw [List.length_map, List.getElem?_map, List.getElem?_map, parF_snoc]
  by_cases h1 : st.idxOf y = i
  · subst h1
    rw [if_pos rfl, if_pos iy, ey]
    show some x = some ((if y = y then some x else _).getD y)
    rw [if_pos rfl]
    rfl
  · rw [if_neg h1]
    by_cases h2 : st.idxOf x = i
    · subst h2
      rw [if_pos rfl, if_pos ix, ex]
      show some y = some ((if x = y then some x else if x = x then some y else _).getD x)
      rw [if_neg hxy, if_pos rfl]
      rfl
    · rw [if_neg h2]
      cases hz : st[i]? with
      | none => rfl
      | some z =>
        have n1 : z ≠ y := fun e => h1 (by subst e; exact idx_get nd hz)
        have n2 : z ≠ x := fun e => h2 (by subst e; exact idx_get nd hz)
        show some ((parF l z).getD z) = some ((if z = y then some x else if z = x then some y else parF l z).getD z)
        rw [if_neg n1, if_neg n2]
theorem swapped_at {st : List Str} {l : List Ev} {x : Str} (hx : x ∈ st) (h : x ∉ TB.boats l) : (swapped st l)[st.idxOf x]? = some x := by
  unfold swapped
  rw [List.getElem?_map, idx_at2 hx]
  show some ((parF l x).getD x) = some x
  rw [parF_none h]
  rfl
theorem folds {st : List Str} (nd : st.Nodup) {l : List Ev} (hin : In st l) (hb : (TB.boats l).Nodup) : ∀ i, i ≤ l.length → (l.take i).foldl (exT st) st = swapped st (l.take i) ∧ (l.take i).foldl (afT st) st = swapped st (l.take i)
  | 0, _ => by
    have : swapped st [] = st := by
      unfold swapped
      simp [parF]
    rw [List.take_zero]
    exact ⟨this.symm, this.symm⟩
  | i + 1, h => by
    obtain ⟨ih1, ih2⟩ := folds nd hin hb i (by omega)
    obtain ⟨z, hz⟩ : ∃ z, l[i]? = some z := ⟨_, List.getElem?_eq_getElem (by omega)⟩
    have hs := take_snoc hz
    have hzl : z ∈ l := List.mem_of_getElem? hz
    rw [hs, List.foldl_append, List.foldl_append, ih1, ih2]
    cases z with
    | drop x =>
      have e : swapped st (l.take i ++ [.drop x]) = swapped st (l.take i) := by
        unfold swapped
        rw [parF_snoc]
        rfl
      rw [e]
      exact ⟨rfl, rfl⟩
    | touch x y =>
      have hx : x ∈ st := hin x (List.mem_flatMap.mpr ⟨_, hzl, by simp [TB.Ev.bs]⟩)
      have hy : y ∈ st := hin y (List.mem_flatMap.mpr ⟨_, hzl, by simp [TB.Ev.bs]⟩)
      have eb : TB.boats l = (TB.boats (l.take i) ++ [x, y]) ++ TB.boats (l.drop (i + 1)) := by
        rw [show TB.boats (l.take i) ++ [x, y] = TB.boats (l.take (i + 1)) by rw [boats_snoc hz]; rfl, ← TB.boats_app, List.take_append_drop]
      rw [eb] at hb
      have hb2 := (List.nodup_append.mp (List.nodup_append.mp hb).1)
      have hxy : x ≠ y := by
        have := hb2.2.1
        simp at this
        exact this
      have nx : x ∉ TB.boats (l.take i) := fun c => hb2.2.2 x c x (by simp) rfl
      have ny : y ∉ TB.boats (l.take i) := fun c => hb2.2.2 y c y (by simp) rfl
      have gx := swapped_at (l := l.take i) hx nx
      have gy := swapped_at (l := l.take i) hy ny
      have st1 := swap_step nd (l := l.take i) hx hy hxy
      refine ⟨?_, st1⟩
      show exT st (swapped st (l.take i)) (.touch x y) = _
      rw [← st1]
      show exch _ _ _ ((swapped st (l.take i)).getD (st.idxOf x) x) ((swapped st (l.take i)).getD (st.idxOf y) y) = _
      rw [List.getD_eq_getElem?_getD, List.getD_eq_getElem?_getD, gx, gy]
      rfl
theorem in_of_sound {st : List Str} {r : Nat} {sh : List Ev} (so : TB.Sound st r sh) : In st sh := so.sub
theorem boats_filter_nd {sh : List Ev} (h : (TB.boats sh).Nodup) : (TB.boats (sh.filter isT)).Nodup := by
  refine List.Sublist.nodup ?_ h
  unfold TB.boats
  induction sh with
  | nil => exact .slnil
  | cons e sh ih =>
    have ih := ih (by
      rw [TB.boats_cons] at h
      exact (List.nodup_append.mp h).2.1)
    rw [List.filter_cons]
    split
    · rw [List.flatMap_cons, List.flatMap_cons]
      exact (List.Sublist.refl _).append ih
    · rw [List.flatMap_cons]
      exact ih.trans (List.sublist_append_right _ _)
theorem behind_eq {st : List Str} (nd : st.Nodup) {r : Nat} {sh : List Ev} (so : TB.Sound st r sh) : behindT st (sh.filter isT) = swapped st sh := by
  have h := (folds nd (in_filter so.sub) (boats_filter_nd so.nd) (sh.filter isT).length (Nat.le_refl _)).1
  rw [List.take_length] at h
  unfold behindT
  rw [h]
  unfold swapped
  rw [parF_filter]
theorem after_eq {st : List Str} (nd : st.Nodup) {r : Nat} {sh : List Ev} (so : TB.Sound st r sh) (i : Nat) (h : i ≤ sh.length) : (sh.take i).foldl (afT st) st = swapped st (sh.take i) := (folds nd so.sub so.nd i h).2
end TBW
namespace TBW
open PySem PySem.Spec PyProof.Rows L2 TBR
theorem idx_first {st : List Str} (nd : st.Nodup) {x : Str} (hx : x ∈ st) : ∀ m, m < st.idxOf x → st[m]? ≠ some x := fun m hm h => by
  have := idx_get nd h
  omega
theorem Evs.perm {K : PySem.W.Frag} {H : Hp} {vs vs' : List V} (p : vs'.Perm vs) : ∀ {sh : List Ev}, Evs K H vs sh → ∃ sh' : List Ev, sh'.Perm sh ∧ Evs K H vs' sh' := by
  have key : ∀ {us us' : List V}, us.Perm us' → ∀ {sh : List Ev}, Evs K H us sh → ∃ sh' : List Ev, sh'.Perm sh ∧ Evs K H us' sh' := by
    intro us us' p
    induction p with
    | nil =>
      intro sh h
      exact ⟨sh, .refl _, h⟩
    | cons x _ ih =>
      intro sh h
      cases h with
      | cons a h =>
        obtain ⟨sh', p, h'⟩ := ih h
        exact ⟨_ :: sh', p.cons _, .cons a h'⟩
    | swap x y l =>
      intro sh h
      cases h with
      | cons a h =>
        cases h with
        | cons b h => exact ⟨_, .swap _ _ _, .cons b (.cons a h)⟩
    | trans _ _ ih1 ih2 =>
      intro sh h
      obtain ⟨s1, p1, h1⟩ := ih1 h
      obtain ⟨s2, p2, h2⟩ := ih2 h1
      exact ⟨s2, p2.trans p1, h2⟩
  intro sh h
  exact key p.symm h
theorem walk_zipM {K : PySem.W.Frag} {a b : Addr} {xs ys : List V} (hl : xs.length = ys.length) : Walk (ItzM K a b) xs.length (fun H => SqT K H a xs ∧ SqL K H b ys) (YPair (fun i => xs[i]?) (fun i => ys[i]?)) := by
  refine ⟨fun i H hi q => ?_, fun H q => ⟨xs, ys, q.1, q.2, rfl, hl.symm⟩, fun i H v H' _ q y => ?_⟩
  · exact ⟨xs, ys, xs[i], ys[i]'(by omega), q.1, q.2, List.getElem?_eq_getElem hi, List.getElem?_eq_getElem (by omega)⟩
  · obtain ⟨T, x, y', h1, h2, h3, h4, h5⟩ := y
    exact ⟨T, x, y', h1, h2, h3, h4 xs q.1, h5 ys q.2⟩
theorem run_split {s r : List Str × List Ev} {zs : List (Str × TB.Mk)} (h : TB.run s zs = some r) (i : Nat) : ∃ s', TB.run s (zs.take i) = some s' ∧ TB.run s' (zs.drop i) = some r := by
  have e := TB.run_app s (zs.take i) (zs.drop i)
  rw [List.take_append_drop, h] at e
  cases h2 : TB.run s (zs.take i) with
  | none =>
    rw [h2] at e
    cases e
  | some s' =>
    rw [h2] at e
    exact ⟨s', rfl, e.symm⟩
theorem run_step {s r s' : List Str × List Ev} {zs : List (Str × TB.Mk)} (h : TB.run s zs = some r) {i : Nat} {z : Str × TB.Mk} (hz : zs[i]? = some z) (hs : TB.run s (zs.take i) = some s') : ∃ s2, TB.stp s' z = some s2 ∧ TB.run s (zs.take (i + 1)) = some s2 := by
  obtain ⟨s2, h2, _⟩ := run_split h (i + 1)
  have h3 := h2
  rw [take_snoc hz, TB.run_app, hs] at h3
  have h4 : (TB.stp s' z).bind (fun s'' => TB.run s'' []) = some s2 := h3
  cases e : TB.stp s' z with
  | none =>
    rw [e] at h4
    cases h4
  | some q =>
    rw [e] at h4
    have : q = s2 := Option.some.inj h4
    subst this
    exact ⟨q, rfl, h2⟩
section
variable {P : Program} {w : World} {K : PySem.W.Frag} {mg : Str → Option Value} {base : Heap}
theorem ok_law_after {f : Addr} {fd : FuncData} (F : Fun K "_law_after" "_law_after" s_law_after f fd) (T : Blt mg) : FnOk P w K mg base CX0 1 f fd ["_law_start", "_law_sheet_here"] (spBehind K) := by
  refine F.ok sc_law_after (fun vs H Q E h => ?_) (fun cdv A outer s H vs Q E hr h => ?_)
  · obtain ⟨p, a, st, sh, r, rfl, _⟩ := h
    rfl
  · obtain ⟨p, a, st, sh, r, rfl, hp, nd, ⟨vs0, hS, hE⟩, so, hl, q⟩ := h
    refine ⟨_, (pss_cons (ps_set (i := 2) sc_law_after.nd rfl (.inl rfl) (pe_callTy call_list_of (by rfl) T.list (by decide +kernel) (pa_cons (pv 0) pa_nil)))
    (pss_cons (ps_for PassesOwn.never rfl (pi_tup (pv 1)) (pg_name (i := 3) sc_law_after.nd rfl (.inl rfl))
      (pss_one (ps_if (pt_cmpR op_eq (pe_ix ix_tup (pv 3) pe_int (fun _ _ => rfl)) pe_str (by rfl))
        (pss_cons (ps_asg (pe_ix ix_tup (pv 3) pe_int (fun _ _ => rfl)) (pg_sub (pv 2) (pe_indF (pv 0) (pa_cons (pe_ix ix_tup (pv 3) pe_int (fun _ _ => rfl)) pa_nil)) set_list))
        (pss_one (ps_asg (pe_ix ix_tup (pv 3) pe_int (fun _ _ => rfl)) (pg_sub (pv 2) (pe_indF (pv 0) (pa_cons (pe_ix ix_tup (pv 3) pe_int (fun _ _ => rfl)) pa_nil)) set_list))))
        pss_nil)))
    (pss_one (ps_ret (pe_callTy call_tupF (by rfl) T.tuple (by decide +kernel) (pa_cons (pv 2) pa_nil)))))), ?_⟩
    refine ⟨.ref p, rfl, p, _, rfl, .inr hp.t, fun D hD => ?_⟩
    have s0 := same_upd (o := .lst (st.map V.str)) hD
    refine ⟨.ref a, rfl, a, rfl, ⟨_, sameT s0 hS⟩, for_tup (K := K) (a := a) (xs := vs0) (fun i σ H2 => ∃ v3 : Option V, σ = [some (.ref p), some (.ref a), some (.ref D), v3] ∧ Same H H2 ∧ H2 D = some (.lst ((swapped st (sh.take i)).map V.str)))
      ⟨none, rfl, s0, ?_⟩ (fun i σ H2 _ ⟨_, _, s2, _⟩ => sameT s2 hS) ?_ ?_⟩
    · rw [upd_same]
      have : swapped st [] = st := by
        unfold swapped
        simp [parF]
      rw [List.take_zero, this]
    · rintro i x σ H2 hi ⟨v3, rfl, s2, hd⟩
      obtain ⟨e, z, rfl, hz, hzt⟩ := hE.get hi
      have hi2 := (List.getElem?_eq_some_iff.mp hz).1
      have he := sameT s2 hzt
      have hp2 := hp.same s2
      have e1 := after_eq nd so (i + 1) hi2
      rw [take_snoc hz, List.foldl_append, after_eq nd so i (by omega)] at e1
      have hzl : z ∈ sh := List.mem_of_getElem? hz
      cases z with
      | drop x =>
        refine ⟨.ref e, rfl, e, _, 0, _, rfl, rfl, he, rfl, rfl, _, rfl, iteF ?_⟩
        refine ⟨_, rfl, s2, ?_⟩
        rw [take_snoc hz, ← e1]
        exact hd
      | touch x y =>
        have hx : x ∈ st := so.sub x (List.mem_flatMap.mpr ⟨_, hzl, by simp [TB.Ev.bs]⟩)
        have hy : y ∈ st := so.sub y (List.mem_flatMap.mpr ⟨_, hzl, by simp [TB.Ev.bs]⟩)
        have lx := List.idxOf_lt_length_of_mem hx
        have ly := List.idxOf_lt_length_of_mem hy
        have ls : (swapped st (sh.take i)).length = st.length := by
          unfold swapped
          rw [List.length_map]
        refine ⟨.ref e, rfl, e, _, 0, _, rfl, rfl, he, rfl, rfl, _, rfl, iteT ?_⟩
        refine ⟨.ref e, rfl, e, _, 2, _, rfl, rfl, he, rfl, .ref D, rfl, .ref p, rfl, ⟨p, _, rfl, hp2⟩, .ref e, rfl, e, _, 1, _, rfl, rfl, he, rfl, p, st, x, _, rfl, rfl, hp2.t, idx_at2 hx, idx_first nd hx, D, _, _, st.idxOf x, rfl, rfl, hd, ixN_of (by rw [List.length_map]; omega), ?_⟩
        have t1 := SameT.lst (o := .lst (((swapped st (sh.take i)).map V.str).set (st.idxOf x) (.str y))) hd
        have hp3 := t1.row hp2
        have he3 := t1.seq he
        refine ⟨.ref e, rfl, e, _, 1, _, rfl, rfl, he3, rfl, .ref D, rfl, .ref p, rfl, ⟨p, _, rfl, hp3⟩, .ref e, rfl, e, _, 2, _, rfl, rfl, he3, rfl, p, st, y, _, rfl, rfl, hp3.t, idx_at2 hy, idx_first nd hy, D, _, _, st.idxOf y, rfl, rfl, upd_same, ixN_of (by rw [List.length_set, List.length_map]; omega), ?_⟩
        refine ⟨_, rfl, sameUpd (sameUpd s2 hD) hD, ?_⟩
        rw [take_snoc hz, ← e1, upd_same, strset, strset]
        rfl
    · rintro σ H2 ⟨v3, rfl, s2, hd⟩
      rw [hE.len, List.take_length] at hd
      refine ⟨.ref D, rfl, D, _, rfl, SqL.of hd, fun t ob nt hob => ?_⟩
      refine q _ t (s2.trans (same_upd nt)) ?_
      rw [behind_eq nd so]
      exact TupF.new hob
def spSheet (K : PySem.W.Frag) : Sp := fun vs H Q _ => ∃ (p M : Addr) (st : List Str) (wd : List TB.Mk) (r : Nat), vs = [.ref p, .ref M] ∧ RowF H p st ∧ st.Nodup ∧ H M = some (.lst (wd.map mkV)) ∧ TB.W r true wd ∧ st.length = wd.length ∧ st.length ≤ 100 ∧
  ∀ H' q sh, Same H H' → ShV K H' q sh → TB.Sound st r sh → sh.length ≤ 100 → Q (.ref q) H'
theorem ok_law_sheet {f : Addr} {fd : FuncData} (F : Fun K "_law_sheet" "_law_sheet" s_law_sheet f fd) (T : Blt mg) : FnOk P w K mg base CX0 1 f fd ["_law_start", "_law_marks"] (spSheet K) := by
  refine F.ok sc_law_sheet (fun vs H Q E h => ?_) (fun cdv A outer s H vs Q E hr h => ?_)
  · obtain ⟨p, M, st, wd, r, rfl, _⟩ := h
    rfl
  · obtain ⟨p, M, st, wd, r, rfl, hp, nd, hM, hW, hl, h9, q⟩ := h
    refine ⟨_, (pss_cons (ps_par (i := 2) (j := 3) (by rfl) sc_law_sheet.nd rfl rfl (by decide) rfl rfl (pa_cons (pe_lst pa_nil) (pa_cons (pe_lst pa_nil) pa_nil)) (by rfl))
    (pss_cons (ps_for PassesOwn.never rfl (pi_zipM (by rfl) T.zip (pa_cons (pv 0) (pa_cons (pv 1) pa_nil))) (pg_tup (by rfl) (pgs_cons (pg_name (i := 4) sc_law_sheet.nd rfl (.inl rfl)) (pgs_cons (pg_name (i := 5) sc_law_sheet.nd rfl (.inl rfl)) pgs_nil)))
      (pss_one (ps_if (pt_cmpR op_eq (pv 5) pe_str (by rfl))
        (pss_one (ps_expr (pe_bm PySem.F.plainAttrs_list PySem.F.slot_list_append PySem.F.type_list_append mt_append (pv 2) (pa_cons (pv 4) pa_nil))))
        (pss_one (ps_if (pt_cmpR op_eq (pv 5) pe_str (by rfl))
          (pss_one (ps_expr (pe_bm PySem.F.plainAttrs_list PySem.F.slot_list_append PySem.F.type_list_append mt_append (pv 3) (pa_cons (pe_tup (pa_cons pe_str (pa_cons (pv 4) (pa_cons (pe_bm0 PySem.F.plainAttrs_list PySem.F.slot_list_pop PySem.F.type_list_pop mt_pop (pv 2)) pa_nil)))) pa_nil))))
          (pss_one (ps_if (pt_cmpR op_eq (pv 5) pe_str (by rfl))
            (pss_one (ps_expr (pe_bm PySem.F.plainAttrs_list PySem.F.slot_list_append PySem.F.type_list_append mt_append (pv 3) (pa_cons (pe_tup (pa_cons pe_str (pa_cons (pv 4) pa_nil))) pa_nil))))
            pss_nil)))))))
    (pss_one (ps_ret (pe_callTy call_tupF (by rfl) T.tuple (by decide +kernel) (pa_cons (pe_callB (cr_sortD hr.units) (by rfl) T.sorted (by decide +kernel) (pa_cons (pv 3) pa_nil)) pa_nil)))))), ?_⟩
    obtain ⟨evs, hrun, hso⟩ := TB.sheet_sound hW hl nd
    refine ⟨Nat.zero_le _, fun L nL => ⟨Nat.zero_le _, fun E nE => ⟨_, _, rfl, ?_⟩⟩⟩
    have sL := same_upd (o := .lst []) nL
    have sE := same_upd (o := .lst []) nE
    have n0E : H E = none := sL.free nE
    have nLE : L ≠ E := ne_of_none upd_same nE
    have s0 := sL.trans sE
    refine ⟨.ref p, rfl, .ref M, rfl, p, M, st.map V.str, _, rfl, (hp.same s0).t, SqL.of (s0 _ _ hM), for_it (walk_zipM (by rw [List.length_map, List.length_map, hl])) (fun i σ H2 => ∃ (v4 v5 : Option V) (pl : List Str) (us : List V) (es : List Ev), σ = [some (.ref p), some (.ref M), some (.ref L), some (.ref E), v4, v5] ∧ Same H H2 ∧ H2 L = some (.lst (pl.map V.str)) ∧ H2 E = some (.lst us) ∧ Evs K H2 us es ∧ TB.run ([], []) ((st.zip wd).take i) = some (pl, es) ∧ us.length ≤ i ∧ pl.length ≤ i)
      ⟨none, none, [], [], [], rfl, s0, by rw [upd_ne nLE, upd_same]; rfl, upd_same, Evs.nil, rfl, Nat.le_refl _, Nat.le_refl _⟩ (fun i σ H2 _ ⟨_, _, _, _, _, _, s2, _⟩ => ⟨(hp.same s2).t, SqL.of (s2 _ _ hM)⟩) ?_ ?_⟩
    · rintro i v σ H2 H3 hi ⟨v4, v5, pl, us, es, rfl, s2, hL, hEv, hes, hr2, hul, hpl⟩ ⟨TT, x1, x2, rfl, nT, rfl, g1, g2⟩
      obtain ⟨b, hb, rfl⟩ := strget g1
      have g2 : (wd.map mkV)[i]? = some x2 := g2
      rw [List.getElem?_map] at g2
      obtain ⟨mk, hmk, rfl⟩ : ∃ mk, wd[i]? = some mk ∧ x2 = mkV mk := by
        cases e : wd[i]? with
        | none =>
          rw [e] at g2
          cases g2
        | some mk =>
          rw [e] at g2
          exact ⟨mk, rfl, (Option.some.inj g2).symm⟩
      have hz : (st.zip wd)[i]? = some (b, mk) := by
        rw [List.getElem?_zip_eq_some]
        exact ⟨hb, hmk⟩
      obtain ⟨⟨pl2, es2⟩, hst, hr3⟩ := run_step hrun hz hr2
      have sT := same_upd (o := .tup [.str b, mkV mk]) nT
      have hL3 := sT _ _ hL
      have hE3 := sT _ _ hEv
      have s3 := s2.trans sT
      have i9 : i < 100 := by
        rw [List.length_map] at hi
        omega
      refine ⟨TT, _, rfl, SqT.of upd_same, rfl, _, _, rfl, _, _, rfl, rfl, ?_⟩
      have lpl : pl.length ≤ 100000 := by omega
      cases mk with
      | t =>
        have hst2 : some (pl ++ [b], es) = some (pl2, es2) := hst
        cases hst2
        refine ⟨_, rfl, rfl, _, rfl, iteT ?_⟩
        refine ⟨.ref L, rfl, .inl ⟨rfl, _, SqL.of hL3⟩, .str b, rfl, L, _, _, rfl, rfl, hL3, ltz (by rw [List.length_map]; exact lpl), ?_⟩
        have st4 := SameT.lst (o := .lst (pl.map V.str ++ [.str b])) hL3
        exact ⟨_, _, _, _, _, rfl, sameUpd s3 nL, by rw [upd_same, List.map_append]; rfl, by rw [upd_ne nLE.symm]; exact hE3, st4.evs (hes.same sT), hr3, by omega, by rw [List.length_append]; simp; omega⟩
      | u =>
        cases hlp : pl.getLast? with
        | none =>
          exfalso
          have e : TB.stp (pl, es) (b, TB.Mk.u) = none := by simp [TB.stp, hlp]
          rw [hst] at e
          cases e
        | some y =>
          have e : TB.stp (pl, es) (b, TB.Mk.u) = some (pl.dropLast, es ++ [TB.Ev.touch b y]) := by simp [TB.stp, hlp]
          rw [hst] at e
          cases e
          refine ⟨_, rfl, rfl, _, rfl, iteF ?_⟩
          refine ⟨_, rfl, rfl, _, rfl, iteT ?_⟩
          have hly : (pl.map V.str)[(pl.map V.str).length - 1]? = some (.str y) := by
            rw [List.length_map, List.getElem?_map, ← List.getLast?_eq_getElem?, hlp]
            rfl
          refine ⟨.ref E, rfl, .inl ⟨rfl, _, SqL.of hE3⟩, .str b, rfl, .ref L, rfl, .inl ⟨rfl, _, SqL.of hL3⟩, L, _, _, rfl, rfl, hL3, hly, ?_⟩
          have st4 := SameT.lst (o := .lst (pl.map V.str).dropLast) hL3
          refine ⟨(by show 3 ≤ sizeLine; decide), fun t nt => ?_⟩
          have st5 := same_upd (o := .tup [.str "touch", .str b, .str y]) nt
          have hE5 : (upd (upd (upd H2 TT (.tup [.str b, mkV .u])) L (.lst (pl.map V.str).dropLast)) t (.tup [.str "touch", .str b, .str y])) E = some (.lst us) := st5 _ _ (by rw [upd_ne nLE.symm]; exact hE3)
          refine ⟨E, us, _, rfl, rfl, hE5, ltz (by omega), ?_⟩
          have st6 := SameT.lst (o := .lst (us ++ [.ref t])) hE5
          refine ⟨_, _, pl.dropLast, _, _, rfl, sameUpd ((fun b o e => st5 _ _ (sameUpd s3 nL b o e))) n0E, ?_, upd_same, ?_, hr3, by rw [List.length_append]; simp; omega, by rw [List.length_dropLast]; omega⟩
          · rw [upd_ne nLE, List.map_dropLast]
            exact st5 _ _ upd_same
          · exact (st6.evs ((st4.evs (hes.same sT)).same st5)).snoc (st6.seq (SqT.of upd_same))
      | d =>
        have hst2 : some (pl, es ++ [TB.Ev.drop b]) = some (pl2, es2) := hst
        cases hst2
        refine ⟨_, rfl, rfl, _, rfl, iteF ?_⟩
        refine ⟨_, rfl, rfl, _, rfl, iteF ?_⟩
        refine ⟨_, rfl, rfl, _, rfl, iteT ?_⟩
        refine ⟨.ref E, rfl, .inl ⟨rfl, _, SqL.of hE3⟩, .str b, rfl, (by show 2 ≤ sizeLine; decide), fun t nt => ?_⟩
        have st5 := same_upd (o := .tup [.str "drop", .str b]) nt
        have hE5 := st5 _ _ hE3
        refine ⟨E, us, _, rfl, rfl, hE5, ltz (by omega), ?_⟩
        have st6 := SameT.lst (o := .lst (us ++ [.ref t])) hE5
        refine ⟨_, _, pl, _, _, rfl, sameUpd (s3.trans st5) n0E, ?_, upd_same, ?_, hr3, by rw [List.length_append]; simp; omega, by omega⟩
        · rw [upd_ne nLE]
          exact st5 _ _ hL3
        · exact (st6.evs ((hes.same sT).same st5)).snoc (st6.seq (SqT.of upd_same))
      | o =>
        have hst2 : some (pl, es) = some (pl2, es2) := hst
        cases hst2
        refine ⟨_, rfl, rfl, _, rfl, iteF ?_⟩
        refine ⟨_, rfl, rfl, _, rfl, iteF ?_⟩
        refine ⟨_, rfl, rfl, _, rfl, iteF ?_⟩
        exact ⟨_, _, pl, us, es, rfl, s3, hL3, hE3, hes.same sT, hr3, by omega, by omega⟩
    · rintro σ H2 ⟨v4, v5, pl, us, es, rfl, s2, hL, hEv, hes, hr2, hul, hpl⟩
      rw [List.length_map] at hr2 hul hpl
      rw [show (st.zip wd).take st.length = st.zip wd from List.take_of_length_le (by rw [List.length_zip]; omega), hrun] at hr2
      cases hr2
      refine ⟨.ref E, rfl, sortNil (sort_use (fun d => ∃ z : Ev, d = evD z) (SqL.of hEv) (fun x hx => ?_) ?_ ?_ ?_ (fun ys c hperm nc => ?_))⟩
      · obtain ⟨i, hi⟩ := List.getElem?_of_mem hx
        obtain ⟨a, z, rfl, hz, hzt⟩ := hes.get hi
        exact ⟨_, evD_dp hzt, z, rfl⟩
      · rintro d d' ⟨z, rfl⟩ ⟨z', rfl⟩
        exact evD_alike z z'
      · rintro d ⟨z, rfl⟩
        cases z <;> exact ⟨_, _, rfl⟩
      · rintro d ⟨z, rfl⟩
        rw [evD_depth]
        decide
      · obtain ⟨sh', hp', hes'⟩ := hes.perm hperm
        have sc := same_upd (o := .lst ys) nc
        refine ⟨c, ys, rfl, SqL.of upd_same, fun t ob nt hob => ?_⟩
        have st2 := same_upd (o := .frz ob (.tup ys)) nt
        refine q _ t sh' ((s2.trans sc).trans st2) ⟨ys, (TupF.new hob).t, hes'.same (sc.trans st2)⟩ (hso.perm hp') ?_
        rw [← hes'.len, hperm.length_eq]
        omega
end
end TBW
namespace TBW
open PySem PySem.Spec PyProof.Rows L2 TBR
theorem rowsAt_congr {s m : Nat} {f g : Nat → List Ev} {row : List Str} : ∀ j, (∀ i, i < j → f (m - 1 - i) = g (m - 1 - i)) → rowsAt s m f row j = rowsAt s m g row j
  | 0, _ => rfl
  | j + 1, h => by
    have ih := rowsAt_congr (s := s) (row := row) (m := m) j fun i hi => h i (by omega)
    show stepR s (m - 1 - j) (f (m - 1 - j)) (rowsAt s m f row j) = stepR s (m - 1 - j) (g (m - 1 - j)) (rowsAt s m g row j)
    rw [ih, h j (by omega)]
def fput (f : Nat → List Ev) (k : Nat) (sh : List Ev) : Nat → List Ev := fun z => if z = k then sh else f z
theorem fput_eq {f : Nat → List Ev} {k j : Nat} {sh : List Ev} (h : j = k) : fput f k sh j = sh := if_pos h
theorem fput_ne {f : Nat → List Ev} {k j : Nat} {sh : List Ev} (h : ¬ j = k) : fput f k sh j = f j := if_neg h
section
variable {P : Program} {w : World} {K : PySem.W.Frag} {mg : Str → Option Value} {base : Heap}
def spDay (K : PySem.W.Frag) : Sp := fun vs H Q _ => ∃ (d c a p : Addr) (s r : Nat) (row : List Str), vs = [.ref d, .ref a, .ref p] ∧ Draws H d c ∧ SqT K H a [.int s, .int r] ∧ RowF H p row ∧ row.Nodup ∧ 1 ≤ s ∧ s ≤ 8 ∧ 1 ≤ row.length ∧ row.length ≤ 100 ∧
  ∀ H' q td tr y f, Draws H' d c → Oth d H H' → SqT K H' q [.ref td, y, .ref tr] → DayV K H' td f (races row.length s) → DayOk s r f row → RowF H' tr (rowsAt s (races row.length s) f row (races row.length s)) → Q (.ref q) H'
theorem ok_law_day {f : Addr} {fd : FuncData} (F : Fun K "_law_day" "_law_day" s_law_day f fd) (T : Blt mg) (c_law_races : Cal P w K mg base 1 "_law_races" ["_law_meeting", "_law_n"] (spRaces K)) (c_law_span : Cal P w K mg base 1 "_law_span" ["_law_meeting", "_law_n", "_law_k"] (spSpan K))
    (c_law_sheet : Cal P w K mg base 1 "_law_sheet" ["_law_start", "_law_marks"] (spSheet K)) (c_law_word : Cal P w K mg base 2 "_law_word" ["_law_draws", "_law_many", "_law_reach"] (spWord K)) (c_law_after : Cal P w K mg base 1 "_law_after" ["_law_start", "_law_sheet_here"] (spBehind K)) :
    FnOk P w K mg base CX0 3 f fd ["_law_draws", "_law_meeting", "_law_row"] (spDay K) := by
  refine F.ok sc_law_day (fun vs H Q E h => ?_) (fun cdv A outer s H vs Q E hr h => ?_)
  · obtain ⟨d, c, a, p, s, r, row, rfl, _⟩ := h
    rfl
  · obtain ⟨d, c, a, p, s, r, row, rfl, hd, hm, hp, nd, h1, h8, hn, hn9, q⟩ := h
    refine ⟨_, (pss_cons (ps_par (i := 3) (j := 4) (by rfl) sc_law_day.nd rfl rfl (by decide) rfl rfl (pa_cons (pe_lst pa_nil) (pa_cons (pe_lst pa_nil) pa_nil)) (by rfl))
    (pss_cons (ps_for PassesOwn.never rfl (pi_revR (by rfl) T.reversed (prg_1 (by rfl) T.range (pe_k c_law_races hr (by decide) (by rfl) (pa_cons (pv 1) (pa_cons (pe_callB call_len_seq (by rfl) T.len PySem.boot_len (pa_cons (pv 2) pa_nil)) pa_nil))))) (pg_name (i := 5) sc_law_day.nd rfl (.inl rfl))
      (pss_cons (ps_asg (pe_k c_law_span hr (by decide) (by rfl) (pa_cons (pv 1) (pa_cons (pe_callB call_len_seq (by rfl) T.len PySem.boot_len (pa_cons (pv 2) pa_nil)) (pa_cons (pv 5) pa_nil)))) (pg_tup (by rfl) (pgs_cons (pg_name (i := 6) sc_law_day.nd rfl (.inl rfl)) (pgs_cons (pg_name (i := 7) sc_law_day.nd rfl (.inl rfl)) pgs_nil))))
      (pss_cons (ps_set (i := 8) sc_law_day.nd rfl (.inl rfl) (pe_slice sl_tupF (pv 2) (po_some (pv 6)) (po_some (pe_op op_add (pv 7) pe_int))))
      (pss_cons (ps_set (i := 9) sc_law_day.nd rfl (.inl rfl) (pe_k c_law_sheet hr (by decide) (by rfl) (pa_cons (pv 8) (pa_cons (pe_k c_law_word hr (by decide) (by rfl) (pa_cons (pv 0) (pa_cons (pe_callB call_len_seq (by rfl) T.len PySem.boot_len (pa_cons (pv 8) pa_nil)) (pa_cons (pe_ix ix_tup (pv 1) pe_int (fun _ _ => rfl)) pa_nil)))) pa_nil))))
      (pss_cons (ps_set (i := 2) sc_law_day.nd rfl (.inl rfl) (pe_op op_catF (pe_op op_catF (pe_slice sl_tupF (pv 2) po_none (po_some (pv 6))) (pe_k c_law_after hr (by decide) (by rfl) (pa_cons (pv 8) (pa_cons (pv 9) pa_nil)))) (pe_slice sl_tupF (pv 2) (po_some (pe_op op_add (pv 7) pe_int)) po_none)))
      (pss_cons (ps_expr (pe_bm PySem.F.plainAttrs_list PySem.F.slot_list_insert PySem.F.type_list_insert mt_insert (pv 3) (pa_cons pe_int (pa_cons (pv 9) pa_nil))))
      (pss_one (ps_expr (pe_bm PySem.F.plainAttrs_list PySem.F.slot_list_insert PySem.F.type_list_insert mt_insert (pv 4) (pa_cons pe_int (pa_cons (pv 8) pa_nil)))))))))))
    (pss_one (ps_ret (pe_tup (pa_cons (pe_callTy call_tupF (by rfl) T.tuple (by decide +kernel) (pa_cons (pv 3) pa_nil)) (pa_cons (pe_callTy call_tupF (by rfl) T.tuple (by decide +kernel) (pa_cons (pv 4) pa_nil)) (pa_cons (pv 2) pa_nil)))))))), ?_⟩
    have hmn := races_le (n := row.length) h1 hn
    refine ⟨Nat.zero_le _, fun S nS => ⟨Nat.zero_le _, fun B nB => ⟨_, _, rfl, ?_⟩⟩⟩
    have sS := same_upd (o := .lst []) nS
    have sB := same_upd (o := .lst []) nB
    have n0B : H B = none := sS.free nB
    have nSB : S ≠ B := ne_of_none upd_same nB
    have nSd := hd.nd nS
    have nSc := hd.nc nS
    have nBd := hd.nd n0B
    have nBc := hd.nc n0B
    have s0 := sS.trans sB
    refine ⟨.ref a, rfl, .ref p, rfl, p, _, rfl, .inr (hp.same s0).t, a, row.length, s, r, ?_, sameT s0 hm, h1, h8, ?_⟩
    · rw [List.length_map]
      rfl
    refine ⟨_, rfl, by omega, by omega, by omega, by omega, ?_⟩
    rw [show ((((races row.length s : Nat) : Int) - 0).toNat) = races row.length s by omega]
    refine for_rangeC (fun i σ H2 => ∃ (v5 v6 v7 v8 v9 : Option V) (e : Addr) (us ws : List V) (f : Nat → List Ev), σ = [some (.ref d), some (.ref a), some (.ref e), some (.ref S), some (.ref B), v5, v6, v7, v8, v9] ∧ Draws H2 d c ∧ Oth d H H2 ∧ H2 S = some (.lst us) ∧ H2 B = some (.lst ws) ∧ us.length = i ∧ ws.length = i ∧
        RowF H2 e (rowsAt s (races row.length s) f row i) ∧ (rowsAt s (races row.length s) f row i).Perm row ∧ (∀ j, j < i → TB.Sound (seg s (races row.length s - 1 - j) (rowsAt s (races row.length s) f row j)) r (f (races row.length s - 1 - j))) ∧
        (∀ j, j < i → (f (races row.length s - 1 - j)).length ≤ 100) ∧ ∀ j, j < i → ∃ b, us[j]? = some (.ref b) ∧ ShV K H2 b (f (races row.length s - i + j)))
      ⟨none, none, none, none, none, p, [], [], fun _ => [], rfl, (hd.upd nSd nSc).upd nBd nBc, Oth.of s0, by rw [upd_ne nSB, upd_same], upd_same, rfl, rfl, hp.same s0, .refl _, fun j hj => by omega, fun j hj => by omega, fun j hj => by omega⟩ ?_ ?_
    · rintro i σ H2 hi ⟨v5, v6, v7, v8, v9, e, us, ws, f, rfl, hd2, ot2, hS2, hB2, hul, hwl, he, hperm, hsnd, hlen, hus⟩
      rw [show (0 + ((races row.length s : Nat) : Int) - 1 + (i : Nat) * (-1) : Int) = ((races row.length s - 1 - i : Nat) : Int) by omega]
      generalize hk : races row.length s - 1 - i = k
      have hkm : k < races row.length s := by omega
      have hks : k * s < row.length := (races_lt h1).mp hkm
      generalize hR : rowsAt s (races row.length s) f row i = R at he hperm
      have hRl : R.length = row.length := hperm.length_eq
      have t02 := hd.tt ot2
      have hm2 := t02.seq hm
      refine ⟨.ref a, rfl, .ref e, rfl, e, _, rfl, .inr he.t, .int k, rfl, a, R.length, k, s, r, ?_, hm2, h8, by omega, by omega, fun t nt => ?_⟩
      · rw [List.length_map]
        rfl
      have st := same_upd (o := .tup [.int (k * s : Nat), .int (lastOf R.length s k : Nat)]) nt
      refine ⟨t, _, rfl, SqT.of upd_same, rfl, _, _, rfl, _, _, rfl, rfl, ?_⟩
      have he3 := he.same st
      refine ⟨.ref e, rfl, _, rfl, _, rfl, _, rfl, _, _, rfl, rfl, _, rfl, sl_row he3 fun H4 g s4 hg => ?_⟩
      rw [seg_cut] at hg
      have hd4 := (hd2.same st).same s4
      have ot4 := (ot2.trans (Oth.of st)).trans (Oth.of s4)
      have hs9 : (seg s k R).length ≤ 100 := by
        have := seg_le (s := s) (k := k) (row := R)
        omega
      have hsnd' : (seg s k R).Nodup := seg_nd (hperm.nodup_iff.mpr nd)
      refine ⟨.ref g, rfl, .ref d, rfl, .ref g, rfl, g, _, rfl, .inr hg.t, .ref a, rfl, a, _, 1, _, rfl, rfl, sameT (st.trans s4) hm2, atI_nat (j := 1) rfl, d, c, (seg s k R).length, r, ?_, hd4, hs9, fun H5 M wd hW hwd hd5 ot5 hM => ?_⟩
      · rw [List.length_map]
        rfl
      have t45 := hd4.tt ot5
      refine ⟨g, M, _, wd, r, rfl, t45.row hg, hsnd', hM, hW, hwd.symm, hs9, fun H6 b sh s6 hb hso hsl => ?_⟩
      have t46 := t45.trans (sameTT s6)
      have hg6 := t46.row hg
      have he6 := t46.row (he3.same s4)
      have hS6 := s6 _ _ (ot5 _ _ nSd (s4 _ _ (st _ _ hS2)))
      have hB6 := s6 _ _ (ot5 _ _ nBd (s4 _ _ (st _ _ hB2)))
      have hd6 := hd5.same s6
      have ot6 := (ot4.trans ot5).trans (Oth.of s6)
      refine ⟨.ref e, rfl, slNo0 ?_⟩
      refine ⟨_, rfl, _, rfl, sl_row he6 fun H7 x s7 hx => ?_⟩
      rw [cutS_to] at hx
      refine ⟨.ref g, rfl, .ref b, rfl, g, b, _, sh, r, rfl, hg6.same s7, hsnd', hb.same s7, hso, by omega, fun H8 y s8 hy => ?_⟩
      have pl := (behindT_perm hso.sub).length_eq
      refine cat_row (hx.same s8) hy (by rw [List.length_take, pl]; omega) fun H9 z s9 hz => ?_
      have s79 := (s7.trans s8).trans s9
      refine ⟨.ref e, rfl, _, rfl, _, _, rfl, rfl, _, rfl, slNo (sl_row (he6.same s79) fun H10 x2 s10 hx2 => ?_)⟩
      rw [show ((lastOf R.length s k : Nat) + 1 : Int) = ((lastOf R.length s k + 1 : Nat) : Int) by omega, cutS_from] at hx2
      refine cat_row (hz.same s10) hx2 (by rw [List.length_append, List.length_take, List.length_drop, pl]; omega) fun H11 y2 s11 hy2 => ?_
      have s711 := (s79.trans s10).trans s11
      have hS11 := s711 _ _ hS6
      have hB11 := s711 _ _ hB6
      have hd11 := hd6.same s711
      have ot11 := ot6.trans (Oth.of s711)
      refine ⟨.ref S, rfl, .inl ⟨rfl, _, SqL.of hS11⟩, .ref b, rfl, S, us, 0, _, rfl, rfl, hS11, ltz (by omega), by decide, by decide, ?_⟩
      have tS := SameT.lst (o := .lst (us.take (Int.toNat 0) ++ [.ref b] ++ us.drop (Int.toNat 0))) hS11
      have hB12 : (upd H11 S (.lst (us.take (Int.toNat 0) ++ [.ref b] ++ us.drop (Int.toNat 0)))) B = some (.lst ws) := by
        rw [upd_ne nSB.symm]
        exact hB11
      refine ⟨.ref B, rfl, .inl ⟨rfl, _, SqL.of hB12⟩, .ref g, rfl, B, ws, 0, _, rfl, rfl, hB12, ltz (by omega), by decide, by decide, ?_⟩
      have tB := SameT.lst (o := .lst (ws.take (Int.toNat 0) ++ [.ref g] ++ ws.drop (Int.toNat 0))) hB12
      have hcg : ∀ j, j ≤ i → rowsAt s (races row.length s) (fput f k sh) row j = rowsAt s (races row.length s) f row j := fun j hj => rowsAt_congr j fun j' hj' => fput_ne (by omega)
      have hnew : rowsAt s (races row.length s) (fput f k sh) row (i + 1) = lay s k R (behindT (seg s k R) (sh.filter isT)) := by
        show stepR s (races row.length s - 1 - i) (fput f k sh (races row.length s - 1 - i)) (rowsAt s (races row.length s) (fput f k sh) row i) = _
        rw [hcg i (Nat.le_refl _), hk, fput_eq rfl, hR]
        rfl
      refine ⟨_, _, _, _, _, y2, .ref b :: us, .ref g :: ws, fput f k sh, rfl, (hd11.upd nSd nSc).upd nBd nBc, ?_, ?_, ?_, by rw [List.length_cons, hul], by rw [List.length_cons, hwl], ?_, ?_, ?_, ?_, ?_⟩
      · intro b' o h1' h2'
        rw [upd_ne (ne_of_none h2' n0B), upd_ne (ne_of_none h2' nS)]
        exact ot11 b' o h1' h2'
      · rw [upd_ne nSB, upd_same]
        rfl
      · rw [upd_same]
        rfl
      · rw [hnew]
        exact tB.row (tS.row hy2)
      · rw [hnew]
        exact (lay_perm (by omega) (behindT_perm hso.sub)).trans hperm
      · intro j hj
        rw [hcg j (by omega)]
        by_cases hji : j < i
        · rw [fput_ne (by omega)]
          exact hsnd j hji
        · have : j = i := by omega
          subst this
          rw [fput_eq hk, hR, hk]
          exact hso
      · intro j hj
        by_cases hji : j < i
        · rw [fput_ne (by omega)]
          exact hlen j hji
        · have : j = i := by omega
          subst this
          rw [fput_eq hk]
          exact hsl
      · intro j hj
        cases j with
        | zero =>
          refine ⟨b, rfl, ?_⟩
          rw [fput_eq (by omega)]
          exact tB.sh (tS.sh (hb.same s711))
        | succ j =>
          obtain ⟨b', e1, e2⟩ := hus j (by omega)
          refine ⟨b', e1, ?_⟩
          rw [fput_ne (by omega), show races row.length s - (i + 1) + (j + 1) = races row.length s - i + j by omega]
          exact tB.sh (tS.sh ((t46.sh ((e2.same st).same s4)).same s711))
    · rintro σ H2 ⟨v5, v6, v7, v8, v9, e, us, ws, f, rfl, hd2, ot2, hS2, hB2, hul, hwl, he, hperm, hsnd, hlen, hus⟩
      refine ⟨.ref S, rfl, S, _, rfl, SqL.of hS2, fun t1 o1 n1 ho1 => ?_⟩
      have s1 := same_upd (o := .frz o1 (.tup us)) n1
      refine ⟨.ref B, rfl, B, _, rfl, SqL.of (s1 _ _ hB2), fun t2 o2 n2 ho2 => ?_⟩
      have s2 := same_upd (o := .frz o2 (.tup ws)) n2
      refine ⟨.ref e, rfl, (by show 3 ≤ sizeLine; decide), fun t3 n3 => ?_⟩
      have s3 := same_upd (o := .tup [.ref t1, .ref t2, .ref e]) n3
      have s13 := (s1.trans s2).trans s3
      refine q _ t3 t1 e (.ref t2) f (hd2.same s13) (ot2.trans (Oth.of s13)) (SqT.of upd_same) ?_ ?_ (he.same s13)
      · refine ⟨us, sameT (s2.trans s3) (TupF.new ho1).t, hul, fun k hk => ?_⟩
        obtain ⟨b, e1, e2⟩ := hus k hk
        rw [Nat.sub_self, Nat.zero_add] at e2
        exact ⟨b, e1, e2.same s13⟩
      · refine ⟨h1, h8, hn, hn9, nd, hsnd, fun k hk => ?_⟩
        have := hlen (races row.length s - 1 - k) (by omega)
        rw [show races row.length s - 1 - (races row.length s - 1 - k) = k by omega] at this
        omega
end
end TBW
namespace TBW
open PySem PySem.Spec PyProof.Rows L2 TBR
/-! ### names -/
def tl (x : Str) : List Nat := x.cps.toList
def abc : Str := "abcdefghijklmnopqrstuvwxyz"
theorem abc_tl : abc.cps.toList = (List.range 26).map fun i => 97 + i := by decide +kernel
theorem abc_len : abc.length = 26 := by decide +kernel
theorem abc_get {i : Nat} (h : i < 26) : abc.cps.toList[i]? = some (97 + i) := by
  rw [abc_tl, List.getElem?_map, List.getElem?_range h]
  rfl
theorem tl_len (x : Str) : x.length = (tl x).length := by
  unfold tl
  rw [Array.length_toList]
  rfl
theorem tl_app (x y : Str) : tl (x ++ y) = tl x ++ tl y := by
  show (x.cps ++ y.cps).toList = _
  rw [Array.toList_append]
  rfl
theorem tl_inj {x y : Str} (h : tl x = tl y) : x = y := by
  cases x
  cases y
  congr 1
  exact Array.toList_inj.mp h
theorem tl_to (x : Str) (n : Nat) : tl (L2.cutS x none (some (n : Int))) = (tl x).take n := by
  unfold L2.cutS
  show (_ : List Nat) = _
  rw [HT.sIx_nat, HT.sIx_none, List.drop_zero, Nat.sub_zero]
  show x.cps.toList.take (min n x.length) = x.cps.toList.take n
  have e : x.length = x.cps.toList.length := tl_len x
  by_cases h : n ≤ x.length
  · rw [Nat.min_eq_left h]
  · rw [Nat.min_eq_right (by omega), e, List.take_length, List.take_of_length_le (by omega)]
theorem tl_cut {x : Str} {lo hi : Option Int} {p : Nat → Prop} (h : ∀ c ∈ tl x, p c) : (∀ c ∈ tl (L2.cutS x lo hi), p c) ∧ (tl (L2.cutS x lo hi)).length ≤ (tl x).length := by
  constructor
  · intro c hc
    exact h c (List.mem_of_mem_drop (List.mem_of_mem_take hc))
  · show (List.take _ (List.drop _ x.cps.toList)).length ≤ _
    rw [List.length_take, List.length_drop]
    show _ ≤ x.cps.toList.length
    omega
def NameAt (A : List Nat) (v : Nat) (y : Str) : Prop := ∃ B, tl y = A ++ (97 + v) :: B ∧ B.length ≤ 7 ∧ ∀ c ∈ B, c < 128
theorem NameAt.ne {A : List Nat} {v u : Nat} {y : Str} (h : NameAt A v y) (k : NameAt A u y) : v = u := by
  obtain ⟨B, e, _⟩ := h
  obtain ⟨B', e', _⟩ := k
  rw [e] at e'
  have := (List.cons.inj (List.append_cancel_left e')).1
  omega
def st10 : List Nat := [1, 3, 5, 7, 9, 11, 15, 17, 19, 21]
theorem step_inj {f s i j : Nat} (hs : s ∈ st10) (hi : i < 26) (hj : j < 26) (h : (f + s * i) % 26 = (f + s * j) % 26) : i = j := by
  simp only [st10, List.mem_cons, List.not_mem_nil, or_false] at hs
  rcases hs with rfl | rfl | rfl | rfl | rfl | rfl | rfl | rfl | rfl | rfl <;> omega
theorem nodup_set {l : List Str} {i : Nat} {x : Str} (nd : l.Nodup) (hx : x ∉ l) : (l.set i x).Nodup := by
  induction l generalizing i with
  | nil => exact nd
  | cons a l ih =>
    rw [List.nodup_cons] at nd
    rw [List.mem_cons, not_or] at hx
    cases i with
    | zero => exact List.nodup_cons.mpr ⟨hx.2, nd.2⟩
    | succ i =>
      refine List.nodup_cons.mpr ⟨fun h => ?_, ih nd.2 hx.2⟩
      rcases List.mem_or_eq_of_mem_set h with h | h
      · exact nd.1 h
      · exact hx.1 h.symm
/-- short, of plain signs -/
def Plain (y : Str) : Prop := (tl y).length ≤ 20 ∧ ∀ c ∈ tl y, c < 128
structure Names (n : Nat) (l : List Str) : Prop where
  nd : l.Nodup
  ln : l.length = n
  pl : ∀ y ∈ l, Plain y
theorem names_of {A : List Nat} {f s n : Nat} {l : List Str} (hA : A.length ≤ 7) (hA2 : ∀ c ∈ A, c < 128) (hs : s ∈ st10) (hn : n ≤ 24) (hl : l.length = n) (h : ∀ j, j < n → ∃ y, l[j]? = some y ∧ NameAt A ((f + s * j) % 26) y) : Names n l := by
  refine ⟨?_, hl, fun y hy => ?_⟩
  · unfold List.Nodup
    rw [List.pairwise_iff_getElem]
    intro i j hi hj hij e
    obtain ⟨y, e1, n1⟩ := h i (by omega)
    obtain ⟨z, e2, n2⟩ := h j (by omega)
    rw [List.getElem?_eq_getElem hi] at e1
    rw [List.getElem?_eq_getElem hj] at e2
    cases e1
    cases e2
    rw [← e] at n2
    have := step_inj hs (by omega) (by omega) (n1.ne n2)
    omega
  · obtain ⟨j, hj⟩ := List.getElem?_of_mem hy
    have hjl := (List.getElem?_eq_some_iff.mp hj).1
    obtain ⟨z, e1, B, e, hB, hB2⟩ := h j (by omega)
    rw [hj] at e1
    cases e1
    constructor
    · rw [e, List.length_append, List.length_cons]
      omega
    · intro c hc
      rw [e, List.mem_append, List.mem_cons] at hc
      rcases hc with hc | hc | hc
      · exact hA2 c hc
      · omega
      · exact hB2 c hc
def words7 : List Str := ["drop", "touch", "none", "d", "u", "t", "o"]
theorem words_plain : ∀ y ∈ words7, Plain y := by
  have : words7.all (fun y => decide (y.cps.toList.length ≤ 20) && y.cps.toList.all (fun c => decide (c < 128))) = true := by decide +kernel
  rw [List.all_eq_true] at this
  intro y hy
  have h := this y hy
  rw [Bool.and_eq_true, List.all_eq_true] at h
  exact ⟨of_decide_eq_true h.1, fun c hc => of_decide_eq_true (h.2 c hc)⟩
end TBW
namespace TBW
open PySem PySem.Spec PyProof.Rows L2 TBR
theorem gset {i : Nat} {v : V} {σ : L2.St} {H : Hp} {N : L2.St → Hp → Prop} (h : N (σ.set i (some v)) H) : gName i v σ H N := h
section
variable {P : Program} {w : World} {K : PySem.W.Frag} {mg : Str → Option Value} {base : Heap}
def spNames (K : PySem.W.Frag) : Sp := fun vs H Q _ => ∃ (d c : Addr) (n : Nat), vs = [.ref d, .int n] ∧ Draws H d c ∧ 1 ≤ n ∧ n ≤ 24 ∧ ∀ H' q l, Draws H' d c → Oth d H H' → RowF H' q l → Names n l → Q (.ref q) H'
theorem plV_get {l : List Nat} {i : Nat} (h : i < l.length) : (l.map plV)[i]? = some (.int (l[i] : Nat)) := by
  rw [List.getElem?_map, List.getElem?_eq_getElem h]
  rfl
theorem ok_law_names {f : Addr} {fd : FuncData} (F : Fun K "_law_names" "_law_names" s_law_names f fd) (T : Blt mg) (c_law_next : Cal P w K mg base 1 "_law_next" ["_law_draws", "_law_many"] (spNext K)) :
    FnOk P w K mg base CX0 2 f fd ["_law_draws", "_law_many"] (spNames K) := by
  refine F.ok sc_law_names (fun vs H Q E h => ?_) (fun cdv A outer s H vs Q E hr h => ?_)
  · obtain ⟨d, c, n, rfl, _⟩ := h
    rfl
  · obtain ⟨d, c, n, rfl, hd, hn1, hn, q⟩ := h
    refine ⟨_, (pss_cons (ps_asg (pe_tup (pa_cons pe_str (pa_cons pe_str pa_nil))) (pg_tup (by rfl) (pgs_cons (pg_name (i := 2) sc_law_names.nd rfl (.inl rfl)) (pgs_cons (pg_name (i := 3) sc_law_names.nd rfl (.inl rfl)) pgs_nil))))
    (pss_cons (ps_set (i := 4) sc_law_names.nd rfl (.inl rfl) (pe_ix ix_list (pe_lst (pa_cons pe_int (pa_cons pe_int (pa_cons pe_int (pa_cons pe_int (pa_cons pe_int (pa_cons pe_int (pa_cons pe_int (pa_cons pe_int (pa_cons pe_int (pa_cons pe_int pa_nil))))))))))) (pe_k c_law_next hr (by decide) (by rfl) (pa_cons (pv 0) (pa_cons pe_int pa_nil))) (fun _ _ => rfl)))
    (pss_cons (ps_set (i := 5) sc_law_names.nd rfl (.inl rfl) (pe_k c_law_next hr (by decide) (by rfl) (pa_cons (pv 0) (pa_cons pe_int pa_nil))))
    (pss_cons (ps_for PassesOwn.never rfl (pi_range1 (by rfl) T.range (pa_cons pe_int pa_nil)) (pg_name (i := 6) sc_law_names.nd rfl (.inl rfl))
      (pss_one (ps_set (i := 3) sc_law_names.nd rfl (.inl rfl) (pe_op op_add_str (pv 3) (pe_ix ix_str (pv 2) (pe_k c_law_next hr (by decide) (by rfl) (pa_cons (pv 0) (pa_cons pe_int pa_nil))) (fun _ _ => rfl))))))
    (pss_cons (ps_set (i := 7) sc_law_names.nd rfl (.inl rfl) (pe_k c_law_next hr (by decide) (by rfl) (pa_cons (pv 0) (pa_cons pe_int pa_nil))))
    (pss_cons (ps_set (i := 8) sc_law_names.nd rfl (.inl rfl) (pe_lst pa_nil))
    (pss_cons (ps_for PassesOwn.never rfl (pi_range1 (by rfl) T.range (pa_cons (pv 1) pa_nil)) (pg_name (i := 6) sc_law_names.nd rfl (.inl rfl))
      (pss_cons (ps_par (i := 9) (j := 10) (by rfl) sc_law_names.nd rfl rfl (by decide) rfl rfl (pa_cons (pe_op op_add (pv 7) (pe_k c_law_next hr (by decide) (by rfl) (pa_cons (pv 0) (pa_cons (pe_op op_sub pe_int (pv 7)) pa_nil)))) (pa_cons (pe_ix ix_str (pv 2) (pe_op op_mod (pe_op op_add (pv 5) (pe_op op_mulW (pv 4) (pv 6))) pe_int) (fun _ _ => rfl)) pa_nil)) (by rfl))
      (pss_one (ps_expr (pe_bm PySem.F.plainAttrs_list PySem.F.slot_list_append PySem.F.type_list_append mt_append (pv 8) (pa_cons (pe_op op_add_str (pe_op op_add_str (pe_slice sl_str (pv 3) po_none (po_some (pv 7))) (pv 10)) (pe_slice sl_str (pv 3) (po_some (pv 7)) (po_some (pv 9)))) pa_nil))))))
    (pss_cons (ps_set (i := 11) sc_law_names.nd rfl (.inl rfl) (pe_ix ix_list (pe_lst (pa_cons pe_str (pa_cons pe_str (pa_cons pe_str (pa_cons pe_str (pa_cons pe_str (pa_cons pe_str (pa_cons pe_str pa_nil)))))))) (pe_k c_law_next hr (by decide) (by rfl) (pa_cons (pv 0) (pa_cons pe_int pa_nil))) (fun _ _ => rfl)))
    (pss_cons (ps_if (PW.pt (pw_and (pt_cmpR op_notIn_seq (pv 11) (pv 8) (by rfl)) (pw_and1 (pt_cmpR op_eq (pe_k c_law_next hr (by decide) (by rfl) (pa_cons (pv 0) (pa_cons pe_int pa_nil))) pe_int (by rfl)))))
      (pss_one (ps_asg (pv 11) (pg_sub (pv 8) (pe_k c_law_next hr (by decide) (by rfl) (pa_cons (pv 0) (pa_cons (pv 1) pa_nil))) set_list)))
      pss_nil)
    (pss_one (ps_ret (pe_callTy call_tupF (by rfl) T.tuple (by decide +kernel) (pa_cons (pv 8) pa_nil))))))))))))), ?_⟩
    refine ⟨(by show 2 ≤ sizeLine; decide), fun p0 np0 => ⟨p0, _, rfl, SqT.of upd_same, rfl, _, _, rfl, _, _, rfl, rfl, ?_⟩⟩
    have sp := same_upd (o := .tup [.str abc, .str ""]) np0
    -- step
    refine ⟨(by show 10 ≤ sizeLine; decide), fun z nz => ?_⟩
    have sz := same_upd (o := .lst (st10.map plV)) nz
    refine ⟨.ref d, rfl, d, c, 10, rfl, (hd.same sp).same sz, by decide, by decide, fun v H1 hv hd1 ot1 => ?_⟩
    have hz := ot1 z _ ((hd.same sp).nd nz) upd_same
    have hvl : v < st10.length := hv
    refine ⟨z, _, _, _, rfl, rfl, SqL.of hz, atI_nat (plV_get hvl), ?_⟩
    have hst : st10[v] ∈ st10 := List.getElem_mem _
    generalize st10[v] = step at hst
    have ot1' : Oth d H H1 := (Oth.of (sp.trans sz)).trans ot1
    clear hz
    -- first
    refine ⟨.ref d, rfl, d, c, 26, rfl, hd1, by decide, by decide, fun first H2 hf hd2 ot2 => ?_⟩
    have ot2' := ot1'.trans ot2
    -- the stem
    refine ⟨7, rfl, by decide, by decide, for_range (lo := 0) (n := 7) (fun i σ H3 => ∃ (v6 : Option V) (stem : Str), σ = [some (.ref d), some (.int n), some (.str abc), some (.str stem), some (.int step), some (.int first), v6, none, none, none, none, none] ∧ Draws H3 d c ∧ Oth d H H3 ∧ (tl stem).length = i ∧ ∀ c ∈ tl stem, c < 128)
      ⟨none, "", rfl, hd2, ot2', rfl, fun c hc => by cases hc⟩ ?_ ?_⟩
    · rintro i σ H3 hi ⟨v6, stem, rfl, hd3, ot3, hl, hc⟩
      refine ⟨.str stem, rfl, .str abc, rfl, .ref d, rfl, d, c, 26, rfl, hd3, by decide, by decide, fun v H4 hv hd4 ot4 => ?_⟩
      refine ⟨abc, _, _, rfl, rfl, lez (by rw [abc_len]; decide), atI_nat (abc_get hv), ?_⟩
      refine ⟨_, _, rfl, rfl, lez (by rw [tl_len, hl]; show _ + 1 ≤ _; omega), ?_⟩
      refine ⟨_, _, rfl, hd4, ot3.trans ot4, ?_, fun x hx => ?_⟩
      · rw [tl_app, List.length_append, hl]
        rfl
      · rw [tl_app, List.mem_append] at hx
        rcases hx with hx | hx
        · exact hc x hx
        · have : x = 97 + v := by simpa [tl] using hx
          omega
    · rintro σ H3 ⟨v6, stem, rfl, hd3, ot3, hl, hc⟩
      -- at
      refine ⟨.ref d, rfl, d, c, 8, rfl, hd3, by decide, by decide, fun at_ H4 ha hd4 ot4 => ?_⟩
      have ot4' := ot3.trans ot4
      refine ⟨Nat.zero_le _, fun B nB => ?_⟩
      have sB := same_upd (o := .lst []) nB
      have nBd := hd4.nd nB
      have nBc := hd4.nc nB
      have hlen : stem.length ≤ 100 := by
        rw [tl_len, hl]
        decide
      refine ⟨.int n, rfl, n, rfl, by omega, by omega, for_range (lo := 0) (n := n) (fun i σ H5 => ∃ (v6 v9 v10 : Option V) (l : List Str), σ = [some (.ref d), some (.int n), some (.str abc), some (.str stem), some (.int step), some (.int first), v6, some (.int at_), some (.ref B), v9, v10, none] ∧ Draws H5 d c ∧ Oth d H H5 ∧ H5 B = some (.lst (l.map V.str)) ∧ l.length = i ∧ ∀ j, j < i → ∃ y, l[j]? = some y ∧ NameAt ((tl stem).take at_) ((first + step * j) % 26) y)
        ⟨v6, none, none, [], rfl, hd4.same sB, ot4'.trans (Oth.of sB), upd_same, rfl, fun j hj => by omega⟩ ?_ ?_⟩
      · rintro i σ H5 hi ⟨v6, v9, v10, l, rfl, hd5, ot5, hB5, hll, hall⟩
        rw [Int.zero_add]
        refine ⟨.int at_, rfl, .ref d, rfl, .int at_, rfl, _, _, rfl, rfl, d, c, 8 - at_, ?_, hd5, by omega, by omega, fun v H6 hv hd6 ot6 => ?_⟩
        · rw [show ((8 - at_ : Nat) : Int) = 8 - (at_ : Int) by omega]
          rfl
        refine ⟨_, _, rfl, rfl, .str abc, rfl, .int first, rfl, .int step, rfl, .int i, rfl, _, _, rfl, rfl, ?_, _, _, rfl, rfl, _, _, rfl, rfl, (by show (0 : Int) < 26; decide), abc, _, 97 + (first + step * i) % 26, rfl, rfl, lez (by rw [abc_len]; decide), ?_, ?_⟩
        · have : step ≤ 21 := by
            simp only [st10, List.mem_cons, List.not_mem_nil, or_false] at hst
            omega
          exact wide_mul (a := 16) (b := 16) (by omega) (by omega) (by decide) (by decide) (by decide)
        · have e : ((first : Int) + (step : Int) * (i : Int)) % 26 = (((first + step * i) % 26 : Nat) : Int) := by
            rw [show ((first : Int) + (step : Int) * (i : Int)) = ((first + step * i : Nat) : Int) by rw [Int.natCast_add, Int.natCast_mul]]
            rfl
          show atI abc.cps.toList (((first : Int) + (step : Int) * (i : Int)) % 26) = _
          rw [e]
          exact atI_nat (abc_get (Nat.mod_lt _ (by decide)))
        refine ⟨_, _, rfl, ?_⟩
        have hB6 := ot6 B _ nBd hB5
        refine ⟨.ref B, rfl, .inl ⟨rfl, _, SqL.of hB6⟩, .str stem, rfl, slNo0 ?_⟩
        have c1 := tl_cut (x := stem) (lo := some (at_ : Int)) (hi := some ((at_ : Int) + v)) (p := fun c => c < 128) hc
        have l1 : (L2.cutS stem none (some (at_ : Int))).length ≤ 7 := by
          rw [tl_len, tl_to, List.length_take]
          omega
        have l2 : (L2.cutS stem (some (at_ : Int)) (some ((at_ : Int) + v))).length ≤ 7 := by
          rw [tl_len]
          omega
        refine ⟨_, rfl, _, rfl, stem, rfl, lez (by omega), _, rfl, _, _, rfl, rfl, ?_, .str stem, rfl, _, rfl, _, rfl, _, rfl, _, rfl, stem, rfl, lez (by omega), _, _, rfl, rfl, ?_, B, _, _, rfl, rfl, hB6, ltz (by rw [List.length_map]; omega), ?_⟩
        · refine lez ?_
          show _ + 1 ≤ _
          omega
        · refine lez ?_
          rw [tl_len, tl_app, List.length_append, ← tl_len]
          show (L2.cutS stem none (some (at_ : Int))).length + 1 + _ ≤ _
          omega
        · refine ⟨_, _, _, l ++ [_], rfl, hd6.upd nBd nBc, ?_, by rw [upd_same, List.map_append]; rfl, by rw [List.length_append, hll]; rfl, fun j hj => ?_⟩
          · intro b o h1 h2
            rw [upd_ne ?_]
            · exact (ot5.trans ot6) b o h1 h2
            · exact ne_of_none (ot4' b o h1 h2) nB
          · by_cases hji : j < i
            · obtain ⟨y, e1, e2⟩ := hall j hji
              exact ⟨y, by rw [List.getElem?_append_left (by omega)]; exact e1, e2⟩
            · have : j = i := by omega
              subst this
              refine ⟨_, by rw [← hll]; simp; rfl, tl (L2.cutS stem (some (at_ : Int)) (some ((at_ : Int) + v))), ?_, by rw [← tl_len]; exact l2, c1.1⟩
              rw [tl_app, tl_app, tl_to]
              show (tl stem).take at_ ++ [97 + (first + step * l.length) % 26] ++ _ = _
              simp [hll]
      · rintro σ H5 ⟨v6, v9, v10, l, rfl, hd5, ot5, hB5, hll, hall⟩
        have hN := names_of (A := (tl stem).take at_) (by rw [List.length_take]; omega) (fun c' hc' => hc c' (List.mem_of_mem_take hc')) hst hn hll hall
        have nB0 : H B = none := by
          cases e : H B with
          | none => rfl
          | some o =>
            rw [ot4' B o nBd e] at nB
            cases nB
        refine ⟨(by show 7 ≤ sizeLine; decide), fun z nz => ?_⟩
        have sz := same_upd (o := .lst (words7.map V.str)) nz
        refine ⟨.ref d, rfl, d, c, 7, rfl, hd5.same sz, by decide, by decide, fun v H6 hv hd6 ot6 => ?_⟩
        have hz := ot6 z _ (hd5.nd nz) upd_same
        have hvl : v < words7.length := hv
        refine ⟨z, _, _, _, rfl, rfl, SqL.of hz, atI_nat (vget (List.getElem?_eq_getElem hvl)), ?_⟩
        have hw : words7[v] ∈ words7 := List.getElem_mem _
        generalize words7[v] = wd at hw
        have ot6' : Oth d H H6 := (ot5.trans (Oth.of sz)).trans ot6
        have hB6 := ot6 B _ nBd (sz _ _ hB5)
        have ll : (l.map V.str).length = n := by rw [List.length_map, hll]
        refine gset ?_
        dsimp only
        refine seq_cut (t1 := tIfS _ _ _) (P := fun σ H7 => ∃ l' : List Str, σ = [some (.ref d), some (.int n), some (.str abc), some (.str stem), some (.int step), some (.int first), v6, some (.int at_), some (.ref B), v9, v10, some (.str wd)] ∧ Draws H7 d c ∧ Oth d H H7 ∧ H7 B = some (.lst (l'.map V.str)) ∧ Names n l') ?_ (fun N hNx => ?_)
        · rintro σ H7 ⟨l', rfl, hd7, ot7, hB7, hN7⟩
          refine ⟨.ref B, rfl, B, _, rfl, SqL.of hB7, fun t o nt ho => ?_⟩
          have st := same_upd (o := .frz o (.tup (l'.map V.str))) nt
          exact q _ t l' (hd7.same st) (ot7.trans (Oth.of st)) (TupF.new ho) hN7
        · refine ⟨.str wd, rfl, .ref B, rfl, B, _, rfl, .inl (SqL.of hB6), rfl, flat_strs l, _, rfl, ?_⟩
          rw [inV_str]
          by_cases hwl : wd ∈ l
          · rw [decide_eq_true hwl]
            refine iteF ?_
            exact hNx _ _ ⟨l, rfl, hd6, ot6', hB6, hN⟩
          · rw [decide_eq_false hwl]
            refine iteT ?_
            refine ⟨.ref d, rfl, d, c, 3, rfl, hd6, by decide, by decide, fun v3 H7 hv3 hd7 ot7 => ?_⟩
            have hB7 := ot7 B _ nBd hB6
            refine ⟨rfl, _, rfl, ite2 (fun c3 => ?_) (fun c3 => ?_)⟩
            · refine ⟨.str wd, rfl, .ref B, rfl, .ref d, rfl, .int n, rfl, d, c, n, rfl, hd7, hn1, by omega, fun v4 H8 hv4 hd8 ot8 => ?_⟩
              have hB8 := ot8 B _ nBd hB7
              refine ⟨B, _, _, v4, rfl, rfl, hB8, ixN_of (by omega), ?_⟩
              refine hNx _ _ ⟨l.set v4 wd, rfl, hd8.upd nBd nBc, ?_, by rw [upd_same, strset], nodup_set hN.nd hwl, by rw [List.length_set, hN.ln], fun y hy => ?_⟩
              · intro b o h1 h2
                rw [upd_ne (ne_of_none h2 nB0)]
                exact ((ot6'.trans ot7).trans ot8) b o h1 h2
              · rcases List.mem_or_eq_of_mem_set hy with hy | hy
                · exact hN.pl y hy
                · rw [hy]
                  exact words_plain wd hw
            · exact hNx _ _ ⟨l, rfl, hd7, ot6'.trans ot7, hB7, hN⟩
def spMeet (K : PySem.W.Frag) : Sp := fun vs H Q _ => ∃ (d c : Addr) (n : Nat), vs = [.ref d, .int n] ∧ Draws H d c ∧ 1 ≤ n ∧ n ≤ 24 ∧ ∀ H' q ta tr l (s r m : Nat), Draws H' d c → Oth d H H' → SqT K H' q [.ref ta, .ref tr] → SqT K H' ta [.int s, .int r] → 1 ≤ s → s ≤ 8 → RowF H' tr l → Names m l → 1 ≤ m → m ≤ 24 → Q (.ref q) H'
theorem ok_law_meet {f : Addr} {fd : FuncData} (F : Fun K "_law_meet" "_law_meet" s_law_meet f fd) (T : Blt mg) (c_law_next : Cal P w K mg base 1 "_law_next" ["_law_draws", "_law_many"] (spNext K)) (c_law_names : Cal P w K mg base 2 "_law_names" ["_law_draws", "_law_many"] (spNames K)) :
    FnOk P w K mg base CX0 3 f fd ["_law_draws", "_law_most"] (spMeet K) := by
  refine F.ok sc_law_meet (fun vs H Q E h => ?_) (fun cdv A outer s H vs Q E hr h => ?_)
  · obtain ⟨d, c, n, rfl, _⟩ := h
    rfl
  · obtain ⟨d, c, n, rfl, hd, hn1, hn, q⟩ := h
    refine ⟨_, (pss_cons (ps_set (i := 2) sc_law_meet.nd rfl (.inl rfl) (pe_tup (pa_cons (pe_op op_add pe_int (pe_k c_law_next hr (by decide) (by rfl) (pa_cons (pv 0) (pa_cons pe_int pa_nil)))) (pa_cons (pe_ix ix_list (pe_lst (pa_cons pe_int (pa_cons pe_int (pa_cons pe_int (pa_cons (pe_k c_law_next hr (by decide) (by rfl) (pa_cons (pv 0) (pa_cons pe_int pa_nil))) pa_nil))))) (pe_k c_law_next hr (by decide) (by rfl) (pa_cons (pv 0) (pa_cons pe_int pa_nil))) (fun _ _ => rfl)) pa_nil))))
    (pss_cons (ps_set (i := 3) sc_law_meet.nd rfl (.inl rfl) (pe_ix ix_list (pe_lst (pa_cons (pe_op op_add pe_int (pe_k c_law_next hr (by decide) (by rfl) (pa_cons (pv 0) (pa_cons (pv 1) pa_nil)))) (pa_cons (pe_op op_add pe_int (pe_k c_law_next hr (by decide) (by rfl) (pa_cons (pv 0) (pa_cons (pe_callB (call_min2 rfl) (by rfl) T.min (by decide +kernel) (pa_cons (pv 1) (pa_cons pe_int pa_nil))) pa_nil)))) pa_nil))) (pe_k c_law_next hr (by decide) (by rfl) (pa_cons (pv 0) (pa_cons pe_int pa_nil))) (fun _ _ => rfl)))
    (pss_one (ps_ret (pe_tup (pa_cons (pv 2) (pa_cons (pe_k c_law_names hr (by decide) (by rfl) (pa_cons (pv 0) (pa_cons (pv 3) pa_nil))) pa_nil))))))), ?_⟩
    refine ⟨.ref d, rfl, d, c, 8, rfl, hd, by decide, by decide, fun v1 H1 hv1 hd1 ot1 => ?_⟩
    refine ⟨_, _, rfl, rfl, .ref d, rfl, d, c, 8, rfl, hd1, by decide, by decide, fun v2 H2 hv2 hd2 ot2 => ?_⟩
    refine ⟨(by show 4 ≤ sizeLine; decide), fun z nz => ?_⟩
    have sz := same_upd (o := .lst ([0, 1, 7, v2].map plV)) nz
    refine ⟨.ref d, rfl, d, c, 4, rfl, hd2.same sz, by decide, by decide, fun v3 H3 hv3 hd3 ot3 => ?_⟩
    have hz := ot3 z _ (hd2.nd nz) upd_same
    have hvl : v3 < [0, 1, 7, v2].length := hv3
    refine ⟨z, _, _, _, rfl, rfl, SqL.of hz, atI_nat (plV_get hvl), ?_⟩
    generalize [0, 1, 7, v2][v3] = r
    refine ⟨(by show 2 ≤ sizeLine; decide), fun ta nta => ?_⟩
    have sta := same_upd (o := .tup [.int (1 + (v1 : Int)), .int (r : Nat)]) nta
    have hd4 := hd3.same sta
    have ot4 : Oth d H _ := (((ot1.trans ot2).trans (Oth.of sz)).trans ot3).trans (Oth.of sta)
    -- many
    refine ⟨.ref d, rfl, .int n, rfl, d, c, n, rfl, hd4, hn1, by omega, fun v5 H5 hv5 hd5 ot5 => ?_⟩
    refine ⟨_, _, rfl, rfl, .ref d, rfl, .int n, rfl, _, _, rfl, ?_⟩
    refine ⟨d, c, min n 6, ?_, hd5, by omega, by omega, fun v6 H6 hv6 hd6 ot6 => ?_⟩
    · rw [show (if (6 : Int) < (n : Int) then (6 : Int) else (n : Int)) = ((min n 6 : Nat) : Int) by split <;> omega]
      rfl
    refine ⟨_, _, rfl, rfl, (by show 2 ≤ sizeLine; decide), fun y ny => ?_⟩
    have e2 : [V.int (1 + (v5 : Int)), V.int (1 + (v6 : Int))] = [1 + v5, 1 + v6].map plV := by
      show _ = [V.int ((1 + v5 : Nat) : Int), V.int ((1 + v6 : Nat) : Int)]
      rw [Int.natCast_add, Int.natCast_add]
      rfl
    have sy := same_upd (o := .lst [V.int (1 + (v5 : Int)), V.int (1 + (v6 : Int))]) ny
    refine ⟨.ref d, rfl, d, c, 2, rfl, hd6.same sy, by decide, by decide, fun v7 H7 hv7 hd7 ot7 => ?_⟩
    have hy := ot7 y _ (hd6.nd ny) upd_same
    rw [e2] at hy
    have hvl2 : v7 < [1 + v5, 1 + v6].length := hv7
    refine ⟨y, _, _, _, rfl, rfl, SqL.of hy, atI_nat (plV_get hvl2), ?_⟩
    have hm : 1 ≤ [1 + v5, 1 + v6][v7] ∧ [1 + v5, 1 + v6][v7] ≤ 24 := by
      rcases (show v7 = 0 ∨ v7 = 1 by omega) with rfl | rfl
      · show 1 ≤ 1 + v5 ∧ 1 + v5 ≤ 24
        omega
      · show 1 ≤ 1 + v6 ∧ 1 + v6 ≤ 24
        omega
    generalize [1 + v5, 1 + v6][v7] = m at hm
    have ot57 := ((ot5.trans ot6).trans (Oth.of sy)).trans ot7
    refine ⟨.ref ta, rfl, .ref d, rfl, .int m, rfl, d, c, m, rfl, hd7, hm.1, hm.2, fun H8 tr l hd8 ot8 hl hN => ?_⟩
    refine ⟨(by show 2 ≤ sizeLine; decide), fun q2 nq => ?_⟩
    have sq := same_upd (o := .tup [.ref ta, .ref tr]) nq
    have t8 : SameT _ H8 := hd4.tt (ot57.trans ot8)
    refine q _ q2 ta tr l (1 + v1) r m (hd8.same sq) (((ot4.trans ot57).trans ot8).trans (Oth.of sq)) (SqT.of upd_same) ?_ (by omega) (by omega) (hl.same sq) hN hm.1 hm.2
    refine sameT sq (t8.seq ?_)
    have : SqT K (upd H3 ta (.tup [.int (1 + (v1 : Int)), .int (r : Nat)])) ta [.int (1 + (v1 : Int)), .int (r : Nat)] := SqT.of upd_same
    rw [show ((1 + v1 : Nat) : Int) = 1 + (v1 : Int) by omega]
    exact this
end
end TBW
namespace TBW
open PySem PySem.Spec PyProof.Rows L2 TBR
/-! ### who is what on a sound sheet -/
theorem mkF_none {l : List Ev} {z : Str} (h : z ∉ TB.boats l) : mkF l z = none := by
  have key : ∀ (l : List Ev) (g : Str → Option Str), z ∉ TB.boats l → l.foldl mkStep g z = g z := by
    intro l
    induction l with
    | nil => intro g _; rfl
    | cons e l ih =>
      intro g h
      rw [TB.boats_cons, List.mem_append] at h
      rw [List.foldl_cons, ih _ (fun c => h (.inr c))]
      cases e with
      | drop x =>
        have h1 : z ∉ [x] := fun c => h (.inl c)
        simp only [List.mem_cons, List.not_mem_nil, or_false] at h1
        show (if z = x then some _ else g z) = g z
        rw [if_neg h1]
      | touch x y =>
        have h1 : z ∉ [x, y] := fun c => h (.inl c)
        simp only [List.mem_cons, List.not_mem_nil, or_false, not_or] at h1
        show (if z = y then some _ else if z = x then some _ else g z) = g z
        rw [if_neg h1.2, if_neg h1.1]
  exact key l _ h
theorem fold_mk {l : List Ev} {z : Str} {g : Str → Option Str} (h : z ∉ TB.boats l) : l.foldl mkStep g z = g z := by
  induction l generalizing g with
  | nil => rfl
  | cons e l ih =>
    rw [TB.boats_cons, List.mem_append] at h
    rw [List.foldl_cons, ih (fun c => h (.inr c))]
    cases e with
    | drop x =>
      have h1 : z ∉ [x] := fun c => h (.inl c)
      simp only [List.mem_cons, List.not_mem_nil, or_false] at h1
      show (if z = x then some _ else g z) = g z
      rw [if_neg h1]
    | touch x y =>
      have h1 : z ∉ [x, y] := fun c => h (.inl c)
      simp only [List.mem_cons, List.not_mem_nil, or_false, not_or] at h1
      show (if z = y then some _ else if z = x then some _ else g z) = g z
      rw [if_neg h1.2, if_neg h1.1]
theorem fold_par {l : List Ev} {z : Str} {g : Str → Option Str} (h : z ∉ TB.boats l) : l.foldl parStep g z = g z := by
  induction l generalizing g with
  | nil => rfl
  | cons e l ih =>
    rw [TB.boats_cons, List.mem_append] at h
    rw [List.foldl_cons, ih (fun c => h (.inr c))]
    cases e with
    | drop x => rfl
    | touch x y =>
      have h1 : z ∉ [x, y] := fun c => h (.inl c)
      simp only [List.mem_cons, List.not_mem_nil, or_false, not_or] at h1
      show (if z = y then some _ else if z = x then some _ else g z) = g z
      rw [if_neg h1.2, if_neg h1.1]
theorem split_at {sh : List Ev} {e : Ev} (h : e ∈ sh) (nd : (TB.boats sh).Nodup) : ∃ a b, sh = a ++ e :: b ∧ (∀ z, z ∈ e.bs → z ∉ TB.boats a ∧ z ∉ TB.boats b) ∧ e.bs.Nodup := by
  obtain ⟨a, b, rfl⟩ := List.append_of_mem h
  rw [TB.boats_app, TB.boats_cons, List.nodup_append] at nd
  obtain ⟨n1, n2, n3⟩ := nd
  rw [List.nodup_append] at n2
  refine ⟨a, b, rfl, fun z hz => ⟨fun c => n3 z c z (List.mem_append.mpr (.inl hz)) rfl, fun c => n2.2.2 z hz z c rfl⟩, n2.1⟩
theorem drop_is {sh : List Ev} {x : Str} (h : TB.Ev.drop x ∈ sh) (nd : (TB.boats sh).Nodup) : mkF sh x = some "d" ∧ parF sh x = none := by
  obtain ⟨a, b, rfl, h1, _⟩ := split_at h nd
  obtain ⟨ha, hb⟩ := h1 x (by simp [TB.Ev.bs])
  constructor
  · unfold mkF
    rw [List.foldl_append, List.foldl_cons, fold_mk hb]
    exact if_pos rfl
  · unfold parF
    rw [List.foldl_append, List.foldl_cons, fold_par hb]
    exact parF_none ha
theorem touch_is {sh : List Ev} {x y : Str} (h : TB.Ev.touch x y ∈ sh) (nd : (TB.boats sh).Nodup) : (mkF sh x = some "u" ∧ parF sh x = some y) ∧ mkF sh y = some "t" ∧ parF sh y = some x := by
  obtain ⟨a, b, rfl, h1, n2⟩ := split_at h nd
  obtain ⟨hxa, hxb⟩ := h1 x (by simp [TB.Ev.bs])
  obtain ⟨hya, hyb⟩ := h1 y (by simp [TB.Ev.bs])
  have hxy : x ≠ y := by
    have := n2
    simp [TB.Ev.bs] at this
    exact this
  unfold mkF parF
  rw [List.foldl_append, List.foldl_cons, List.foldl_append, List.foldl_cons, fold_mk hxb, fold_mk hyb, fold_par hxb, fold_par hyb]
  refine ⟨⟨?_, ?_⟩, if_pos rfl, if_pos rfl⟩
  · exact (if_neg hxy).trans (if_pos rfl)
  · exact (if_neg hxy).trans (if_pos rfl)
/-- a pair that touched, seen from one of the two -/
structure Pair (st : List Str) (r : Nat) (sh : List Ev) (i : Nat) (z : Str) (b : Bool) (o : Str) (q : Nat) (M : List Str) : Prop where
  mz : mkF sh z = some (if b then ("t" : Str) else ("u" : Str))
  pz : parF sh z = some o
  mo : mkF sh o = some (if b then ("u" : Str) else ("t" : Str))
  po : parF sh o = some z
  io : st.idxOf o = q
  ho : o ∈ st
  lt : if b then i < q else q < i
  ml : M.length + 1 = max i q - min i q
  mr : M.length ≤ r
  sl : (st.drop (min i q + 1)).take (max i q - (min i q + 1)) = M
  mb : ∀ u, u ∈ M → u ∈ TB.boats sh
theorem roles {st : List Str} {r : Nat} {sh : List Ev} (nd : st.Nodup) (so : TB.Sound st r sh) {i : Nat} {z : Str} (hz : st[i]? = some z) :
    ((mkF sh z).getD "o" = "o" ∧ parF sh z = none) ∨ ((mkF sh z).getD "o" = "d" ∧ parF sh z = none) ∨ ∃ b o q M, Pair st r sh i z b o q M := by
  by_cases hb : z ∈ TB.boats sh
  · obtain ⟨e, he, hze⟩ := List.mem_flatMap.mp hb
    cases e with
    | drop x =>
      have : z = x := by simpa [TB.Ev.bs] using hze
      subst this
      obtain ⟨h1, h2⟩ := drop_is he so.nd
      exact .inr (.inl ⟨by rw [h1]; rfl, h2⟩)
    | touch x y =>
      obtain ⟨⟨h1, h2⟩, h3, h4⟩ := touch_is he so.nd
      obtain ⟨A, M, C, est, hM, sub, _⟩ := so.tch x y he
      have iy : st.idxOf y = A.length := idx_at nd est
      have ix : st.idxOf x = A.length + 1 + M.length := by
        rw [idx_at (A := A ++ y :: M) (C := C) nd (by rw [est]; simp)]
        simp
        omega
      have iz := idx_get nd hz
      have hx : x ∈ st := so.sub x (List.mem_flatMap.mpr ⟨_, he, by simp [TB.Ev.bs]⟩)
      have hy : y ∈ st := so.sub y (List.mem_flatMap.mpr ⟨_, he, by simp [TB.Ev.bs]⟩)
      have cut : (st.drop (A.length + 1)).take (A.length + 1 + M.length - (A.length + 1)) = M := by
        rw [est, show A.length + 1 + M.length - (A.length + 1) = M.length by omega]
        rw [show A ++ y :: (M ++ x :: C) = (A ++ [y]) ++ (M ++ x :: C) by simp]
        rw [List.drop_left' (by simp), List.take_left]
      have hz2 : z = x ∨ z = y := by simpa [TB.Ev.bs] using hze
      refine .inr (.inr ?_)
      rcases hz2 with rfl | rfl
      · refine ⟨false, y, A.length, M, ⟨h1, h2, h3, h4, iy, hy, ?_, by omega, hM, ?_, sub⟩⟩
        · show A.length < i
          omega
        · rw [show min i A.length = A.length by omega, show max i A.length = A.length + 1 + M.length by omega]
          exact cut
      · refine ⟨true, x, A.length + 1 + M.length, M, ⟨h3, h4, h1, h2, ix, hx, ?_, by omega, hM, ?_, sub⟩⟩
        · show i < A.length + 1 + M.length
          omega
        · rw [show min i (A.length + 1 + M.length) = A.length by omega, show max i (A.length + 1 + M.length) = A.length + 1 + M.length by omega]
          exact cut
  · exact .inl ⟨by rw [mkF_none hb]; rfl, parF_none hb⟩
theorem in_boats_mark {st : List Str} {r : Nat} {sh : List Ev} (so : TB.Sound st r sh) {z : Str} (h : z ∈ TB.boats sh) : (mkF sh z).getD "o" ≠ "o" := by
  obtain ⟨e, he, hze⟩ := List.mem_flatMap.mp h
  cases e with
  | drop x =>
    have : z = x := by simpa [TB.Ev.bs] using hze
    subst this
    rw [(drop_is he so.nd).1]
    decide +kernel
  | touch x y =>
    obtain ⟨⟨h1, h2⟩, h3, h4⟩ := touch_is he so.nd
    have hz2 : z = x ∨ z = y := by simpa [TB.Ev.bs] using hze
    rcases hz2 with rfl | rfl
    · rw [h1]
      decide +kernel
    · rw [h3]
      decide +kernel
theorem strOk_plain {y : Str} (h : Plain y) : PyData.strOk y = true := by
  unfold PyData.strOk
  rw [← Array.all_toList, List.all_eq_true]
  intro c hc
  have := h.2 c hc
  exact decide_eq_true (by omega)
theorem ne_pair {K : PySem.W.Frag} {H : Hp} {a b : Addr} {u v : Str} {Q : VK} (ha : SqT K H a [.str u, .str v]) (hb : SqT K H b [.str u, .str v]) (ou : PyData.strOk u = true) (ov : PyData.strOk v = true) (q : Q (.bl false) H) : rNeD K (.ref a) (.ref b) H Q := by
  have sh : SeqAt.shaped (.tuple [.str u, .str v]) = true := by
    unfold SeqAt.shaped
    rw [Bool.and_eq_true]
    exact ⟨by simp [PyData.canLay0, PyData.canLayAll0, ou, ov], by simp [PyData.depth, PyData.depthAll]⟩
  refine ⟨_, _, .tup ha (.cons (.str u) (.cons (.str v) .nil)), .tup hb (.cons (.str u) (.cons (.str v) .nil)), sh, sh, ?_⟩
  rw [show PyData.eqv (.tuple [.str u, .str v]) (.tuple [.str u, .str v]) = true by simp [PyData.eqv, PyData.eqvAll]]
  exact q
theorem walk_enumT {K : PySem.W.Frag} {a : Addr} {xs : List V} : Walk (IteT K a) xs.length (fun H => SqT K H a xs) (YPair (fun i => some (.int (i : Nat))) (fun i => xs[i]?)) := by
  refine ⟨fun i H hi q => ⟨xs, xs[i], q, List.getElem?_eq_getElem hi⟩, fun H q => ⟨xs, q, rfl⟩, fun i H v H' _ q y => ?_⟩
  obtain ⟨T, x, h1, h2, h3, h4⟩ := y
  exact ⟨T, _, x, h1, h2, h3, rfl, h4 xs q⟩
end TBW
namespace TBW
open PySem PySem.Spec PyProof.Rows L2 TBR
section
variable {P : Program} {w : World} {K : PySem.W.Frag} {mg : Str → Option Value} {base : Heap}
def mrkV (sh : List Ev) (z : Str) : List V := [.str ((mkF sh z).getD "o"), optV (parF sh z)]
def MarksD (K : PySem.W.Frag) (H : Hp) (D : Addr) (st : List Str) (sh : List Ev) : Prop := ∃ kvs, H D = some (.dK kvs) ∧ ∀ z, z ∈ st → ∃ a, valV kvs (Sum.inr z : Key) = some (.ref a) ∧ SqT K H a (mrkV sh z)
theorem MarksD.same {H H' : Hp} (s : Same H H') {D : Addr} {st : List Str} {sh : List Ev} (h : MarksD K H D st sh) : MarksD K H' D st sh := by
  obtain ⟨kvs, h1, h2⟩ := h
  refine ⟨kvs, s _ _ h1, fun z hz => ?_⟩
  obtain ⟨a, e1, e2⟩ := h2 z hz
  exact ⟨a, e1, sameT s e2⟩
def spRight (K : PySem.W.Frag) : Sp := fun vs H Q _ => ∃ (p D : Addr) (st : List Str) (sh : List Ev) (r : Nat), vs = [.ref p, .ref D, .int r] ∧ RowF H p st ∧ st.Nodup ∧ st.length ≤ 100 ∧ (∀ y ∈ st, Plain y) ∧ MarksD K H D st sh ∧ TB.Sound st r sh ∧ ∀ H', Same H H' → Q (.bl true) H'
theorem ok_law_marks_right {f : Addr} {fd : FuncData} (F : Fun K "_law_marks_right" "_law_marks_right" s_law_marks_right f fd) (T : Blt mg) : FnOk P w K mg base CX0 1 f fd ["_law_start", "_law_marks", "_law_reach"] (spRight K) := by
  refine F.ok sc_law_marks_right (fun vs H Q E h => ?_) (fun cdv A outer s H vs Q E hr h => ?_)
  · obtain ⟨p, D, st, sh, r, rfl, _⟩ := h
    rfl
  · obtain ⟨p, D, st, sh, r, rfl, hp, nd, h9, hpl, hM, so, q⟩ := h
    have hu := hu_of hr
    refine ⟨_, (pss_cons (ps_for PassesOwn.never rfl (pi_enumT (by rfl) T.enumerate (pa_cons (pv 0) pa_nil)) (pg_tup (by rfl) (pgs_cons (pg_name (i := 3) sc_law_marks_right.nd rfl (.inl rfl)) (pgs_cons (pg_name (i := 4) sc_law_marks_right.nd rfl (.inl rfl)) pgs_nil)))
      (pss_cons (ps_asg (pe_dget hu (pv 1) (pv 4) (fun _ _ => rfl)) (pg_tup (by rfl) (pgs_cons (pg_name (i := 5) sc_law_marks_right.nd rfl (.inl rfl)) (pgs_cons (pg_name (i := 6) sc_law_marks_right.nd rfl (.inl rfl)) pgs_nil))))
      (pss_cons (ps_if (PW.pt (pw_or (PW.pt (pw_and (pt_cmpR op_in_seq (pv 5) (pe_tup (pa_cons pe_str (pa_cons pe_str pa_nil))) (by rfl)) (pw_and1 (pt_cmpR op_notN (pv 6) pe_non (by rfl))))) (pw_or1 (pt_cmpR op_notIn_seq (pv 5) (pe_tup (pa_cons pe_str (pa_cons pe_str (pa_cons pe_str (pa_cons pe_str pa_nil))))) (by rfl)))))
        (pss_one (ps_ret pe_bl))
        pss_nil)
      (pss_one (ps_if (PW.pt (pw_or (pt_cmpR op_eq (pv 5) pe_str (by rfl)) (pw_or1 (pt_cmpR op_eq (pv 5) pe_str (by rfl)))))
        (pss_cons (ps_if (PW.pt (pw_or (pt_cmpR op_notIn_seq (pv 6) (pv 0) (by rfl)) (pw_or1 (pt_cmpR (op_neD hr.units) (pe_dget hu (pv 1) (pv 6) (fun _ _ => rfl)) (pe_tup (pa_cons (pe_ix ix_list (pe_lst (pa_cons pe_str (pa_cons pe_str pa_nil))) (pe_callTy call_int1 (by rfl) T.int (by decide +kernel) (pa_cons (pe_cmpR op_eq (pv 5) pe_str (by rfl)) pa_nil)) (fun _ _ => rfl)) (pa_cons (pv 4) pa_nil))) (by rfl)))))
          (pss_one (ps_ret pe_bl))
          pss_nil)
        (pss_cons (ps_set (i := 7) sc_law_marks_right.nd rfl (.inl rfl) (pe_indF (pv 0) (pa_cons (pv 6) pa_nil)))
        (pss_cons (ps_if (PW.pt (pw_or (pt_cmpR op_ne (pe_cmpR op_eq (pv 5) pe_str (by rfl)) (pe_cmpR op_lt (pv 7) (pv 3) (by rfl)) (by rfl)) (pw_or1 (pt_cmpR op_gt (pe_op op_sub (pe_callB call_abs (by rfl) T.abs (by decide +kernel) (pa_cons (pe_op op_sub (pv 7) (pv 3)) pa_nil)) pe_int) (pv 2) (by rfl)))))
          (pss_one (ps_ret pe_bl))
          pss_nil)
        (pss_one (ps_if (pt_val (pe_callB (cr_any rfl) (by rfl) T.any (by decide +kernel) (pa_cons (pe_lc (own := [("_law_one", 8)]) (g := gName 8) (by rfl) sc_law_marks_right.nd (pi_tup (pe_slice sl_tupF (pv 0) (po_some (pe_op op_add (pe_callB (call_min2 rfl) (by rfl) T.min (by decide +kernel) (pa_cons (pv 3) (pa_cons (pv 7) pa_nil))) pe_int)) (po_some (pe_callB (call_max2 rfl) (by rfl) T.max (by decide +kernel) (pa_cons (pv 3) (pa_cons (pv 7) pa_nil)))))) (blkOk_by (own := [("_law_one", 8)]) (N := ["_law_start", "_law_marks", "_law_reach", "_law_p", "_law_boat", "_law_mark", "_law_other", "_law_q", "_law_one"]) (sc := defScope s_law_marks_right) (by decide +kernel)) (fun _ _ _ _ _ => (pg_name (i := 8) sc_law_marks_right.nd rfl (.inl rfl))) (fun _ _ _ _ _ => pts_nil) (fun _ _ _ _ _ => (pe_cmpR op_eq (pe_ix (r := rIxT K) ix_tup (pe_dget hu (pv 1) (pv 8) (fun _ _ => rfl)) pe_int (fun _ _ => rfl)) pe_str (by rfl)))) pa_nil)))
          (pss_one (ps_ret pe_bl))
          pss_nil)))))
        pss_nil)))))
    (pss_one (ps_ret pe_bl))), ?_⟩
    refine ⟨.ref p, rfl, p, _, rfl, hp.t, for_it (walk_enumT (xs := st.map V.str)) (fun i σ H2 => ∃ v3 v4 v5 v6 v7 v8 : Option V, σ = [some (.ref p), some (.ref D), some (.int r), v3, v4, v5, v6, v7, v8] ∧ Same H H2) ⟨_, _, _, _, _, _, rfl, Same.refl _⟩ (fun i σ H2 _ ⟨_, _, _, _, _, _, _, s2⟩ => (hp.same s2).t) ?_ ?_⟩
    · rintro i v σ H2 H3 hi ⟨v3, v4, v5, v6, v7, v8, rfl, s2⟩ ⟨TT, x1, x2, rfl, nT, rfl, e1, e2⟩
      have ex1 : x1 = .int (i : Nat) := (Option.some.inj e1).symm
      subst ex1
      obtain ⟨z, hz, rfl⟩ := strget e2
      have s3 := s2.trans (same_upd (o := .tup [.int (i : Nat), .str z]) nT)
      have hzs : z ∈ st := List.mem_of_getElem? hz
      have il := (List.getElem?_eq_some_iff.mp hz).1
      refine ⟨TT, [_, _], rfl, SqT.of upd_same, rfl, _, [_], rfl, _, [], rfl, rfl, ?_⟩
      generalize upd H2 TT (.tup [.int (i : Nat), .str z]) = H4 at s3 ⊢
      obtain ⟨kvs, hk1, hk2⟩ := hM.same s3
      obtain ⟨a, ha1, ha2⟩ := hk2 z hzs
      refine ⟨.ref D, rfl, .str z, rfl, D, _, rfl, dgk hk1 ha1, a, _, rfl, ha2, rfl, _, _, rfl, _, _, rfl, rfl, ?_⟩
      rcases roles nd so hz with ⟨hmk, hpar⟩ | ⟨hmk, hpar⟩ | ⟨b, o, qi, M, pr⟩
      · rw [hmk, hpar]
        refine ⟨.str "o", rfl, (by show 2 ≤ sizeLine; decide), fun c1 n1 => ⟨c1, _, rfl, .inr (SqT.of upd_same), rfl, rfl, _, rfl, ite2 (fun _ => ?_) (fun c => absurd (by decide +kernel) c)⟩⟩
        refine ⟨_, rfl, rfl, _, rfl, iteNS rfl ?_⟩
        refine ⟨.str "o", rfl, (by show 4 ≤ sizeLine; decide), fun c2 n2 => ⟨c2, _, rfl, .inr (SqT.of upd_same), rfl, rfl, _, rfl, ite2 (fun c => absurd c (by decide +kernel)) (fun _ => ?_)⟩⟩
        refine ⟨.str "o", rfl, rfl, _, rfl, ite2 (fun c => absurd c (by decide +kernel)) (fun _ => ⟨.str "o", rfl, rfl, _, rfl, ite2 (fun c => absurd c (by decide +kernel)) (fun _ => ?_)⟩)⟩
        exact ⟨_, _, _, _, _, _, rfl, (s3.trans (same_upd n1)).trans (same_upd n2)⟩
      · rw [hmk, hpar]
        refine ⟨.str "d", rfl, (by show 2 ≤ sizeLine; decide), fun c1 n1 => ⟨c1, _, rfl, .inr (SqT.of upd_same), rfl, rfl, _, rfl, ite2 (fun _ => ?_) (fun c => absurd (by decide +kernel) c)⟩⟩
        refine ⟨_, rfl, rfl, _, rfl, iteNS rfl ?_⟩
        refine ⟨.str "d", rfl, (by show 4 ≤ sizeLine; decide), fun c2 n2 => ⟨c2, _, rfl, .inr (SqT.of upd_same), rfl, rfl, _, rfl, ite2 (fun c => absurd c (by decide +kernel)) (fun _ => ?_)⟩⟩
        refine ⟨.str "d", rfl, rfl, _, rfl, ite2 (fun c => absurd c (by decide +kernel)) (fun _ => ⟨.str "d", rfl, rfl, _, rfl, ite2 (fun c => absurd c (by decide +kernel)) (fun _ => ?_)⟩)⟩
        exact ⟨_, _, _, _, _, _, rfl, (s3.trans (same_upd n1)).trans (same_upd n2)⟩
      · obtain ⟨mz, pz, mo, po, io, ho, lt, ml, mr, sl, mb⟩ := pr
        rw [mz, pz]
        obtain ⟨a2, hb1, hb2⟩ := hk2 o ho
        have ql := List.idxOf_lt_length_of_mem ho
        have hb2' : SqT K H4 a2 [.str (if b then ("u" : Str) else ("t" : Str)), .str z] := by
          have : mrkV sh o = [.str (if b then ("u" : Str) else ("t" : Str)), .str z] := by
            unfold mrkV
            rw [mo, po]
            rfl
          rw [← this]
          exact hb2
        cases b
        case' false =>
          have lt : qi < i := lt
          refine ⟨.str "u", rfl, (by show 2 ≤ sizeLine; decide), fun c1 n1 => ⟨c1, _, rfl, .inr (SqT.of upd_same), rfl, rfl, _, rfl, ite2 (fun c => absurd c (by decide +kernel)) (fun _ => ?_)⟩⟩
          refine ⟨.str "u", rfl, (by show 4 ≤ sizeLine; decide), fun c2 n2 => ⟨c2, _, rfl, .inr (SqT.of upd_same), rfl, rfl, _, rfl, ite2 (fun c => absurd c (by decide +kernel)) (fun _ => ?_)⟩⟩
          refine ⟨.str "u", rfl, rfl, _, rfl, ite2 (fun c => absurd c (by decide +kernel)) (fun _ => ⟨.str "u", rfl, rfl, _, rfl, ite2 (fun _ => ?_) (fun c => absurd (by decide +kernel) c)⟩)⟩
          have s5 := (same_upd (o := .tup [V.str "d", V.str "o"]) n1).trans (same_upd (o := .tup [V.str "d", V.str "o", V.str "t", V.str "u"]) n2)
          have hk5 := s5 _ _ hk1
          have hp5 := (hp.same s3).same s5
          have sH5 := s3.trans s5
          have hb5 := sameT s5 hb2'
          have hk25 : ∀ z, z ∈ st → ∃ a, valV kvs (Sum.inr z : Key) = some (.ref a) ∧ SqT K (upd (upd H4 c1 (.tup [V.str "d", V.str "o"])) c2 (.tup [V.str "d", V.str "o", V.str "t", V.str "u"])) a (mrkV sh z) := fun z hz => let ⟨a, e1, e2⟩ := hk2 z hz; ⟨a, e1, sameT s5 e2⟩
          generalize upd (upd H4 c1 (.tup [V.str "d", V.str "o"])) c2 (.tup [V.str "d", V.str "o", V.str "t", V.str "u"]) = H5 at s5 hk5 hp5 sH5 hb5 hk25 ⊢
          refine ⟨.str o, rfl, .ref p, rfl, p, _, rfl, .inr hp5.t, rfl, flat_strs st, _, rfl, ?_⟩
          rw [inV_str, decide_eq_true ho]
          refine iteF ?_
          refine ⟨.ref D, rfl, .str o, rfl, D, .ref a2, rfl, dgk hk5 hb1, (by show 2 ≤ sizeLine; decide), fun l nl => ?_⟩
          have eix : (if decide (V.str "u" = V.str "t") = true then (1 : Int) else 0) = ((0 : Nat) : Int) := by decide +kernel
          refine ⟨.str "u", rfl, rfl, .inr ⟨_, rfl, l, _, _, .str "t", rfl, rfl, SqL.of upd_same, ?_, ?_⟩⟩
          · rw [eix]
            exact atI_nat (j := 0) rfl
          refine ⟨.str z, rfl, (by show 2 ≤ sizeLine; decide), fun t nt => ?_⟩
          have sl6 := (same_upd (o := .lst [V.str "t", V.str "u"]) nl).trans (same_upd (o := .tup [V.str "t", V.str z]) nt)
          refine ne_pair (u := "t") (v := z) (sameT sl6 hb5) (SqT.of upd_same) (by decide +kernel) (strOk_plain (hpl z hzs)) ⟨_, rfl, iteF ?_⟩
          have hk6 := sl6 _ _ hk5
          have hp6 := hp5.same sl6
          have sH6 := sH5.trans sl6
          have hk26 : ∀ y', y' ∈ st → ∃ a, valV kvs (Sum.inr y' : Key) = some (.ref a) ∧ SqT K (upd (upd H5 l (.lst [V.str "t", V.str "u"])) t (.tup [V.str "t", V.str z])) a (mrkV sh y') := fun y' hy' => let ⟨a, e1, e2⟩ := hk25 y' hy'; ⟨a, e1, sameT sl6 e2⟩
          refine ⟨.ref p, rfl, ⟨p, _, rfl, hp6⟩, .str o, rfl, p, st, o, st.idxOf o, rfl, rfl, hp6.t, idx_at2 ho, idx_first nd ho, ?_⟩
          generalize upd (upd H5 l (.lst [V.str "t", V.str "u"])) t (.tup [V.str "t", V.str z]) = H6 at sl6 hk6 hp6 sH6 hk26 ⊢
          rw [io]
          refine ⟨.str "u", rfl, rfl, .int qi, rfl, .int i, rfl, _, _, rfl, rfl, rfl, _, rfl, ite2 (fun c => absurd c ?_) (fun _ => ?_)⟩
          · have hlt : decide ((qi : Int) < (i : Int)) = true := decide_eq_true (by omega)
            show ¬ (!decide (V.bl (decide (V.str "u" = V.str "u")) = V.bl (decide ((qi : Int) < (i : Int))))) = true
            rw [hlt]
            decide +kernel
        case' true =>
          have lt : i < qi := lt
          refine ⟨.str "t", rfl, (by show 2 ≤ sizeLine; decide), fun c1 n1 => ⟨c1, _, rfl, .inr (SqT.of upd_same), rfl, rfl, _, rfl, ite2 (fun c => absurd c (by decide +kernel)) (fun _ => ?_)⟩⟩
          refine ⟨.str "t", rfl, (by show 4 ≤ sizeLine; decide), fun c2 n2 => ⟨c2, _, rfl, .inr (SqT.of upd_same), rfl, rfl, _, rfl, ite2 (fun c => absurd c (by decide +kernel)) (fun _ => ?_)⟩⟩
          refine ⟨.str "t", rfl, rfl, _, rfl, ite2 (fun _ => iteT ?_) (fun c => absurd (by decide +kernel) c)⟩
          have s5 := (same_upd (o := .tup [V.str "d", V.str "o"]) n1).trans (same_upd (o := .tup [V.str "d", V.str "o", V.str "t", V.str "u"]) n2)
          have hk5 := s5 _ _ hk1
          have hp5 := (hp.same s3).same s5
          have sH5 := s3.trans s5
          have hb5 := sameT s5 hb2'
          have hk25 : ∀ z, z ∈ st → ∃ a, valV kvs (Sum.inr z : Key) = some (.ref a) ∧ SqT K (upd (upd H4 c1 (.tup [V.str "d", V.str "o"])) c2 (.tup [V.str "d", V.str "o", V.str "t", V.str "u"])) a (mrkV sh z) := fun z hz => let ⟨a, e1, e2⟩ := hk2 z hz; ⟨a, e1, sameT s5 e2⟩
          generalize upd (upd H4 c1 (.tup [V.str "d", V.str "o"])) c2 (.tup [V.str "d", V.str "o", V.str "t", V.str "u"]) = H5 at s5 hk5 hp5 sH5 hb5 hk25 ⊢
          refine ⟨.str o, rfl, .ref p, rfl, p, _, rfl, .inr hp5.t, rfl, flat_strs st, _, rfl, ?_⟩
          rw [inV_str, decide_eq_true ho]
          refine iteF ?_
          refine ⟨.ref D, rfl, .str o, rfl, D, .ref a2, rfl, dgk hk5 hb1, (by show 2 ≤ sizeLine; decide), fun l nl => ?_⟩
          have eix : (if decide (V.str "t" = V.str "t") = true then (1 : Int) else 0) = ((1 : Nat) : Int) := by decide +kernel
          refine ⟨.str "t", rfl, rfl, .inr ⟨_, rfl, l, _, _, .str "u", rfl, rfl, SqL.of upd_same, ?_, ?_⟩⟩
          · rw [eix]
            exact atI_nat (j := 1) rfl
          refine ⟨.str z, rfl, (by show 2 ≤ sizeLine; decide), fun t nt => ?_⟩
          have sl6 := (same_upd (o := .lst [V.str "t", V.str "u"]) nl).trans (same_upd (o := .tup [V.str "u", V.str z]) nt)
          refine ne_pair (u := "u") (v := z) (sameT sl6 hb5) (SqT.of upd_same) (by decide +kernel) (strOk_plain (hpl z hzs)) ⟨_, rfl, iteF ?_⟩
          have hk6 := sl6 _ _ hk5
          have hp6 := hp5.same sl6
          have sH6 := sH5.trans sl6
          have hk26 : ∀ y', y' ∈ st → ∃ a, valV kvs (Sum.inr y' : Key) = some (.ref a) ∧ SqT K (upd (upd H5 l (.lst [V.str "t", V.str "u"])) t (.tup [V.str "u", V.str z])) a (mrkV sh y') := fun y' hy' => let ⟨a, e1, e2⟩ := hk25 y' hy'; ⟨a, e1, sameT sl6 e2⟩
          refine ⟨.ref p, rfl, ⟨p, _, rfl, hp6⟩, .str o, rfl, p, st, o, st.idxOf o, rfl, rfl, hp6.t, idx_at2 ho, idx_first nd ho, ?_⟩
          generalize upd (upd H5 l (.lst [V.str "t", V.str "u"])) t (.tup [V.str "u", V.str z]) = H6 at sl6 hk6 hp6 sH6 hk26 ⊢
          rw [io]
          refine ⟨.str "t", rfl, rfl, .int qi, rfl, .int i, rfl, _, _, rfl, rfl, rfl, _, rfl, ite2 (fun c => absurd c ?_) (fun _ => ?_)⟩
          · have hlt : decide ((qi : Int) < (i : Int)) = false := decide_eq_false (by omega)
            show ¬ (!decide (V.bl (decide (V.str "t" = V.str "u")) = V.bl (decide ((qi : Int) < (i : Int))))) = true
            rw [hlt]
            decide +kernel
        all_goals
          refine ⟨.int qi, rfl, .int i, rfl, _, _, rfl, rfl, _, rfl, _, _, rfl, rfl, .int r, rfl, _, _, rfl, rfl, _, rfl, ite2 (fun c => ?_) (fun _ => ?_)⟩
          · exfalso
            have c2 := of_decide_eq_true c
            split at c2 <;> omega
          refine ⟨.ref p, rfl, .int i, rfl, .int qi, rfl, _, _, rfl, ?_⟩
          refine ⟨_, _, rfl, rfl, _, rfl, .int i, rfl, .int qi, rfl, _, _, rfl, ?_⟩
          refine ⟨_, rfl, sl_row hp6 fun H7 b7 s7 hb7 => ?_⟩
          have ecut : cutS st (some ((if (qi : Int) < (i : Int) then (qi : Int) else (i : Int)) + 1)) (some (if (qi : Int) > (i : Int) then (qi : Int) else (i : Int))) = M := by
            rw [show ((if (qi : Int) < (i : Int) then (qi : Int) else (i : Int)) + 1) = ((min i qi + 1 : Nat) : Int) by split <;> omega, show (if (qi : Int) > (i : Int) then (qi : Int) else (i : Int)) = ((max i qi : Nat) : Int) by split <;> omega, cutS_nat]
            exact sl
          rw [ecut] at hb7
          have hk7 := s7 _ _ hk6
          refine ⟨b7, rfl, ⟨_, hb7.t⟩, fun D2 hD2 => lc_tup (K := K) (a := b7) (xs := M.map V.str) (fun j H8 => Same H7 H8 ∧ H8 D2 = some (.lst ((List.replicate j false).map V.bl))) ⟨same_upd hD2, upd_same⟩ (fun j H8 _ h => (hb7.same h.1).t) (fun j x8 H8 hj h8 => ?_) (fun H8 h8 => ?_)⟩
          · obtain ⟨sm, hd8⟩ := h8
            obtain ⟨u, hu8, rfl⟩ := strget hj
            have hj2 := (List.getElem?_eq_some_iff.mp hu8).1
            have huM := mb u (List.mem_of_getElem? hu8)
            obtain ⟨a8, g1, g2⟩ := hk26 u (so.sub u huM)
            refine ⟨rfl, lcYes ?_⟩
            refine ⟨.ref D, rfl, .str u, rfl, D, _, rfl, dgk (sm _ _ hk7) g1, a8, _, 0, _, rfl, rfl, sameT (s7.trans sm) g2, rfl, rfl, _, hd8, ltz (by rw [List.length_map, List.length_replicate]; omega), sameUpd sm hD2, ?_⟩
            have ne := in_boats_mark so huM
            rw [upd_same, decide_eq_false (fun e => ne (V.str.inj e)), List.replicate_succ', List.map_append]
            rfl
          · obtain ⟨sm, hd8⟩ := h8
            refine ⟨D2, _, rfl, SqL.of hd8, _, rfl, ?_⟩
            rw [show (List.replicate (M.map V.str).length false).any id = false by simp]
            refine iteF ?_
            exact ⟨_, _, _, _, _, _, rfl, (sH6.trans s7).trans sm⟩
    · rintro σ H2 ⟨v3, v4, v5, v6, v7, v8, rfl, s2⟩
      exact q H2 s2
end
end TBW
namespace TBW
open PySem PySem.Spec PyProof.Rows L2 TBR
/-! ### a race's own deeds -/
theorem own_deed {s m : Nat} {f : Nat → List Ev} {row : List Str} {j : Nat} (hj : j < m) (z : Str) : ∀ i, i ≤ m → (deeds s m f row i z).filter (fun d => decide (d.1 = m - 1 - j)) = if j < i ∧ z ∈ seg s (m - 1 - j) (rowsAt s m f row j) then [deedAt (f (m - 1 - j)) (m - 1 - j) z] else []
  | 0, _ => by
    rw [if_neg (by omega)]
    rfl
  | i + 1, h => by
    have ih := own_deed (s := s) (f := f) (row := row) hj z i (by omega)
    unfold deeds
    by_cases hz : z ∈ seg s (m - 1 - i) (rowsAt s m f row i)
    · rw [if_pos hz, List.filter_append, ih]
      by_cases hij : i = j
      · subst hij
        rw [if_neg (by omega), if_pos ⟨by omega, hz⟩]
        simp [deedAt]
      · have e : ([deedAt (f (m - 1 - i)) (m - 1 - i) z]).filter (fun d => decide (d.1 = m - 1 - j)) = [] := by
          rw [List.filter_cons_of_neg]
          · rfl
          · show ¬ decide (m - 1 - i = m - 1 - j) = true
            rw [decide_eq_true_iff]
            omega
        rw [e, List.append_nil]
        by_cases hji : j < i
        · by_cases hw : z ∈ seg s (m - 1 - j) (rowsAt s m f row j)
          · rw [if_pos ⟨hji, hw⟩, if_pos ⟨by omega, hw⟩]
          · rw [if_neg (fun c => hw c.2), if_neg (fun c => hw c.2)]
        · rw [if_neg (by omega), if_neg (by omega)]
    · rw [if_neg hz, ih]
      by_cases hij : i = j
      · subst hij
        rw [if_neg (by omega), if_neg (fun c => hz c.2)]
      · by_cases hw : z ∈ seg s (m - 1 - j) (rowsAt s m f row j)
        · by_cases hji : j < i
          · rw [if_pos ⟨hji, hw⟩, if_pos ⟨by omega, hw⟩]
          · rw [if_neg (by omega), if_neg (by omega)]
        · rw [if_neg (fun c => hw c.2), if_neg (fun c => hw c.2)]
theorem sl_ded {K : PySem.W.Frag} {H : Hp} {a : Addr} {d : Deed} {Q : VK} (h : SqT K H a (dedL d)) (q : ∀ H' b, Same H H' → SqT K H' b [.str d.2.1, optV d.2.2] → Q (.ref b) H') : rSlF K (.ref a) (some 1) none H Q := by
  refine ⟨a, _, rfl, h, fun c => ?_, fun c p o hp ho => ?_⟩
  · exfalso
    have := c.1
    simp [dedL, HT.sIx] at this
  · refine q _ p (same_upd hp) ?_
    exact (TupF.new (xs := [.str d.2.1, optV d.2.2]) ho).t
theorem par_in {st : List Str} {r : Nat} {sh : List Ev} (so : TB.Sound st r sh) {z o : Str} (h : parF sh z = some o) : o ∈ st := by
  by_cases hb : z ∈ TB.boats sh
  · obtain ⟨e, he, hze⟩ := List.mem_flatMap.mp hb
    cases e with
    | drop x =>
      have : z = x := by simpa [TB.Ev.bs] using hze
      subst this
      rw [(drop_is he so.nd).2] at h
      cases h
    | touch x y =>
      obtain ⟨⟨h1, h2⟩, h3, h4⟩ := touch_is he so.nd
      have hz2 : z = x ∨ z = y := by simpa [TB.Ev.bs] using hze
      rcases hz2 with rfl | rfl
      · rw [h2] at h
        cases h
        exact so.sub o (List.mem_flatMap.mpr ⟨_, he, by simp [TB.Ev.bs]⟩)
      · rw [h4] at h
        cases h
        exact so.sub o (List.mem_flatMap.mpr ⟨_, he, by simp [TB.Ev.bs]⟩)
  · rw [parF_none hb] at h
    cases h
theorem mark_ok {st : List Str} {r : Nat} {sh : List Ev} (so : TB.Sound st r sh) (z : Str) : PyData.strOk ((mkF sh z).getD "o") = true := by
  by_cases hb : z ∈ TB.boats sh
  · obtain ⟨e, he, hze⟩ := List.mem_flatMap.mp hb
    cases e with
    | drop x =>
      have : z = x := by simpa [TB.Ev.bs] using hze
      subst this
      rw [(drop_is he so.nd).1]
      decide +kernel
    | touch x y =>
      obtain ⟨⟨h1, h2⟩, h3, h4⟩ := touch_is he so.nd
      have hz2 : z = x ∨ z = y := by simpa [TB.Ev.bs] using hze
      rcases hz2 with rfl | rfl
      · rw [h1]
        decide +kernel
      · rw [h3]
        decide +kernel
  · rw [mkF_none hb]
    decide +kernel
def optD : Option Str → PyData
  | none => .none
  | some x => .str x
def dedD (d : Deed) : PyData := .tuple [.int d.1, .str d.2.1, optD d.2.2]
theorem dedD_dp {K : PySem.W.Frag} {H : Hp} {a : Addr} {d : Deed} (h : SqT K H a (dedL d)) : Dp K H (.ref a) (dedD d) := by
  refine .tup h (.cons (.int _) (.cons (.str _) (.cons ?_ .nil)))
  cases d.2.2 with
  | none => exact .non
  | some x => exact .str x
/-- is a boat's own list of deeds (one or none) not empty -/
theorem ne_own {K : PySem.W.Frag} {H : Hp} {a b : Addr} {us : List V} {ds : List Deed} {Q : VK} (ha : H a = some (.lst us)) (hd : Deeds K H us ds) (hb : H b = some (.lst [])) (h1 : ds.length ≤ 1) (ok : ∀ d ∈ ds, PyData.strOk d.2.1 = true ∧ ∀ o, d.2.2 = some o → PyData.strOk o = true) (q : Q (.bl (!ds.isEmpty)) H) : rNeD K (.ref a) (.ref b) H Q := by
  cases hd with
  | nil =>
    refine ⟨_, _, .lst (SqL.of ha) .nil, .lst (SqL.of hb) .nil, shaped_nil, shaped_nil, ?_⟩
    exact q
  | cons h hs =>
    rename_i a1 vs d ds'
    have : ds' = [] := by
      cases ds' with
      | nil => rfl
      | cons _ _ => simp at h1
    subst this
    cases hs
    obtain ⟨o1, o2⟩ := ok d (by simp)
    refine ⟨.list [dedD d], .list [], .lst (SqL.of ha) (.cons (dedD_dp h) .nil), .lst (SqL.of hb) .nil, ?_, shaped_nil, ?_⟩
    · unfold SeqAt.shaped
      rw [Bool.and_eq_true]
      obtain ⟨n, mk, o⟩ := d
      cases o with
      | none => exact ⟨by simp [dedD, optD, PyData.canLay0, PyData.canLayAll0, o1], by simp [dedD, optD, PyData.depth, PyData.depthAll]⟩
      | some o => exact ⟨by simp [dedD, optD, PyData.canLay0, PyData.canLayAll0, o1, o2 o rfl], by simp [dedD, optD, PyData.depth, PyData.depthAll]⟩
    · rw [show PyData.eqv (.list [dedD d]) (.list []) = false by simp [PyData.eqv, PyData.eqvAll]]
      exact q
end TBW
namespace TBW
open PySem PySem.Spec PyProof.Rows L2 TBR
section
variable {P : Program} {w : World} {K : PySem.W.Frag} {mg : Str → Option Value} {base : Heap}
def spRace (K : PySem.W.Frag) : Sp := fun vs H Q _ => ∃ (a c q : Addr) (s r j : Nat) (f : Nat → List Ev) (row : List Str), vs = [.ref a, .ref c, .ref q, .int (races row.length s - 1 - j : Nat)] ∧ SqT K H a [.int s, .int r] ∧ DayOk s r f row ∧ j < races row.length s ∧
  RowF H c (rowsAt s (races row.length s) f row j) ∧ KeptV K H q row (deeds s (races row.length s) f row (races row.length s)) ∧ (∀ y ∈ row, Plain y) ∧ ∀ H' t, Same H H' → RowF H' t (rowsAt s (races row.length s) f row (j + 1)) → Q (.ref t) H'
theorem ok_law_race {f : Addr} {fd : FuncData} (F : Fun K "_law_race" "_law_race" s_law_race f fd) (T : Blt mg) (c_law_span : Cal P w K mg base 1 "_law_span" ["_law_meeting", "_law_n", "_law_k"] (spSpan K)) (c_law_marks_right : Cal P w K mg base 1 "_law_marks_right" ["_law_start", "_law_marks", "_law_reach"] (spRight K)) :
    FnOk P w K mg base CX0 2 f fd ["_law_meeting", "_law_row", "_law_kept", "_law_k"] (spRace K) := by
  refine F.ok sc_law_race (fun vs H Q E h => ?_) (fun cdv A outer s H vs Q E hr h => ?_)
  · obtain ⟨a, c, q, s, r, j, f, row, rfl, _⟩ := h
    rfl
  · obtain ⟨a, c, qk, s, r, j, f, row, rfl, hm, D, hj, hc, hkept, hpl, q⟩ := h
    have hu := hu_of hr
    refine ⟨_, (pss_cons (ps_asg (pe_k c_law_span hr (by decide) (by rfl) (pa_cons (pv 0) (pa_cons (pe_callB call_len_seq (by rfl) T.len PySem.boot_len (pa_cons (pv 1) pa_nil)) (pa_cons (pv 3) pa_nil)))) (pg_tup (by rfl) (pgs_cons (pg_name (i := 4) sc_law_race.nd rfl (.inl rfl)) (pgs_cons (pg_name (i := 5) sc_law_race.nd rfl (.inl rfl)) pgs_nil))))
    (pss_cons (ps_set (i := 6) sc_law_race.nd rfl (.inl rfl) (pe_slice sl_tupF (pv 1) (po_some (pv 4)) (po_some (pe_op op_add (pv 5) pe_int))))
    (pss_cons (ps_set (i := 7) sc_law_race.nd rfl (.inr rfl) pe_dnewK)
    (pss_cons (ps_for PassesOwn.never rfl (pi_tup (pv 2)) (pg_tup (by rfl) (pgs_cons (pg_name (i := 8) sc_law_race.nd rfl (.inl rfl)) (pgs_cons (pg_name (i := 9) sc_law_race.nd rfl (.inl rfl)) pgs_nil)))
      (pss_cons (ps_setLc (i := 10) (own := [("_law_deed", 12)]) (g := gName 12) (by rfl) sc_law_race.nd rfl rfl (sw_true rfl rfl rfl (by decide +kernel)) (pi_tup (pv 9)) (blkOk_by (own := [("_law_deed", 12)]) (N := ["_law_meeting", "_law_row", "_law_kept", "_law_k", "_law_first", "_law_last", "_law_start", "_law_marks", "_law_boat", "_law_some", "_law_own", "_law_found", "_law_deed"]) (sc := defScope s_law_race) (by decide +kernel)) (fun _ _ _ _ _ => (pg_name (i := 12) sc_law_race.nd rfl (.inl rfl))) (fun _ _ _ _ _ => (pts_one (pt_cmpR op_eq (pe_ix (r := rIxT K) ix_tup (pv 12) pe_int (fun _ _ => rfl)) (pv 3) (by rfl)))) (fun _ _ _ _ _ => (pv 12)))
      (pss_cons (ps_if (pt_cmpR op_ne (pe_callB call_len_seq (by rfl) T.len PySem.boot_len (pa_cons (pv 10) pa_nil)) (pe_callTy call_int1 (by rfl) T.int (by decide +kernel) (pa_cons (pe_cmpR op_in_seq (pv 8) (pv 6) (by rfl)) pa_nil)) (by rfl))
        (pss_one (ps_ret pe_non))
        pss_nil)
      (pss_one (ps_if (pt_cmpR (op_neD hr.units) (pv 10) (pe_lst pa_nil) (by rfl))
        (pss_one (ps_dput hu (pv 7) (pv 8) (pe_slice sl_tupF (pe_ix ix_list (pv 10) pe_int (fun _ _ => rfl)) (po_some pe_int) po_none) rfl))
        pss_nil)))))
    (pss_cons (ps_if (pt_not (pt_val (pe_k c_law_marks_right hr (by decide) (by rfl) (pa_cons (pv 6) (pa_cons (pv 7) (pa_cons (pe_ix ix_tup (pv 0) pe_int (fun _ _ => rfl)) pa_nil))))))
      (pss_one (ps_ret pe_non))
      pss_nil)
    (pss_cons (ps_set (i := 11) sc_law_race.nd rfl (.inl rfl) (pe_callTy call_tupF (by rfl) T.tuple (by decide +kernel) (pa_cons (pe_lc (own := [("_law_boat", 8)]) (g := gName 8) (by rfl) sc_law_race.nd (pi_tup (pv 6)) (blkOk_by (own := [("_law_boat", 8)]) (N := ["_law_meeting", "_law_row", "_law_kept", "_law_k", "_law_first", "_law_last", "_law_start", "_law_marks", "_law_boat", "_law_some", "_law_own", "_law_found", "_law_deed"]) (sc := defScope s_law_race) (by decide +kernel)) (fun _ _ _ _ _ => (pg_name (i := 8) sc_law_race.nd rfl (.inl rfl))) (fun _ _ _ _ _ => pts_nil) (fun _ _ _ _ _ => (pe_ifExp (pt_cmpR op_notN (pe_ix (r := rIxT K) ix_tup (pe_dget hu (pv 7) (pv 8) (fun _ _ => rfl)) pe_int (fun _ _ => rfl)) pe_non (by rfl)) (pe_ix (r := rIxT K) ix_tup (pe_dget hu (pv 7) (pv 8) (fun _ _ => rfl)) pe_int (fun _ _ => rfl)) (pv 8)))) pa_nil)))
    (pss_one (ps_ret (pe_op op_catF (pe_op op_catF (pe_slice sl_tupF (pv 1) po_none (po_some (pv 4))) (pv 11)) (pe_slice sl_tupF (pv 1) (po_some (pe_op op_add (pv 5) pe_int)) po_none)))))))))), ?_⟩
    have hmn := races_le (n := row.length) D.s1 D.n1
    have hn9 := D.n9
    have hlen := rows_len D (j := j) (by omega)
    have hks : (races row.length s - 1 - j) * s < row.length := (races_lt D.s1).mp (by omega)
    have so := D.snd j hj
    have hperm := rows_perm D j (by omega)
    have hnd : (seg s (races row.length s - 1 - j) (rowsAt s (races row.length s) f row j)).Nodup := seg_nd (hperm.nodup_iff.mpr D.nd)
    have hs9 := D.seg9 (j := j) (k := races row.length s - 1 - j) (by omega)
    have hown := own_deed (s := s) (m := races row.length s) (f := f) (row := row) hj
    have hsub : ∀ z ∈ seg s (races row.length s - 1 - j) (rowsAt s (races row.length s) f row j), z ∈ row := fun z hz => hperm.mem_iff.mp (List.mem_of_mem_drop (List.mem_of_mem_take hz))
    have hnext : rowsAt s (races row.length s) f row (j + 1) = lay s (races row.length s - 1 - j) (rowsAt s (races row.length s) f row j) (swapped (seg s (races row.length s - 1 - j) (rowsAt s (races row.length s) f row j)) (f (races row.length s - 1 - j))) := by
      show stepR _ _ _ _ = _
      unfold stepR
      rw [behind_eq hnd so]
    rw [hnext] at q
    generalize hk : races row.length s - 1 - j = k at *
    generalize hR : rowsAt s (races row.length s) f row j = R at *
    generalize hST : seg s k R = ST at *
    obtain ⟨ws, hq1, hq2, hq3⟩ := hkept
    -- first, last; the start
    refine ⟨.ref a, rfl, .ref c, rfl, c, _, rfl, .inr hc.t, .int k, rfl, a, R.length, k, s, r, ?_, hm, D.s8, by omega, by omega, fun t nt => ?_⟩
    · rw [List.length_map]
      rfl
    have st := same_upd (o := .tup [.int (k * s : Nat), .int (lastOf R.length s k : Nat)]) nt
    refine ⟨t, _, rfl, SqT.of upd_same, rfl, _, _, rfl, _, _, rfl, rfl, ?_⟩
    have hc1 := hc.same st
    refine ⟨.ref c, rfl, _, rfl, _, rfl, _, rfl, _, _, rfl, rfl, _, rfl, sl_row hc1 fun H1 g s1 hg => ?_⟩
    rw [seg_cut, hST] at hg
    have s01 := st.trans s1
    -- marks
    intro M nM
    have sM := same_upd (o := .dK []) nM
    have n0M : H M = none := s01.free nM
    have s02 := s01.trans sM
    refine ⟨.ref qk, rfl, qk, rfl, ⟨_, sameT s02 hq1⟩, for_tup (K := K) (a := qk) (xs := ws) (fun i σ H2 => ∃ (v8 v9 v10 v12 : Option V) (kvs : List (Key × V)), σ = [some (.ref a), some (.ref c), some (.ref qk), some (.int k), some (.int (k * s : Nat)), some (.int (lastOf R.length s k : Nat)), some (.ref g), some (.ref M), v8, v9, v10, none, v12] ∧ Same H H2 ∧ SameT (upd H1 M (.dK [])) H2 ∧ H2 M = some (.dK kvs) ∧ kvs.length ≤ i ∧
        ∀ i' z, i' < i → row[i']? = some z → z ∈ ST → ∃ b, valV kvs (Sum.inr z : Key) = some (.ref b) ∧ SqT K H2 b (mrkV (f k) z))
      ⟨none, none, none, none, [], rfl, s02, sameTT (Same.refl _), upd_same, Nat.zero_le _, fun i' z hi' => by omega⟩ (fun i σ H2 _ ⟨_, _, _, _, _, _, s2, _⟩ => sameT s2 hq1) ?_ ?_⟩
    · rintro i x σ H2 hi ⟨v8, v9, v10, v12, kvs, rfl, s2, st2, hM2, hkl, hall⟩
      have hi2 : i < row.length := by
        have := (List.getElem?_eq_some_iff.mp hi).1
        omega
      obtain ⟨cc, u, vs, e1, e2, e3, e4⟩ := hq3 i row[i] (List.getElem?_eq_getElem hi2)
      rw [hi] at e1
      cases e1
      have hz : row[i]? = some row[i] := List.getElem?_eq_getElem hi2
      generalize row[i] = z at hz e2 e4
      have hzr : z ∈ row := List.mem_of_getElem? hz
      refine ⟨cc, _, rfl, sameT s2 e2, rfl, _, _, rfl, _, _, rfl, rfl, ?_⟩
      -- own
      have hdl := deeds_len s (races row.length s) f row (races row.length s) z
      refine ⟨.ref u, rfl, u, rfl, ⟨_, sameT s2 e3⟩, fun L hL => lc_tup (K := K) (a := u) (xs := vs) (fun j' H3 => Same H2 H3 ∧ ∃ us, H3 L = some (.lst us) ∧ us.length ≤ j' ∧ Deeds K H3 us (((deeds s (races row.length s) f row (races row.length s) z).take j').filter fun d => decide (d.1 = k)))
        ⟨same_upd hL, [], upd_same, Nat.le_refl _, .nil⟩ (fun j' H3 _ h => sameT (s2.trans h.1) e3) (fun j' x3 H3 hj' h3 => ?_) (fun H3 h3 => ?_)⟩
      · obtain ⟨sm, us, hd3, hul, hus⟩ := h3
        obtain ⟨da, dd, rfl, hdd, hddt⟩ := e4.get hj'
        have hjl := (List.getElem?_eq_some_iff.mp hdd).1
        have hda := sameT (s2.trans sm) hddt
        refine ⟨rfl, .ref da, rfl, da, _, 0, _, rfl, rfl, hda, rfl, .int k, rfl, rfl, _, rfl, ite2 (fun c1 => ?_) (fun c1 => ?_)⟩
        · have c2 : dd.1 = k := by
            have := V.int.inj (of_decide_eq_true c1)
            omega
          refine ⟨.ref da, rfl, us, hd3, ltz (by omega), sameUpd sm hL, _, upd_same, by rw [List.length_append]; show _ + 1 ≤ _; omega, ?_⟩
          have stt := SameT.lst (o := .lst (us ++ [.ref da])) hd3
          rw [take_snoc hdd, List.filter_append, List.filter_cons_of_pos (by exact decide_eq_true c2)]
          exact (hus.tt stt).snoc (stt.seq hda)
        · have c2 : ¬ dd.1 = k := fun e => c1 (decide_eq_true (by rw [e]))
          refine ⟨sm, us, hd3, by omega, ?_⟩
          rw [take_snoc hdd, List.filter_append, List.filter_cons_of_neg (by rw [decide_eq_true_iff]; exact c2)]
          simpa using hus
      · obtain ⟨sm, us, hd3, hul, hus⟩ := h3
        rw [e4.len, List.take_length, hown z (races row.length s) (Nat.le_refl _)] at hus
        have s3 := s2.trans sm
        have hM3 := sm _ _ hM2
        have hg3 : RowF H3 g ST := ((st2.row (hg.same sM)).same sm)
        refine ⟨.ref L, rfl, L, _, rfl, .inl (SqL.of hd3), .str z, rfl, .ref g, rfl, g, _, rfl, .inr hg3.t, rfl, flat_strs ST, .inr ⟨_, rfl, rfl, _, rfl, ?_⟩⟩
        rw [inV_str, hus.len]
        by_cases hzs : z ∈ ST
        · have hw : (if j < races row.length s ∧ z ∈ ST then [deedAt (f k) k z] else []) = [deedAt (f k) k z] := if_pos ⟨hj, hzs⟩
          rw [hw] at hus ⊢
          rw [decide_eq_true hzs]
          refine iteNS rfl ?_
          refine ⟨.ref L, rfl, Nat.zero_le _, fun e ne => ne_own (same_upd ne _ _ hd3) (hus.tt (sameTT (same_upd ne))) upd_same (Nat.le_refl _) (fun d hd => ?_) ⟨_, rfl, iteT ?_⟩⟩
          · rw [List.mem_singleton] at hd
            subst hd
            exact ⟨mark_ok so z, fun o ho => strOk_plain (hpl o (hsub o (par_in so ho)))⟩
          have se := same_upd (o := .lst []) ne
          have s4 := s3.trans se
          cases hus with
          | cons hd0 hnil =>
            cases hnil
            rename_i da
            refine ⟨.ref L, rfl, L, _, 0, _, rfl, rfl, SqL.of (se _ _ hd3), rfl, 1, rfl, slNo (sl_ded (sameT se hd0) fun H5 b s5 hb => ?_)⟩
            have hM5 := s5 _ _ (se _ _ hM3)
            refine ⟨.ref M, rfl, .str z, rfl, M, _, rfl, DPut.k (k := Sum.inr z) hM5 (ltz (by omega)), ?_⟩
            have stM := SameT.dct (o := .dK (putK kvs (Sum.inr z : Key) (.ref b))) hM5
            refine ⟨_, _, _, _, _, rfl, sameUpd (s4.trans s5) n0M, (st2.trans (sameTT ((sm.trans se).trans s5))).trans stM, upd_same, Nat.le_trans (length_putK _ _ _) (by omega), fun i' z' hi' hz' hzs' => ?_⟩
            rw [valV_put]
            by_cases hzz : z' = z
            · subst hzz
              exact ⟨b, if_pos rfl, stM.seq hb⟩
            · have hne : ¬ i' = i := fun e => hzz (by
                subst e
                rw [hz] at hz'
                cases hz'
                rfl)
              obtain ⟨b', f1, f2⟩ := hall i' z' (by omega) hz' hzs'
              exact ⟨b', by rw [if_neg (fun e => hzz (by cases e; rfl))]; exact f1, stM.seq (sameT ((sm.trans se).trans s5) f2)⟩
        · have hw : (if j < races row.length s ∧ z ∈ ST then [deedAt (f k) k z] else []) = [] := if_neg fun c => hzs c.2
          rw [hw] at hus ⊢
          rw [decide_eq_false hzs]
          refine iteNS rfl ?_
          refine ⟨.ref L, rfl, Nat.zero_le _, fun e ne => ne_own (same_upd ne _ _ hd3) (hus.tt (sameTT (same_upd ne))) upd_same (Nat.zero_le _) (fun d hd => by cases hd) ⟨_, rfl, iteF ?_⟩⟩
          have se := same_upd (o := .lst []) ne
          refine ⟨_, _, _, _, kvs, rfl, s3.trans se, st2.trans (sameTT (sm.trans se)), se _ _ hM3, by omega, fun i' z' hi' hz' hzs' => ?_⟩
          have hne : ¬ i' = i := fun e => by
            subst e
            rw [hz] at hz'
            cases hz'
            exact hzs hzs'
          obtain ⟨b', f1, f2⟩ := hall i' z' (by omega) hz' hzs'
          exact ⟨b', f1, sameT (sm.trans se) f2⟩
    · rintro σ H2 ⟨v8, v9, v10, v12, kvs, rfl, s2, st2, hM2, hkl, hall⟩
      have hg2 : RowF H2 g ST := st2.row (hg.same sM)
      have hmd : MarksD K H2 M ST (f k) := by
        refine ⟨kvs, hM2, fun z hz => ?_⟩
        obtain ⟨i, hi⟩ := List.getElem?_of_mem (hsub z hz)
        have hil := (List.getElem?_eq_some_iff.mp hi).1
        exact hall i z (by omega) hi hz
      refine ⟨.ref g, rfl, .ref M, rfl, .ref a, rfl, a, _, 1, _, rfl, rfl, sameT s2 hm, atI_nat (j := 1) rfl, g, M, ST, f k, r, rfl, hg2, hnd, hs9, fun y hy => hpl y (hsub y hy), hmd, so, fun H3 s3 => ?_⟩
      refine ⟨_, rfl, iteF ?_⟩
      have hg3 := hg2.same s3
      have s23 := s2.trans s3
      obtain ⟨kv3, hM3, hm3⟩ := hmd.same s3
      -- found
      refine ⟨.ref g, rfl, g, rfl, ⟨_, hg3.t⟩, fun L hL => lc_tup (K := K) (a := g) (xs := ST.map V.str) (fun j' H4 => Same H3 H4 ∧ H4 L = some (.lst ((swapped (ST.take j') (f k)).map V.str)))
        ⟨same_upd hL, upd_same⟩ (fun j' H4 _ h => (hg3.same h.1).t) (fun j' x4 H4 hj' h4 => ?_) (fun H4 h4 => ?_)⟩
      · obtain ⟨sm, hd4⟩ := h4
        obtain ⟨z, hz, rfl⟩ := strget hj'
        have hjl := (List.getElem?_eq_some_iff.mp hz).1
        obtain ⟨b, f1, f2⟩ := hm3 z (List.mem_of_getElem? hz)
        have f3 := sameT sm f2
        have hM4 := sm _ _ hM3
        have fin : ∀ o : Str, (parF (f k) z).getD z = o → ∃ acc, H4 L = some (.lst acc) ∧ acc.length < sizeLine ∧ Same H3 (upd H4 L (.lst (acc ++ [.str o]))) ∧ (upd H4 L (.lst (acc ++ [.str o]))) L = some (.lst ((swapped (ST.take (j' + 1)) (f k)).map V.str)) := by
          intro o ho
          refine ⟨_, hd4, ltz ?_, sameUpd sm hL, ?_⟩
          · unfold swapped
            rw [List.length_map, List.length_map, List.length_take]
            omega
          · rw [upd_same, take_snoc hz]
            unfold swapped
            rw [List.map_append, List.map_append, ← ho]
            rfl
        refine ⟨rfl, lcYes ?_⟩
        refine ⟨.ref M, rfl, .str z, rfl, M, _, rfl, dgk hM4 f1, b, _, 1, _, rfl, rfl, f3, atI_nat (j := 1) rfl, rfl, _, rfl, ?_⟩
        cases hpz : parF (f k) z with
        | none =>
          refine iteNS rfl ?_
          exact ⟨.str z, rfl, fin z (by rw [hpz]; rfl)⟩
        | some o =>
          refine ite2 (fun _ => ?_) (fun c => absurd rfl c)
          refine ⟨.ref M, rfl, .str z, rfl, M, _, rfl, dgk hM4 f1, b, _, 1, .str o, rfl, rfl, f3, ?_, fin o (by rw [hpz]; rfl)⟩
          unfold mrkV
          rw [hpz]
          exact atI_nat (j := 1) rfl
      · obtain ⟨sm, hd4⟩ := h4
        rw [List.length_map, List.take_length] at hd4
        refine ⟨L, _, rfl, SqL.of hd4, fun b ob nb hob => ?_⟩
        have sb := same_upd (o := .frz ob (.tup ((swapped ST (f k)).map V.str))) nb
        have s25 := (s23.trans sm).trans sb
        have hb5 : RowF _ b (swapped ST (f k)) := TupF.new (H := H4) (p := b) hob
        have hsl : (swapped ST (f k)).length = ST.length := by
          unfold swapped
          rw [List.length_map]
        refine ⟨.ref c, rfl, slNo0 ?_⟩
        refine ⟨_, rfl, _, rfl, sl_row (hc.same s25) fun H6 x s6 hx => ?_⟩
        rw [cutS_to] at hx
        refine ⟨.ref b, rfl, cat_row hx (hb5.same s6) (by rw [List.length_take, hsl]; omega) fun H7 y s7 hy => ?_⟩
        refine ⟨.ref c, rfl, _, rfl, _, _, rfl, rfl, _, rfl, slNo (sl_row (((hc.same s25).same s6).same s7) fun H8 x2 s8 hx2 => ?_)⟩
        rw [show ((lastOf R.length s k : Nat) + 1 : Int) = ((lastOf R.length s k + 1 : Nat) : Int) by omega, cutS_from] at hx2
        refine cat_row (hy.same s8) hx2 (by rw [List.length_append, List.length_take, List.length_drop, hsl]; omega) fun H9 y2 s9 hy2 => ?_
        exact q H9 y2 (((s25.trans s6).trans s7).trans (s8.trans s9)) hy2
end
end TBW
namespace TBW
open PySem PySem.Spec PyProof.Rows L2 TBR
/-! ### a boat's numbers go down one by one -/
def DescTo (l : List Nat) (e : Nat) : Prop := ∃ a, e ≤ a ∧ l = (List.range (a + 1 - e)).map fun i => a - i
theorem DescTo.one (k : Nat) : DescTo [k] k := ⟨k, Nat.le_refl _, by rw [show k + 1 - k = 1 by omega]; rfl⟩
theorem DescTo.snoc {l : List Nat} {e : Nat} (h : DescTo l (e + 1)) : DescTo (l ++ [e]) e := by
  obtain ⟨a, h1, rfl⟩ := h
  refine ⟨a, by omega, ?_⟩
  rw [show a + 1 - e = (a + 1 - (e + 1)) + 1 by omega, List.range_succ, List.map_append]
  congr 1
  show [e] = [a - (a + 1 - (e + 1))]
  rw [show a - (a + 1 - (e + 1)) = e by omega]
def nums (s m : Nat) (f : Nat → List Ev) (row : List Str) (j : Nat) (z : Str) : List Nat := (deeds s m f row j z).map (·.1)
theorem nums_in {s m : Nat} {f : Nat → List Ev} {row : List Str} {j : Nat} {z : Str} (h : z ∈ seg s (m - 1 - j) (rowsAt s m f row j)) : nums s m f row (j + 1) z = nums s m f row j z ++ [m - 1 - j] := by
  unfold nums
  show (if z ∈ seg s (m - 1 - j) (rowsAt s m f row j) then _ else _ : List Deed).map _ = _
  rw [if_pos h, List.map_append]
  rfl
theorem nums_out {s m : Nat} {f : Nat → List Ev} {row : List Str} {j : Nat} {z : Str} (h : z ∉ seg s (m - 1 - j) (rowsAt s m f row j)) : nums s m f row (j + 1) z = nums s m f row j z := by
  unfold nums
  show (if z ∈ seg s (m - 1 - j) (rowsAt s m f row j) then _ else _ : List Deed).map _ = _
  rw [if_neg h]
theorem seg_at {s k : Nat} {row : List Str} {z : Str} (h : k * s < row.length) : z ∈ seg s k row ↔ ∃ p, k * s ≤ p ∧ p ≤ lastOf row.length s k ∧ row[p]? = some z := by
  have hl := last_ge h
  constructor
  · intro hz
    obtain ⟨i, hi⟩ := List.getElem?_of_mem hz
    unfold seg at hi
    rw [List.getElem?_take] at hi
    split at hi
    · rw [List.getElem?_drop] at hi
      exact ⟨k * s + i, by omega, by omega, hi⟩
    · cases hi
  · rintro ⟨p, h1, h2, h3⟩
    refine List.mem_of_getElem? (i := p - k * s) ?_
    unfold seg
    rw [List.getElem?_take, if_pos (by omega), List.getElem?_drop, show k * s + (p - k * s) = p by omega]
    exact h3
theorem lay_at {s k : Nat} {row som : List Str} (h : k * s < row.length) (hs : som.Perm (seg s k row)) {p : Nat} {z : Str} (hp : (lay s k row som)[p]? = some z) :
    (¬ (k * s ≤ p ∧ p ≤ lastOf row.length s k) ∧ row[p]? = some z) ∨ ((k * s ≤ p ∧ p ≤ lastOf row.length s k) ∧ z ∈ seg s k row) := by
  have hl := last_ge h
  have hlen : som.length = lastOf row.length s k + 1 - k * s := by rw [hs.length_eq, seg_len h]
  have ht : (row.take (k * s)).length = k * s := by rw [List.length_take]; omega
  unfold lay at hp
  by_cases h1 : p < k * s
  · refine .inl ⟨by omega, ?_⟩
    rw [List.append_assoc, List.getElem?_append_left (by omega), List.getElem?_take, if_pos h1] at hp
    exact hp
  · by_cases h2 : p ≤ lastOf row.length s k
    · refine .inr ⟨⟨by omega, h2⟩, ?_⟩
      rw [List.getElem?_append_left (by rw [List.length_append, ht, hlen]; omega), List.getElem?_append_right (by omega)] at hp
      exact hs.mem_iff.mp (List.mem_of_getElem? hp)
    · refine .inl ⟨by omega, ?_⟩
      rw [List.getElem?_append_right (by rw [List.length_append, ht, hlen]; omega), List.length_append, ht, hlen, List.getElem?_drop] at hp
      rw [show lastOf row.length s k + 1 + (p - (k * s + (lastOf row.length s k + 1 - k * s))) = p by omega] at hp
      exact hp
theorem nums_inv {s r : Nat} {f : Nat → List Ev} {row : List Str} (D : DayOk s r f row) : ∀ j, j ≤ races row.length s → ∀ p z, (rowsAt s (races row.length s) f row j)[p]? = some z →
    (p < (races row.length s - j) * s → nums s (races row.length s) f row j z = []) ∧ (p = (races row.length s - j) * s → DescTo (nums s (races row.length s) f row j z) (races row.length s - j)) ∧ (p > (races row.length s - j) * s → ∃ e, DescTo (nums s (races row.length s) f row j z) e)
  | 0, _ => fun p z hp => by
    have hpl := (List.getElem?_eq_some_iff.mp hp).1
    have hge : row.length ≤ races row.length s * s := by
      have h : ¬ races row.length s * s < row.length := fun c => Nat.lt_irrefl _ ((races_lt (n := row.length) (k := races row.length s) D.s1).mpr c)
      omega
    have hpl2 : p < row.length := hpl
    rw [Nat.sub_zero]
    exact ⟨fun _ => rfl, fun h => by omega, fun h => by omega⟩
  | j + 1, h => fun p z hp => by
    have ih := nums_inv D j (by omega)
    have so := D.snd j (by omega)
    have hlen := rows_len D (j := j) (by omega)
    have hks0 : (races row.length s - 1 - j) * s < row.length := (races_lt D.s1).mp (by omega)
    have hks : (races row.length s - 1 - j) * s < (rowsAt s (races row.length s) f row j).length := by omega
    have hnd := (rows_perm D j (by omega)).nodup_iff.mpr D.nd
    have hp2 : (lay s (races row.length s - 1 - j) (rowsAt s (races row.length s) f row j) (behindT (seg s (races row.length s - 1 - j) (rowsAt s (races row.length s) f row j)) ((f (races row.length s - 1 - j)).filter isT)))[p]? = some z := hp
    have e1 : races row.length s - (j + 1) = races row.length s - 1 - j := by omega
    have e2 : races row.length s - j = (races row.length s - 1 - j) + 1 := by omega
    rw [e2] at ih
    rw [e1]
    have e3 : ((races row.length s - 1 - j) + 1) * s = (races row.length s - 1 - j) * s + s := by rw [Nat.add_mul, Nat.one_mul]
    rw [e3] at ih
    rcases lay_at hks (behindT_perm so.sub) hp2 with ⟨hout, hrow⟩ | ⟨hin, hseg⟩
    · have hpl := (List.getElem?_eq_some_iff.mp hrow).1
      have hns : z ∉ seg s (races row.length s - 1 - j) (rowsAt s (races row.length s) f row j) := by
        intro hz
        obtain ⟨p', h1, h2, h3⟩ := (seg_at hks).mp hz
        have : p' = p := (List.getElem?_inj (List.getElem?_eq_some_iff.mp h3).1 hnd).mp (h3.trans hrow.symm)
        omega
      rw [nums_out hns]
      obtain ⟨i1, i2, i3⟩ := ih p z hrow
      have hlast : lastOf (rowsAt s (races row.length s) f row j).length s (races row.length s - 1 - j) = min ((races row.length s - 1 - j) * s + s) ((rowsAt s (races row.length s) f row j).length - 1) := rfl
      refine ⟨fun h => i1 (by omega), fun h => ?_, fun h => ?_⟩
      · have := D.s1
        omega
      · exact i3 (by omega)
    · obtain ⟨p', h1, h2, h3⟩ := (seg_at hks).mp hseg
      rw [nums_in hseg]
      obtain ⟨i1, i2, i3⟩ := ih p' z h3
      have hlast : lastOf (rowsAt s (races row.length s) f row j).length s (races row.length s - 1 - j) = min ((races row.length s - 1 - j) * s + s) ((rowsAt s (races row.length s) f row j).length - 1) := rfl
      have key : DescTo (nums s (races row.length s) f row j z ++ [races row.length s - 1 - j]) (races row.length s - 1 - j) := by
        by_cases hc : p' < (races row.length s - 1 - j) * s + s
        · rw [i1 hc]
          exact DescTo.one _
        · exact (i2 (by omega)).snoc
      exact ⟨fun h => by omega, fun _ => key, fun _ => ⟨_, key⟩⟩
theorem nums_desc {s r : Nat} {f : Nat → List Ev} {row : List Str} (D : DayOk s r f row) {z : Str} (hz : z ∈ row) : ∃ e, DescTo (nums s (races row.length s) f row (races row.length s) z) e := by
  have hp := rows_perm D (races row.length s) (Nat.le_refl _)
  obtain ⟨p, h⟩ := List.getElem?_of_mem (hp.mem_iff.mpr hz)
  obtain ⟨i1, i2, i3⟩ := nums_inv D _ (Nat.le_refl _) p z h
  rw [Nat.sub_self, Nat.zero_mul] at i2 i3
  by_cases h0 : p = 0
  · exact ⟨_, i2 h0⟩
  · exact i3 (by omega)
end TBW
namespace TBW
open PySem PySem.Spec PyProof.Rows L2 TBR
theorem fmt_le : ∀ {l : List Str}, (∀ y ∈ l, Plain y) → fmtCost l ≤ 204 * l.length
  | [], _ => Nat.le_refl _
  | y :: l, h => by
    have ih := fmt_le (l := l) fun z hz => h z (List.mem_cons_of_mem _ hz)
    have := (h y List.mem_cons_self).1
    rw [← tl_len] at this
    rw [fmtCost_cons, List.length_cons]
    omega
theorem deeds_lt (s m : Nat) (f : Nat → List Ev) (row : List Str) : ∀ (j : Nat) (z : Str), j ≤ m → ∀ d ∈ deeds s m f row j z, d.1 < m
  | 0, z, _, d, h => by cases h
  | j + 1, z, hj, d, h => by
    have ih := deeds_lt s m f row j z (by omega)
    unfold deeds at h
    split at h
    · rw [List.mem_append] at h
      rcases h with h | h
      · exact ih d h
      · rw [List.mem_singleton] at h
        subst h
        show m - 1 - j < m
        omega
    · exact ih d h
theorem downV_ints (i j : Int) : downV i j = ((List.range (i - j).toNat).map fun k => i - (k : Nat)).map V.int := by
  unfold downV
  rw [List.map_map]
  rfl
theorem numL_get {l : List Nat} {i : Nat} {n : Nat} (h : l[i]? = some n) : ((l.map fun n : Nat => (n : Int)).map V.int)[i]? = some (.int (n : Nat)) := by
  rw [List.getElem?_map, List.getElem?_map, h]
  rfl
section
variable {P : Program} {w : World} {K : PySem.W.Frag} {mg : Str → Option Value} {base : Heap}
def spLaw (K : PySem.W.Frag) : Sp := fun vs H Q _ => ∃ (a : Addr) (ns : List Int), vs = [.ref a] ∧ SqL K H a (ns.map V.int) ∧ ns.length ≤ 63 ∧ ∀ H', Q (.bl true) H'
theorem ok_law {f : Addr} {fd : FuncData} (F : Fun K "law" "law" s_law f fd) (T : Blt mg) (c_law_begin : Cal P w K mg base 1 "_law_begin" ["_law_script"] (spBegin K)) (c_law_meet : Cal P w K mg base 3 "_law_meet" ["_law_draws", "_law_most"] (spMeet K))
    (c_law_next : Cal P w K mg base 1 "_law_next" ["_law_draws", "_law_many"] (spNext K)) (c_law_day : Cal P w K mg base 3 "_law_day" ["_law_draws", "_law_meeting", "_law_row"] (spDay K)) (c_deeds_of : Cal P w K mg base 4 "deeds_of" ["meeting", "row", "day"] (spDeeds K))
    (c_day_behind : Cal P w K mg base 5 "day_behind" ["meeting", "row", "day"] (spDayBehind K)) (c_law_races : Cal P w K mg base 1 "_law_races" ["_law_meeting", "_law_n"] (spRaces K)) (c_law_race : Cal P w K mg base 2 "_law_race" ["_law_meeting", "_law_row", "_law_kept", "_law_k"] (spRace K)) :
    RunAt P w K mg base f fd ["_law_script"] (spLaw K) := by
  refine run_at (k := 5) F sc_law (fun vs H Q E h => ?_) ⟨rfl, by decide, by decide⟩ (fun cdv s H vs Q hr hG h => ?_)
  · obtain ⟨a, ns, rfl, _⟩ := h
    rfl
  · obtain ⟨a, ns, rfl, hS, hl, q⟩ := h
    have hu := hu_of hr
    refine ⟨_, (pss_cons (ps_set (i := 1) sc_law.nd rfl (.inl rfl) (pe_k c_law_begin hr (by decide) (by rfl) (pa_cons (pv 0) pa_nil)))
    (pss_cons (ps_asg (pe_k c_law_meet hr (by decide) (by rfl) (pa_cons (pv 1) (pa_cons pe_int pa_nil))) (pg_tup (by rfl) (pgs_cons (pg_name (i := 2) sc_law.nd rfl (.inl rfl)) (pgs_cons (pg_name (i := 3) sc_law.nd rfl (.inl rfl)) pgs_nil))))
    (pss_cons (ps_for PassesOwn.never rfl (pi_range1 (by rfl) T.range (pa_cons (pe_op op_add pe_int (pe_k c_law_next hr (by decide) (by rfl) (pa_cons (pv 1) (pa_cons pe_int pa_nil)))) pa_nil)) (pg_name (i := 4) sc_law.nd rfl (.inl rfl))
      (pss_cons (ps_asg (pe_k c_law_day hr (by decide) (by rfl) (pa_cons (pv 1) (pa_cons (pv 2) (pa_cons (pv 3) pa_nil)))) (pg_tup (by rfl) (pgs_cons (pg_name (i := 5) sc_law.nd rfl (.inl rfl)) (pgs_cons (pg_name (i := 6) sc_law.nd rfl (.inl rfl)) (pgs_cons (pg_name (i := 7) sc_law.nd rfl (.inl rfl)) pgs_nil)))))
      (pss_cons (ps_set (i := 8) sc_law.nd rfl (.inl rfl) (pe_k c_deeds_of hr (by decide) (by rfl) (pa_cons (pv 2) (pa_cons (pv 3) (pa_cons (pv 5) pa_nil)))))
      (pss_cons (ps_asg (pe_k c_day_behind hr (by decide) (by rfl) (pa_cons (pv 2) (pa_cons (pv 3) (pa_cons (pv 5) pa_nil)))) (pg_tup (by rfl) (pgs_cons (pg_name (i := 9) sc_law.nd rfl (.inl rfl)) (pgs_cons (pg_name (i := 10) sc_law.nd rfl (.inl rfl)) pgs_nil))))
      (pss_cons (ps_if (PW.pt (pw_or (pt_cmpR op_ne (pv 9) pe_str (by rfl)) (pw_or1 (pt_cmpR (op_neD hr.units) (pe_lc (own := [("_law_boat", 11), ("_law_some", 12)]) (g := (gTup K 2 (gCons (gName 11) (gCons (gName 12) (gNil))))) (by rfl) sc_law.nd (pi_tup (pv 8)) (blkOk_by (own := [("_law_boat", 11), ("_law_some", 12)]) (N := ["_law_script", "_law_draws", "_law_meeting", "_law_row", "_law_turn", "_law_day_here", "_law_starts", "_law_after_here", "_law_kept", "_law_word_here", "_law_told", "_law_boat", "_law_some", "_law_numbers", "_law_walked", "_law_k", "_law_deed"]) (sc := defScope s_law) (by decide +kernel)) (fun _ _ _ _ _ => (pg_tup (by rfl) (pgs_cons (pg_name (i := 11) sc_law.nd rfl (.inl rfl)) (pgs_cons (pg_name (i := 12) sc_law.nd rfl (.inl rfl)) pgs_nil)))) (fun _ _ _ _ _ => pts_nil) (fun _ _ _ _ _ => (pv 11))) (pe_callTy call_list_of (by rfl) T.list (by decide +kernel) (pa_cons (pv 3) pa_nil)) (by rfl)))))
        (pss_one (ps_ret pe_bl))
        pss_nil)
      (pss_cons (ps_for PassesOwn.never rfl (pi_tup (pv 8)) (pg_tup (by rfl) (pgs_cons (pg_name (i := 11) sc_law.nd rfl (.inl rfl)) (pgs_cons (pg_name (i := 12) sc_law.nd rfl (.inl rfl)) pgs_nil)))
        (pss_cons (ps_setLc (i := 13) (own := [("_law_deed", 16)]) (g := gName 16) (by rfl) sc_law.nd rfl rfl (sw_true rfl rfl rfl (by decide +kernel)) (pi_tup (pv 12)) (blkOk_by (own := [("_law_deed", 16)]) (N := ["_law_script", "_law_draws", "_law_meeting", "_law_row", "_law_turn", "_law_day_here", "_law_starts", "_law_after_here", "_law_kept", "_law_word_here", "_law_told", "_law_boat", "_law_some", "_law_numbers", "_law_walked", "_law_k", "_law_deed"]) (sc := defScope s_law) (by decide +kernel)) (fun _ _ _ _ _ => (pg_name (i := 16) sc_law.nd rfl (.inl rfl))) (fun _ _ _ _ _ => pts_nil) (fun _ _ _ _ _ => (pe_ix (r := rIxT K) ix_tup (pv 16) pe_int (fun _ _ => rfl))))
        (pss_one (ps_if (PW.pt (pw_or (pt_cmpR (op_eqD hr.units) (pv 13) (pe_lst pa_nil) (by rfl)) (pw_or1 (pt_cmpR (op_neD hr.units) (pv 13) (pe_listDown (by rfl) (by rfl) T.list (by rfl) T.range (pa_cons (pe_ix ix_list (pv 13) pe_int (fun _ _ => rfl)) (pa_cons (pe_op op_sub (pe_ix ix_list (pv 13) (pe_un un_neg pe_int) (fun _ _ => rfl)) pe_int) (pa_cons (pe_un un_neg pe_int) pa_nil)))) (by rfl)))))
          (pss_one (ps_ret pe_bl))
          pss_nil))))
      (pss_cons (ps_set (i := 14) sc_law.nd rfl (.inl rfl) (pv 3))
      (pss_cons (ps_for PassesOwn.never rfl (pi_revR (by rfl) T.reversed (prg_1 (by rfl) T.range (pe_k c_law_races hr (by decide) (by rfl) (pa_cons (pv 2) (pa_cons (pe_callB call_len_seq (by rfl) T.len PySem.boot_len (pa_cons (pv 3) pa_nil)) pa_nil))))) (pg_name (i := 15) sc_law.nd rfl (.inl rfl))
        (pss_cons (ps_set (i := 14) sc_law.nd rfl (.inl rfl) (pe_k c_law_race hr (by decide) (by rfl) (pa_cons (pv 2) (pa_cons (pv 14) (pa_cons (pv 8) (pa_cons (pv 15) pa_nil))))))
        (pss_one (ps_if (pt_cmpR op_isN (pv 14) pe_non (by rfl))
          (pss_one (ps_ret pe_bl))
          pss_nil))))
      (pss_cons (ps_if (pt_cmpR op_ne (pe_callB (call_repr_strs hG hr.units) (by rfl) T.repr (by decide +kernel) (pa_cons (pv 14) pa_nil)) (pe_callB (call_repr_strs hG hr.units) (by rfl) T.repr (by decide +kernel) (pa_cons (pv 10) pa_nil)) (by rfl))
        (pss_one (ps_ret pe_bl))
        pss_nil)
      (pss_one (ps_set (i := 3) sc_law.nd rfl (.inl rfl) (pv 10))))))))))))
    (pss_one (ps_ret pe_bl))))), ?_⟩
    refine ⟨.ref a, rfl, a, ns, rfl, hS, by omega, fun H1 d c s1 nd hd1 => ?_⟩
    refine ⟨.ref d, rfl, d, c, 24, rfl, hd1, by decide, by decide, fun H2 qm ta tr l sz r m hd2 ot2 hq hta hs1 hs8 htr hN hm1 hm2 => ?_⟩
    refine ⟨qm, _, rfl, hq, rfl, _, _, rfl, _, _, rfl, rfl, ?_⟩
    refine ⟨.ref d, rfl, d, c, 5, rfl, hd2, by decide, by decide, fun v H3 hv hd3 ot3 => ?_⟩
    refine ⟨_, _, rfl, rfl, _, rfl, by omega, by omega, ?_⟩
    rw [show (1 + (v : Int)).toNat = 1 + v by omega]
    refine for_range (lo := 0) (fun i σ H4 => ∃ (tr : Addr) (l : List Str) (v4 v5 v6 v7 v8 v9 v10 v11 v12 v13 v14 v15 v16 : Option V), σ = [some (.ref a), some (.ref d), some (.ref ta), some (.ref tr), v4, v5, v6, v7, v8, v9, v10, v11, v12, v13, v14, v15, v16] ∧ Draws H4 d c ∧ SqT K H4 ta [.int sz, .int r] ∧ RowF H4 tr l ∧ Names m l)
      ⟨tr, l, none, none, none, none, none, none, none, none, none, none, none, none, none, rfl, hd3, (hd2.tt ot3).seq hta, (hd2.tt ot3).row htr, hN⟩ ?_ ?_
    · clear htr hN hta hd3 ot3 hq
      rintro i σ H4 hi ⟨tr, l, v4, v5, v6, v7, v8, v9, v10, v11, v12, v13, v14, v15, v16, rfl, hd4, hta, htr, hN⟩
      have hln := hN.ln
      refine ⟨.ref d, rfl, .ref ta, rfl, .ref tr, rfl, d, c, ta, tr, sz, r, l, rfl, hd4, hta, htr, hN.nd, hs1, hs8, by omega, by omega, fun H5 q5 td ta5 y5 f hd5 ot5 hq5 hdv hD h5 => ?_⟩
      refine ⟨q5, _, rfl, hq5, rfl, _, _, rfl, _, _, rfl, _, _, rfl, rfl, ?_⟩
      have t45 := hd4.tt ot5
      have hta5 := t45.seq hta
      have htr5 := t45.row htr
      -- deeds_of, day_behind
      refine ⟨.ref ta, rfl, .ref tr, rfl, .ref td, rfl, ta, tr, td, sz, r, l, f, rfl, hta5, htr5, hD, hdv, fun H6 qk s6 hk => ?_⟩
      refine ⟨.ref ta, rfl, .ref tr, rfl, .ref td, rfl, ta, tr, td, sz, r, l, f, rfl, sameT s6 hta5, htr5.same s6, hD, (sameTT s6).day hdv, fun H7 q7 told s7 hq7 htold => ?_⟩
      refine ⟨q7, _, rfl, hq7, rfl, _, _, rfl, _, _, rfl, rfl, ?_⟩
      have s67 := s6.trans s7
      have hk7 := (sameTT s7).keptV hk
      have htr7 := htr5.same s67
      have hta7 := sameT s67 hta5
      have hd7 := hd5.same s67
      have okl : ∀ x ∈ l, PyData.strOk x = true := fun x hx => strOk_plain (hN.pl x hx)
      obtain ⟨ws, hk1, hk2, hk3⟩ := id hk7
      -- the names
      refine ⟨.str "row", rfl, rfl, _, rfl, iteNS rfl ?_⟩
      refine ⟨.ref qk, rfl, qk, rfl, ⟨_, hk1⟩, fun L hL => lc_tup (K := K) (a := qk) (xs := ws) (fun j H8 => Same H7 H8 ∧ H8 L = some (.lst ((l.take j).map V.str))) ⟨same_upd hL, upd_same⟩ (fun j H8 _ h => sameT h.1 hk1) (fun j x8 H8 hj h8 => ?_) (fun H8 h8 => ?_)⟩
      · obtain ⟨sm, hd8⟩ := h8
        have hjl : j < l.length := by
          have := (List.getElem?_eq_some_iff.mp hj).1
          omega
        obtain ⟨cc, u, vs, e1, e2, e3, e4⟩ := hk3 j l[j] (List.getElem?_eq_getElem hjl)
        rw [hj] at e1
        cases e1
        refine ⟨cc, _, rfl, sameT sm e2, rfl, _, _, rfl, _, _, rfl, rfl, ?_⟩
        refine ⟨rfl, lcYes ?_⟩
        refine ⟨_, rfl, _, hd8, ltz ?_, sameUpd sm hL, ?_⟩
        · rw [List.length_map, List.length_take]
          omega
        · rw [upd_same, take_snoc (List.getElem?_eq_getElem hjl), List.map_append]
          rfl
      · obtain ⟨s8, hd8⟩ := h8
        rw [hk2, List.take_length] at hd8
        refine ⟨.ref tr, rfl, tr, _, rfl, .inr (htr7.same s8).t, fun L2 nL2 => ?_⟩
        have s9 := same_upd (o := .lst (l.map V.str)) nL2
        refine ne_strs (xs := l) (ys := l) (SqL.of (s9 _ _ hd8)) (SqL.of upd_same) okl okl ⟨_, rfl, iteNS rfl ?_⟩
        have s79 := s8.trans s9
        -- the numbers
        refine ⟨.ref qk, rfl, qk, rfl, ⟨_, sameT s79 hk1⟩, for_tup (K := K) (a := qk) (xs := ws) (fun i σ H10 => ∃ (v4 v6 v7 v11 v12 v13 v14 v15 v16 : Option V), σ = [some (.ref a), some (.ref d), some (.ref ta), some (.ref tr), v4, some (.ref td), v6, v7, some (.ref qk), some (.str "row"), some (.ref told), v11, v12, v13, v14, v15, v16] ∧ Same H7 H10)
          ⟨_, _, _, _, _, _, _, _, _, rfl, s79⟩ (fun i σ H10 _ ⟨_, _, _, _, _, _, _, _, _, _, s10⟩ => sameT s10 hk1) ?_ ?_⟩
        · rintro i x σ H10 hi ⟨v4, v6, v7, v11, v12, v13, v14, v15, v16, rfl, s10⟩
          have hil : i < l.length := by
            have := (List.getElem?_eq_some_iff.mp hi).1
            omega
          obtain ⟨cc, u, vs, e1, e2, e3, e4⟩ := hk3 i l[i] (List.getElem?_eq_getElem hil)
          rw [hi] at e1
          cases e1
          have hzl : l[i] ∈ l := List.getElem_mem _
          generalize l[i] = z at e2 e4 hzl
          refine ⟨cc, _, rfl, sameT s10 e2, rfl, _, _, rfl, _, _, rfl, rfl, ?_⟩
          have hdl := deeds_len sz (races l.length sz) f l (races l.length sz) z
          have hmn := races_le (n := l.length) hs1 (by omega)
          refine ⟨.ref u, rfl, u, rfl, ⟨_, sameT s10 e3⟩, fun L hL => lc_tup (K := K) (a := u) (xs := vs) (fun j H11 => Same H10 H11 ∧ H11 L = some (.lst ((((deeds sz (races l.length sz) f l (races l.length sz) z).take j).map (fun d => (d.1 : Int))).map V.int)))
            ⟨same_upd hL, upd_same⟩ (fun j H11 _ h => sameT (s10.trans h.1) e3) (fun j x11 H11 hj h11 => ?_) (fun H11 h11 => ?_)⟩
          · obtain ⟨sm, hd11⟩ := h11
            obtain ⟨da, dd, rfl, hdd, hddt⟩ := e4.get hj
            refine ⟨rfl, lcYes ?_⟩
            refine ⟨.ref da, rfl, da, _, 0, _, rfl, rfl, sameT (s10.trans sm) hddt, rfl, _, hd11, ltz ?_, sameUpd sm hL, ?_⟩
            · rw [List.length_map, List.length_map, List.length_take]
              omega
            · rw [upd_same, take_snoc hdd, List.map_append, List.map_append]
              rfl
          · obtain ⟨s11, hd11⟩ := h11
            obtain ⟨e, top, hte, hnum⟩ := nums_desc hD hzl
            have hnl : ((deeds sz (races l.length sz) f l (races l.length sz) z).map fun d => (d.1 : Int)) = (nums sz (races l.length sz) f l (races l.length sz) z).map fun n : Nat => (n : Int) := by
              unfold nums
              rw [List.map_map]
              rfl
            rw [e4.len, List.take_length, hnl, hnum] at hd11
            have hnn : (List.range (top + 1 - e)).length = (top - e) + 1 := by
              rw [List.length_range]
              omega
            have hfirst : ((List.range (top + 1 - e)).map fun i => top - i)[0]? = some top := by
              rw [List.getElem?_map, List.getElem?_range (by omega)]
              rfl
            have hlastN : ((List.range (top + 1 - e)).map fun i => top - i) = ((List.range (top - e)).map fun i => top - i) ++ [e] := by
              rw [show top + 1 - e = (top - e) + 1 by omega, List.range_succ, List.map_append]
              congr 1
              show [top - (top - e)] = [e]
              rw [show top - (top - e) = e by omega]
            have hne : (((List.range (top + 1 - e)).map fun i => top - i).map fun n : Nat => (n : Int)) ≠ [] := by
              rw [hlastN]
              simp
            have top9 : top < 2 ^ 40 := by
              have hall : top ∈ nums sz (races l.length sz) f l (races l.length sz) z := by
                rw [hnum]
                exact List.mem_of_getElem? hfirst
              unfold nums at hall
              obtain ⟨dd, h1, h2⟩ := List.mem_map.mp hall
              have h3 := deeds_lt sz (races l.length sz) f l (races l.length sz) z (Nat.le_refl _) dd h1
              omega
            have hlenN : (top - e) + 1 ≤ 100 := by
              have : (nums sz (races l.length sz) f l (races l.length sz) z).length ≤ 100 := by
                unfold nums
                rw [List.length_map]
                omega
              rw [hnum, List.length_map, hnn] at this
              exact this
            refine ⟨.ref L, rfl, Nat.zero_le _, fun b nb => eq_ints (ys := []) (SqL.of (same_upd nb _ _ hd11)) (SqL.of upd_same) ⟨_, rfl, ?_⟩⟩
            rw [decide_eq_false hne]
            refine iteF ?_
            have sb := same_upd (o := .lst []) nb
            have hdb := sb _ _ hd11
            refine ⟨.ref L, rfl, .ref L, rfl, L, _, 0, _, rfl, rfl, SqL.of hdb, atI_nat (j := 0) (numL_get hfirst), .ref L, rfl, 1, rfl, L, _, -1, .int (e : Nat), rfl, rfl, SqL.of hdb, ?_, _, _, rfl, rfl, 1, rfl, _, _, rfl, ⟨by omega, by omega, by omega, by omega, by omega⟩, fun b2 nb2 => ?_⟩
            · rw [hlastN, List.map_append, List.map_append]
              exact atI_last _ _
            have sb2 := same_upd (o := .lst (downV (top : Int) ((e : Int) - 1))) nb2
            refine ne_ints (xs := (((List.range (top + 1 - e)).map fun i => top - i).map fun n : Nat => (n : Int))) (ys := (List.range ((top : Int) - ((e : Int) - 1)).toNat).map fun k => (top : Int) - (k : Nat)) (SqL.of (sb2 _ _ hdb)) ?_ ⟨_, rfl, ?_⟩
            · rw [← downV_ints]
              exact SqL.of upd_same
            · have heq : (((List.range (top + 1 - e)).map fun i => top - i).map fun n : Nat => (n : Int)) = (List.range ((top : Int) - ((e : Int) - 1)).toNat).map fun k => (top : Int) - (k : Nat) := by
                rw [show ((top : Int) - ((e : Int) - 1)).toNat = top + 1 - e by omega, List.map_map]
                refine List.map_congr_left fun k hk => ?_
                have := List.mem_range.mp hk
                show ((top - k : Nat) : Int) = (top : Int) - (k : Nat)
                omega
              refine iteNS heq ?_
              exact ⟨_, _, _, _, _, _, _, _, _, rfl, ((s10.trans s11).trans sb).trans sb2⟩
        · rintro σ H10 ⟨v4, v6, v7, v11, v12, v13, v14, v15, v16, rfl, s10⟩
          -- the walk
          have htr10 := htr7.same s10
          have hta10 := sameT s10 hta7
          have hmn := races_le (n := l.length) hs1 (by omega)
          refine ⟨.ref tr, rfl, .ref ta, rfl, .ref tr, rfl, tr, _, rfl, .inr htr10.t, ta, l.length, sz, r, ?_, hta10, hs1, hs8, ?_⟩
          · rw [List.length_map]
            rfl
          refine ⟨_, rfl, by omega, by omega, by omega, by omega, ?_⟩
          rw [show ((((races l.length sz : Nat) : Int) - 0).toNat) = races l.length sz by omega]
          refine for_rangeC (fun i σ H11 => ∃ (wk : Addr) (v4 v6 v7 v11 v12 v13 v15 v16 : Option V), σ = [some (.ref a), some (.ref d), some (.ref ta), some (.ref tr), v4, some (.ref td), v6, v7, some (.ref qk), some (.str "row"), some (.ref told), v11, v12, v13, some (.ref wk), v15, v16] ∧ Same H7 H11 ∧ RowF H11 wk (rowsAt sz (races l.length sz) f l i))
            ⟨tr, _, _, _, _, _, _, _, _, rfl, s10, htr10⟩ ?_ ?_
          · rintro i σ H11 hi ⟨wk, v4, v6, v7, v11, v12, v13, v15, v16, rfl, s11, hwk⟩
            rw [show (0 + ((races l.length sz : Nat) : Int) - 1 + (i : Nat) * (-1) : Int) = ((races l.length sz - 1 - i : Nat) : Int) by omega]
            refine ⟨.ref ta, rfl, .ref wk, rfl, .ref qk, rfl, _, rfl, ta, wk, qk, sz, r, i, f, l, rfl, sameT s11 hta7, hD, hi, hwk, (sameTT s11).keptV hk7, hN.pl, fun H12 t s12 ht => ?_⟩
            refine ⟨_, rfl, rfl, _, rfl, iteF ?_⟩
            exact ⟨t, _, _, _, _, _, _, _, _, rfl, s11.trans s12, ht⟩
          · rintro σ H11 ⟨wk, v4, v6, v7, v11, v12, v13, v15, v16, rfl, s11, hwk⟩
            have hto := htold.same s11
            have hperm := rows_perm hD (races l.length sz) (Nat.le_refl _)
            have hpl' : ∀ y ∈ rowsAt sz (races l.length sz) f l (races l.length sz), Plain y := fun y hy => hN.pl y (hperm.mem_iff.mp hy)
            have hchar : ∀ y ∈ rowsAt sz (races l.length sz) f l (races l.length sz), ∀ c ∈ y.cps.toList, c < 16 ^ 8 := fun y hy c hc => Nat.lt_trans ((hpl' y hy).2 c hc) (by decide)
            have hcost : fmtCost (rowsAt sz (races l.length sz) f l (races l.length sz)) + 7 ≤ sizeLine := by
              have := fmt_le hpl'
              have h2 := hperm.length_eq
              exact lez (by omega)
            refine ⟨.ref wk, rfl, wk, _, rfl, hwk.t, hchar, hcost, .ref told, rfl, told, _, rfl, hto.t, hchar, hcost, rfl, _, rfl, iteNS rfl ?_⟩
            exact ⟨.ref told, rfl, told, rowsAt sz (races l.length sz) f l (races l.length sz), _, _, _, _, _, _, _, _, _, _, _, _, _, rfl, hd7.same s11, sameT s11 hta7, hto, hperm.nodup_iff.mpr hN.nd, hperm.length_eq.trans hln, hpl'⟩
    · rintro σ H4 ⟨tr, l, v4, v5, v6, v7, v8, v9, v10, v11, v12, v13, v14, v15, v16, rfl, hd4, hta, htr, hN⟩
      exact q H4
end
end TBW
namespace TBW
open PySem PySem.Spec PyProof.Rows L2 TBR
/-! ### what the top has written; the law's own head -/
theorem all_mk {l : PySem.W.OpenLaw} {w : World} {K : PySem.W.Frag} {h : Heap} {mg : Str → Option Value} {fa : Addr} (X : K.In h) (G : h.Ns mainGlobals mg) (hfa : mg "law" = some (.ref fa))
    {f1 f2 f3 f4 f5 f6 f7 f8 f9 f10 f11 f12 f13 f14 f15 f16 f17 f18 f19 f20 f21 f22 f23 f24 f25 f26 f27 f28 f29 f30 f31 f32 f33 f34 : Addr}
    {od1 an1 od2 an2 od3 an3 od4 an4 od5 an5 od6 an6 od7 an7 od8 an8 od9 an9 od10 an10 od11 an11 od12 an12 od13 an13 od14 an14 od15 an15 od16 an16 od17 an17 od18 an18 od19 an19 od20 an20 od21 an21 od22 an22 od23 an23 od24 an24 od25 an25 od26 an26 od27 an27 od28 an28 od29 an29 od30 an30 od31 an31 od32 an32 od33 an33 od34 an34 : Option Addr}
    {sl1 sl2 sl3 sl4 sl5 sl6 sl7 sl8 sl9 sl10 sl11 sl12 sl13 sl14 sl15 sl16 sl17 sl18 sl19 sl20 sl21 sl22 sl23 sl24 sl25 sl26 sl27 sl28 sl29 sl30 sl31 sl32 sl33 sl34 : Array (Option Value)}
    {oc1 kV1 dc1 pm1 cd1 ct1 oc2 kV2 dc2 pm2 cd2 ct2 oc3 kV3 dc3 pm3 cd3 ct3 oc4 kV4 dc4 pm4 cd4 ct4 oc5 kV5 dc5 pm5 cd5 ct5 oc6 kV6 dc6 pm6 cd6 ct6 oc7 kV7 dc7 pm7 cd7 ct7 oc8 kV8 dc8 pm8 cd8 ct8 oc9 kV9 dc9 pm9 cd9 ct9 oc10 kV10 dc10 pm10 cd10 ct10 oc11 kV11 dc11 pm11 cd11 ct11 oc12 kV12 dc12 pm12 cd12 ct12 oc13 kV13 dc13 pm13 cd13 ct13 oc14 kV14 dc14 pm14 cd14 ct14 oc15 kV15 dc15 pm15 cd15 ct15 oc16 kV16 dc16 pm16 cd16 ct16 oc17 kV17 dc17 pm17 cd17 ct17 oc18 kV18 dc18 pm18 cd18 ct18 oc19 kV19 dc19 pm19 cd19 ct19 oc20 kV20 dc20 pm20 cd20 ct20 oc21 kV21 dc21 pm21 cd21 ct21 oc22 kV22 dc22 pm22 cd22 ct22 oc23 kV23 dc23 pm23 cd23 ct23 oc24 kV24 dc24 pm24 cd24 ct24 oc25 kV25 dc25 pm25 cd25 ct25 oc26 kV26 dc26 pm26 cd26 ct26 oc27 kV27 dc27 pm27 cd27 ct27 oc28 kV28 dc28 pm28 cd28 ct28 oc29 kV29 dc29 pm29 cd29 ct29 oc30 kV30 dc30 pm30 cd30 ct30 oc31 kV31 dc31 pm31 cd31 ct31 oc32 kV32 dc32 pm32 cd32 ct32 oc33 kV33 dc33 pm33 cd33 ct33 oc34 kV34 dc34 pm34 cd34 ct34 : Value}
    (a1 : PySem.W.nsIn K mainGlobals "races_of" = some (some (.ref f1))) (l1 : K.lookup f1 = some ⟨oc1, od1, .func (PySem.W.fnOf "races_of" "races_of" (defArgs s_races_of) (defBody s_races_of) (defScope s_races_of) .none kV1 dc1 pm1 an1 cd1 ct1), sl1⟩) (c1 : PySem.W.codeIn K cd1 "races_of" = true) (k1 : PySem.W.keepIn K (.ref f1) = true)
    (a2 : PySem.W.nsIn K mainGlobals "span" = some (some (.ref f2))) (l2 : K.lookup f2 = some ⟨oc2, od2, .func (PySem.W.fnOf "span" "span" (defArgs s_span) (defBody s_span) (defScope s_span) .none kV2 dc2 pm2 an2 cd2 ct2), sl2⟩) (c2 : PySem.W.codeIn K cd2 "span" = true) (k2 : PySem.W.keepIn K (.ref f2) = true)
    (a3 : PySem.W.nsIn K mainGlobals "exchanged" = some (some (.ref f3))) (l3 : K.lookup f3 = some ⟨oc3, od3, .func (PySem.W.fnOf "exchanged" "exchanged" (defArgs s_exchanged) (defBody s_exchanged) (defScope s_exchanged) .none kV3 dc3 pm3 an3 cd3 ct3), sl3⟩) (c3 : PySem.W.codeIn K cd3 "exchanged" = true) (k3 : PySem.W.keepIn K (.ref f3) = true)
    (a4 : PySem.W.nsIn K mainGlobals "boats_between" = some (some (.ref f4))) (l4 : K.lookup f4 = some ⟨oc4, od4, .func (PySem.W.fnOf "boats_between" "boats_between" (defArgs s_boats_between) (defBody s_boats_between) (defScope s_boats_between) .none kV4 dc4 pm4 an4 cd4 ct4), sl4⟩) (c4 : PySem.W.codeIn K cd4 "boats_between" = true) (k4 : PySem.W.keepIn K (.ref f4) = true)
    (a5 : PySem.W.nsIn K mainGlobals "goes_ahead" = some (some (.ref f5))) (l5 : K.lookup f5 = some ⟨oc5, od5, .func (PySem.W.fnOf "goes_ahead" "goes_ahead" (defArgs s_goes_ahead) (defBody s_goes_ahead) (defScope s_goes_ahead) .none kV5 dc5 pm5 an5 cd5 ct5), sl5⟩) (c5 : PySem.W.codeIn K cd5 "goes_ahead" = true) (k5 : PySem.W.keepIn K (.ref f5) = true)
    (a6 : PySem.W.nsIn K mainGlobals "touches_in" = some (some (.ref f6))) (l6 : K.lookup f6 = some ⟨oc6, od6, .func (PySem.W.fnOf "touches_in" "touches_in" (defArgs s_touches_in) (defBody s_touches_in) (defScope s_touches_in) .none kV6 dc6 pm6 an6 cd6 ct6), sl6⟩) (c6 : PySem.W.codeIn K cd6 "touches_in" = true) (k6 : PySem.W.keepIn K (.ref f6) = true)
    (a7 : PySem.W.nsIn K mainGlobals "row_behind" = some (some (.ref f7))) (l7 : K.lookup f7 = some ⟨oc7, od7, .func (PySem.W.fnOf "row_behind" "row_behind" (defArgs s_row_behind) (defBody s_row_behind) (defScope s_row_behind) .none kV7 dc7 pm7 an7 cd7 ct7), sl7⟩) (c7 : PySem.W.codeIn K cd7 "row_behind" = true) (k7 : PySem.W.keepIn K (.ref f7) = true)
    (a8 : PySem.W.nsIn K mainGlobals "strange_or_twice" = some (some (.ref f8))) (l8 : K.lookup f8 = some ⟨oc8, od8, .func (PySem.W.fnOf "strange_or_twice" "strange_or_twice" (defArgs s_strange_or_twice) (defBody s_strange_or_twice) (defScope s_strange_or_twice) .none kV8 dc8 pm8 an8 cd8 ct8), sl8⟩) (c8 : PySem.W.codeIn K cd8 "strange_or_twice" = true) (k8 : PySem.W.keepIn K (.ref f8) = true)
    (a9 : PySem.W.nsIn K mainGlobals "touch_fault" = some (some (.ref f9))) (l9 : K.lookup f9 = some ⟨oc9, od9, .func (PySem.W.fnOf "touch_fault" "touch_fault" (defArgs s_touch_fault) (defBody s_touch_fault) (defScope s_touch_fault) .none kV9 dc9 pm9 an9 cd9 ct9), sl9⟩) (c9 : PySem.W.codeIn K cd9 "touch_fault" = true) (k9 : PySem.W.keepIn K (.ref f9) = true)
    (a10 : PySem.W.nsIn K mainGlobals "is_crossed" = some (some (.ref f10))) (l10 : K.lookup f10 = some ⟨oc10, od10, .func (PySem.W.fnOf "is_crossed" "is_crossed" (defArgs s_is_crossed) (defBody s_is_crossed) (defScope s_is_crossed) .none kV10 dc10 pm10 an10 cd10 ct10), sl10⟩) (c10 : PySem.W.codeIn K cd10 "is_crossed" = true) (k10 : PySem.W.keepIn K (.ref f10) = true)
    (a11 : PySem.W.nsIn K mainGlobals "fault_of" = some (some (.ref f11))) (l11 : K.lookup f11 = some ⟨oc11, od11, .func (PySem.W.fnOf "fault_of" "fault_of" (defArgs s_fault_of) (defBody s_fault_of) (defScope s_fault_of) .none kV11 dc11 pm11 an11 cd11 ct11), sl11⟩) (c11 : PySem.W.codeIn K cd11 "fault_of" = true) (k11 : PySem.W.keepIn K (.ref f11) = true)
    (a12 : PySem.W.nsIn K mainGlobals "length_of" = some (some (.ref f12))) (l12 : K.lookup f12 = some ⟨oc12, od12, .func (PySem.W.fnOf "length_of" "length_of" (defArgs s_length_of) (defBody s_length_of) (defScope s_length_of) .none kV12 dc12 pm12 an12 cd12 ct12), sl12⟩) (c12 : PySem.W.codeIn K cd12 "length_of" = true) (k12 : PySem.W.keepIn K (.ref f12) = true)
    (a13 : PySem.W.nsIn K mainGlobals "order_of" = some (some (.ref f13))) (l13 : K.lookup f13 = some ⟨oc13, od13, .func (PySem.W.fnOf "order_of" "order_of" (defArgs s_order_of) (defBody s_order_of) (defScope s_order_of) .none kV13 dc13 pm13 an13 cd13 ct13), sl13⟩) (c13 : PySem.W.codeIn K cd13 "order_of" = true) (k13 : PySem.W.keepIn K (.ref f13) = true)
    (a14 : PySem.W.nsIn K mainGlobals "start_on" = some (some (.ref f14))) (l14 : K.lookup f14 = some ⟨oc14, od14, .func (PySem.W.fnOf "start_on" "start_on" (defArgs s_start_on) (defBody s_start_on) (defScope s_start_on) .none kV14 dc14 pm14 an14 cd14 ct14), sl14⟩) (c14 : PySem.W.codeIn K cd14 "start_on" = true) (k14 : PySem.W.keepIn K (.ref f14) = true)
    (a15 : PySem.W.nsIn K mainGlobals "laid_on" = some (some (.ref f15))) (l15 : K.lookup f15 = some ⟨oc15, od15, .func (PySem.W.fnOf "laid_on" "laid_on" (defArgs s_laid_on) (defBody s_laid_on) (defScope s_laid_on) .none kV15 dc15 pm15 an15 cd15 ct15), sl15⟩) (c15 : PySem.W.codeIn K cd15 "laid_on" = true) (k15 : PySem.W.keepIn K (.ref f15) = true)
    (a16 : PySem.W.nsIn K mainGlobals "races_going" = some (some (.ref f16))) (l16 : K.lookup f16 = some ⟨oc16, od16, .func (PySem.W.fnOf "races_going" "races_going" (defArgs s_races_going) (defBody s_races_going) (defScope s_races_going) .none kV16 dc16 pm16 an16 cd16 ct16), sl16⟩) (c16 : PySem.W.codeIn K cd16 "races_going" = true) (k16 : PySem.W.keepIn K (.ref f16) = true)
    (a17 : PySem.W.nsIn K mainGlobals "day_behind" = some (some (.ref f17))) (l17 : K.lookup f17 = some ⟨oc17, od17, .func (PySem.W.fnOf "day_behind" "day_behind" (defArgs s_day_behind) (defBody s_day_behind) (defScope s_day_behind) .none kV17 dc17 pm17 an17 cd17 ct17), sl17⟩) (c17 : PySem.W.codeIn K cd17 "day_behind" = true) (k17 : PySem.W.keepIn K (.ref f17) = true)
    (a18 : PySem.W.nsIn K mainGlobals "starts_of" = some (some (.ref f18))) (l18 : K.lookup f18 = some ⟨oc18, od18, .func (PySem.W.fnOf "starts_of" "starts_of" (defArgs s_starts_of) (defBody s_starts_of) (defScope s_starts_of) .none kV18 dc18 pm18 an18 cd18 ct18), sl18⟩) (c18 : PySem.W.codeIn K cd18 "starts_of" = true) (k18 : PySem.W.keepIn K (.ref f18) = true)
    (a19 : PySem.W.nsIn K mainGlobals "marks_of" = some (some (.ref f19))) (l19 : K.lookup f19 = some ⟨oc19, od19, .func (PySem.W.fnOf "marks_of" "marks_of" (defArgs s_marks_of) (defBody s_marks_of) (defScope s_marks_of) .none kV19 dc19 pm19 an19 cd19 ct19), sl19⟩) (c19 : PySem.W.codeIn K cd19 "marks_of" = true) (k19 : PySem.W.keepIn K (.ref f19) = true)
    (a20 : PySem.W.nsIn K mainGlobals "partners_of" = some (some (.ref f20))) (l20 : K.lookup f20 = some ⟨oc20, od20, .func (PySem.W.fnOf "partners_of" "partners_of" (defArgs s_partners_of) (defBody s_partners_of) (defScope s_partners_of) .none kV20 dc20 pm20 an20 cd20 ct20), sl20⟩) (c20 : PySem.W.codeIn K cd20 "partners_of" = true) (k20 : PySem.W.keepIn K (.ref f20) = true)
    (a21 : PySem.W.nsIn K mainGlobals "deeds_of" = some (some (.ref f21))) (l21 : K.lookup f21 = some ⟨oc21, od21, .func (PySem.W.fnOf "deeds_of" "deeds_of" (defArgs s_deeds_of) (defBody s_deeds_of) (defScope s_deeds_of) .none kV21 dc21 pm21 an21 cd21 ct21), sl21⟩) (c21 : PySem.W.codeIn K cd21 "deeds_of" = true) (k21 : PySem.W.keepIn K (.ref f21) = true)
    (a22 : PySem.W.nsIn K mainGlobals "_law_begin" = some (some (.ref f22))) (l22 : K.lookup f22 = some ⟨oc22, od22, .func (PySem.W.fnOf "_law_begin" "_law_begin" (defArgs s_law_begin) (defBody s_law_begin) (defScope s_law_begin) .none kV22 dc22 pm22 an22 cd22 ct22), sl22⟩) (c22 : PySem.W.codeIn K cd22 "_law_begin" = true) (k22 : PySem.W.keepIn K (.ref f22) = true)
    (a23 : PySem.W.nsIn K mainGlobals "_law_next" = some (some (.ref f23))) (l23 : K.lookup f23 = some ⟨oc23, od23, .func (PySem.W.fnOf "_law_next" "_law_next" (defArgs s_law_next) (defBody s_law_next) (defScope s_law_next) .none kV23 dc23 pm23 an23 cd23 ct23), sl23⟩) (c23 : PySem.W.codeIn K cd23 "_law_next" = true) (k23 : PySem.W.keepIn K (.ref f23) = true)
    (a24 : PySem.W.nsIn K mainGlobals "_law_names" = some (some (.ref f24))) (l24 : K.lookup f24 = some ⟨oc24, od24, .func (PySem.W.fnOf "_law_names" "_law_names" (defArgs s_law_names) (defBody s_law_names) (defScope s_law_names) .none kV24 dc24 pm24 an24 cd24 ct24), sl24⟩) (c24 : PySem.W.codeIn K cd24 "_law_names" = true) (k24 : PySem.W.keepIn K (.ref f24) = true)
    (a25 : PySem.W.nsIn K mainGlobals "_law_span" = some (some (.ref f25))) (l25 : K.lookup f25 = some ⟨oc25, od25, .func (PySem.W.fnOf "_law_span" "_law_span" (defArgs s_law_span) (defBody s_law_span) (defScope s_law_span) .none kV25 dc25 pm25 an25 cd25 ct25), sl25⟩) (c25 : PySem.W.codeIn K cd25 "_law_span" = true) (k25 : PySem.W.keepIn K (.ref f25) = true)
    (a26 : PySem.W.nsIn K mainGlobals "_law_races" = some (some (.ref f26))) (l26 : K.lookup f26 = some ⟨oc26, od26, .func (PySem.W.fnOf "_law_races" "_law_races" (defArgs s_law_races) (defBody s_law_races) (defScope s_law_races) .none kV26 dc26 pm26 an26 cd26 ct26), sl26⟩) (c26 : PySem.W.codeIn K cd26 "_law_races" = true) (k26 : PySem.W.keepIn K (.ref f26) = true)
    (a27 : PySem.W.nsIn K mainGlobals "_law_word" = some (some (.ref f27))) (l27 : K.lookup f27 = some ⟨oc27, od27, .func (PySem.W.fnOf "_law_word" "_law_word" (defArgs s_law_word) (defBody s_law_word) (defScope s_law_word) .none kV27 dc27 pm27 an27 cd27 ct27), sl27⟩) (c27 : PySem.W.codeIn K cd27 "_law_word" = true) (k27 : PySem.W.keepIn K (.ref f27) = true)
    (a28 : PySem.W.nsIn K mainGlobals "_law_sheet" = some (some (.ref f28))) (l28 : K.lookup f28 = some ⟨oc28, od28, .func (PySem.W.fnOf "_law_sheet" "_law_sheet" (defArgs s_law_sheet) (defBody s_law_sheet) (defScope s_law_sheet) .none kV28 dc28 pm28 an28 cd28 ct28), sl28⟩) (c28 : PySem.W.codeIn K cd28 "_law_sheet" = true) (k28 : PySem.W.keepIn K (.ref f28) = true)
    (a29 : PySem.W.nsIn K mainGlobals "_law_after" = some (some (.ref f29))) (l29 : K.lookup f29 = some ⟨oc29, od29, .func (PySem.W.fnOf "_law_after" "_law_after" (defArgs s_law_after) (defBody s_law_after) (defScope s_law_after) .none kV29 dc29 pm29 an29 cd29 ct29), sl29⟩) (c29 : PySem.W.codeIn K cd29 "_law_after" = true) (k29 : PySem.W.keepIn K (.ref f29) = true)
    (a30 : PySem.W.nsIn K mainGlobals "_law_day" = some (some (.ref f30))) (l30 : K.lookup f30 = some ⟨oc30, od30, .func (PySem.W.fnOf "_law_day" "_law_day" (defArgs s_law_day) (defBody s_law_day) (defScope s_law_day) .none kV30 dc30 pm30 an30 cd30 ct30), sl30⟩) (c30 : PySem.W.codeIn K cd30 "_law_day" = true) (k30 : PySem.W.keepIn K (.ref f30) = true)
    (a31 : PySem.W.nsIn K mainGlobals "_law_meet" = some (some (.ref f31))) (l31 : K.lookup f31 = some ⟨oc31, od31, .func (PySem.W.fnOf "_law_meet" "_law_meet" (defArgs s_law_meet) (defBody s_law_meet) (defScope s_law_meet) .none kV31 dc31 pm31 an31 cd31 ct31), sl31⟩) (c31 : PySem.W.codeIn K cd31 "_law_meet" = true) (k31 : PySem.W.keepIn K (.ref f31) = true)
    (a32 : PySem.W.nsIn K mainGlobals "_law_marks_right" = some (some (.ref f32))) (l32 : K.lookup f32 = some ⟨oc32, od32, .func (PySem.W.fnOf "_law_marks_right" "_law_marks_right" (defArgs s_law_marks_right) (defBody s_law_marks_right) (defScope s_law_marks_right) .none kV32 dc32 pm32 an32 cd32 ct32), sl32⟩) (c32 : PySem.W.codeIn K cd32 "_law_marks_right" = true) (k32 : PySem.W.keepIn K (.ref f32) = true)
    (a33 : PySem.W.nsIn K mainGlobals "_law_race" = some (some (.ref f33))) (l33 : K.lookup f33 = some ⟨oc33, od33, .func (PySem.W.fnOf "_law_race" "_law_race" (defArgs s_law_race) (defBody s_law_race) (defScope s_law_race) .none kV33 dc33 pm33 an33 cd33 ct33), sl33⟩) (c33 : PySem.W.codeIn K cd33 "_law_race" = true) (k33 : PySem.W.keepIn K (.ref f33) = true)
    (a34 : PySem.W.nsIn K mainGlobals "law" = some (some (.ref f34))) (l34 : K.lookup f34 = some ⟨oc34, od34, .func (PySem.W.fnOf "law" "law" (defArgs s_law) (defBody s_law) (defScope s_law) .none kV34 dc34 pm34 an34 cd34 ct34), sl34⟩) (c34 : PySem.W.codeIn K cd34 "law" = true) (k34 : PySem.W.keepIn K (.ref f34) = true)
    (z0 : PySem.W.nsIn K mainGlobals "len" = some none) (z1 : PySem.W.nsIn K mainGlobals "min" = some none) (z2 : PySem.W.nsIn K mainGlobals "max" = some none) (z3 : PySem.W.nsIn K mainGlobals "abs" = some none) (z4 : PySem.W.nsIn K mainGlobals "int" = some none) (z5 : PySem.W.nsIn K mainGlobals "list" = some none) (z6 : PySem.W.nsIn K mainGlobals "tuple" = some none) (z7 : PySem.W.nsIn K mainGlobals "dict" = some none) (z8 : PySem.W.nsIn K mainGlobals "range" = some none) (z9 : PySem.W.nsIn K mainGlobals "sorted" = some none) (z10 : PySem.W.nsIn K mainGlobals "any" = some none) (z11 : PySem.W.nsIn K mainGlobals "repr" = some none) (z12 : PySem.W.nsIn K mainGlobals "zip" = some none) (z13 : PySem.W.nsIn K mainGlobals "enumerate" = some none) (z14 : PySem.W.nsIn K mainGlobals "reversed" = some none) :
    ∃ fd : FuncData, (∀ (s : Shared) (v : Value), BindsTo s fd ⟨[v], []⟩ [("_law_script", v)]) ∧ ∀ base : Heap, K.In base → base.Ns mainGlobals mg → RunAt l.prog w K mg base fa fd ["_law_script"] (spLaw K) := by
  have e := hfa.symm.trans (PySem.W.mg_of X G a34)
  cases e
  have T : Blt mg := ⟨PySem.W.mg_none_of X G z0, PySem.W.mg_none_of X G z1, PySem.W.mg_none_of X G z2, PySem.W.mg_none_of X G z3, PySem.W.mg_none_of X G z4, PySem.W.mg_none_of X G z5, PySem.W.mg_none_of X G z6, PySem.W.mg_none_of X G z7, PySem.W.mg_none_of X G z8, PySem.W.mg_none_of X G z9, PySem.W.mg_none_of X G z10, PySem.W.mg_none_of X G z11, PySem.W.mg_none_of X G z12, PySem.W.mg_none_of X G z13, PySem.W.mg_none_of X G z14⟩
  have FL := fun_mk (st := s_law) l34 c34 k34
  refine ⟨PySem.W.fnOf "law" "law" (defArgs s_law) (defBody s_law) (defScope s_law) .none kV34 dc34 pm34 an34 cd34 ct34, fun s v => .of_eq rfl, fun base _ _ => ?_⟩
  have c_law_begin : Cal l.prog w K mg base 1 "_law_begin" ["_law_script"] (spBegin K) := Df.cal (st := s_law_begin) ⟨⟨f22, _, fun_mk (st := s_law_begin) l22 c22 k22, PySem.W.mg_of X G a22⟩⟩ (fun _ _ _ _ _ _ us hl => match us, hl with | [_], _ => rfl) (fun f fd F => ok_law_begin F T )
  have c_law_next : Cal l.prog w K mg base 1 "_law_next" ["_law_draws", "_law_many"] (spNext K) := Df.cal (st := s_law_next) ⟨⟨f23, _, fun_mk (st := s_law_next) l23 c23 k23, PySem.W.mg_of X G a23⟩⟩ (fun _ _ _ _ _ _ us hl => match us, hl with | [_, _], _ => rfl) (fun f fd F => ok_law_next F T )
  have c_law_names : Cal l.prog w K mg base 2 "_law_names" ["_law_draws", "_law_many"] (spNames K) := Df.cal (st := s_law_names) ⟨⟨f24, _, fun_mk (st := s_law_names) l24 c24 k24, PySem.W.mg_of X G a24⟩⟩ (fun _ _ _ _ _ _ us hl => match us, hl with | [_, _], _ => rfl) (fun f fd F => ok_law_names F T c_law_next)
  have c_law_meet : Cal l.prog w K mg base 3 "_law_meet" ["_law_draws", "_law_most"] (spMeet K) := Df.cal (st := s_law_meet) ⟨⟨f31, _, fun_mk (st := s_law_meet) l31 c31 k31, PySem.W.mg_of X G a31⟩⟩ (fun _ _ _ _ _ _ us hl => match us, hl with | [_, _], _ => rfl) (fun f fd F => ok_law_meet F T c_law_next c_law_names)
  have c_law_races : Cal l.prog w K mg base 1 "_law_races" ["_law_meeting", "_law_n"] (spRaces K) := Df.cal (st := s_law_races) ⟨⟨f26, _, fun_mk (st := s_law_races) l26 c26 k26, PySem.W.mg_of X G a26⟩⟩ (fun _ _ _ _ _ _ us hl => match us, hl with | [_, _], _ => rfl) (fun f fd F => ok_law_races F T )
  have c_law_span : Cal l.prog w K mg base 1 "_law_span" ["_law_meeting", "_law_n", "_law_k"] (spSpan K) := Df.cal (st := s_law_span) ⟨⟨f25, _, fun_mk (st := s_law_span) l25 c25 k25, PySem.W.mg_of X G a25⟩⟩ (fun _ _ _ _ _ _ us hl => match us, hl with | [_, _, _], _ => rfl) (fun f fd F => ok_law_span F T )
  have c_law_sheet : Cal l.prog w K mg base 1 "_law_sheet" ["_law_start", "_law_marks"] (spSheet K) := Df.cal (st := s_law_sheet) ⟨⟨f28, _, fun_mk (st := s_law_sheet) l28 c28 k28, PySem.W.mg_of X G a28⟩⟩ (fun _ _ _ _ _ _ us hl => match us, hl with | [_, _], _ => rfl) (fun f fd F => ok_law_sheet F T )
  have c_law_word : Cal l.prog w K mg base 2 "_law_word" ["_law_draws", "_law_many", "_law_reach"] (spWord K) := Df.cal (st := s_law_word) ⟨⟨f27, _, fun_mk (st := s_law_word) l27 c27 k27, PySem.W.mg_of X G a27⟩⟩ (fun _ _ _ _ _ _ us hl => match us, hl with | [_, _, _], _ => rfl) (fun f fd F => ok_law_word F T c_law_next)
  have c_law_after : Cal l.prog w K mg base 1 "_law_after" ["_law_start", "_law_sheet_here"] (spBehind K) := Df.cal (st := s_law_after) ⟨⟨f29, _, fun_mk (st := s_law_after) l29 c29 k29, PySem.W.mg_of X G a29⟩⟩ (fun _ _ _ _ _ _ us hl => match us, hl with | [_, _], _ => rfl) (fun f fd F => ok_law_after F T )
  have c_law_day : Cal l.prog w K mg base 3 "_law_day" ["_law_draws", "_law_meeting", "_law_row"] (spDay K) := Df.cal (st := s_law_day) ⟨⟨f30, _, fun_mk (st := s_law_day) l30 c30 k30, PySem.W.mg_of X G a30⟩⟩ (fun _ _ _ _ _ _ us hl => match us, hl with | [_, _, _], _ => rfl) (fun f fd F => ok_law_day F T c_law_races c_law_span c_law_sheet c_law_word c_law_after)
  have c_races_of : Cal l.prog w K mg base 1 "races_of" ["meeting", "n"] (spRaces K) := Df.cal (st := s_races_of) ⟨⟨f1, _, fun_mk (st := s_races_of) l1 c1 k1, PySem.W.mg_of X G a1⟩⟩ (fun _ _ _ _ _ _ us hl => match us, hl with | [_, _], _ => rfl) (fun f fd F => ok_races_of F T )
  have c_races_going : Cal l.prog w K mg base 2 "races_going" ["meeting", "row"] (spGoing K) := Df.cal (st := s_races_going) ⟨⟨f16, _, fun_mk (st := s_races_going) l16 c16 k16, PySem.W.mg_of X G a16⟩⟩ (fun _ _ _ _ _ _ us hl => match us, hl with | [_, _], _ => rfl) (fun f fd F => ok_races_going F T c_races_of)
  have c_span : Cal l.prog w K mg base 1 "span" ["meeting", "n", "k"] (spSpan K) := Df.cal (st := s_span) ⟨⟨f2, _, fun_mk (st := s_span) l2 c2 k2, PySem.W.mg_of X G a2⟩⟩ (fun _ _ _ _ _ _ us hl => match us, hl with | [_, _, _], _ => rfl) (fun f fd F => ok_span F T )
  have c_start_on : Cal l.prog w K mg base 2 "start_on" ["meeting", "row", "k"] (spStartOn K) := Df.cal (st := s_start_on) ⟨⟨f14, _, fun_mk (st := s_start_on) l14 c14 k14, PySem.W.mg_of X G a14⟩⟩ (fun _ _ _ _ _ _ us hl => match us, hl with | [_, _, _], _ => rfl) (fun f fd F => ok_start_on F T c_span)
  have c_laid_on : Cal l.prog w K mg base 2 "laid_on" ["meeting", "row", "k", "some"] (spLaidOn K) := Df.cal (st := s_laid_on) ⟨⟨f15, _, fun_mk (st := s_laid_on) l15 c15 k15, PySem.W.mg_of X G a15⟩⟩ (fun _ _ _ _ _ _ us hl => match us, hl with | [_, _, _, _], _ => rfl) (fun f fd F => ok_laid_on F T c_span)
  have c_touches_in : Cal l.prog w K mg base 1 "touches_in" ["sheet"] (spTouches K) := Df.cal (st := s_touches_in) ⟨⟨f6, _, fun_mk (st := s_touches_in) l6 c6 k6, PySem.W.mg_of X G a6⟩⟩ (fun _ _ _ _ _ _ us hl => match us, hl with | [_], _ => rfl) (fun f fd F => ok_touches_in F T )
  have c_exchanged : Cal l.prog w K mg base 1 "exchanged" ["row", "one", "other"] (spExch K) := Df.cal (st := s_exchanged) ⟨⟨f3, _, fun_mk (st := s_exchanged) l3 c3 k3, PySem.W.mg_of X G a3⟩⟩ (fun _ _ _ _ _ _ us hl => match us, hl with | [_, _, _], _ => rfl) (fun f fd F => ok_exchanged F T )
  have c_row_behind : Cal l.prog w K mg base 2 "row_behind" ["start", "sheet"] (spBehind K) := Df.cal (st := s_row_behind) ⟨⟨f7, _, fun_mk (st := s_row_behind) l7 c7 k7, PySem.W.mg_of X G a7⟩⟩ (fun _ _ _ _ _ _ us hl => match us, hl with | [_, _], _ => rfl) (fun f fd F => ok_row_behind F T c_touches_in c_exchanged)
  have c_starts_of : Cal l.prog w K mg base 3 "starts_of" ["meeting", "row", "day"] (spStarts K) := Df.cal (st := s_starts_of) ⟨⟨f18, _, fun_mk (st := s_starts_of) l18 c18 k18, PySem.W.mg_of X G a18⟩⟩ (fun _ _ _ _ _ _ us hl => match us, hl with | [_, _, _], _ => rfl) (fun f fd F => ok_starts_of F T c_races_going c_start_on c_laid_on c_row_behind)
  have c_partners_of : Cal l.prog w K mg base 1 "partners_of" ["sheet"] (spPartners K) := Df.cal (st := s_partners_of) ⟨⟨f20, _, fun_mk (st := s_partners_of) l20 c20 k20, PySem.W.mg_of X G a20⟩⟩ (fun _ _ _ _ _ _ us hl => match us, hl with | [_], _ => rfl) (fun f fd F => ok_partners_of F T )
  have c_marks_of : Cal l.prog w K mg base 1 "marks_of" ["start", "sheet"] (spMarks K) := Df.cal (st := s_marks_of) ⟨⟨f19, _, fun_mk (st := s_marks_of) l19 c19 k19, PySem.W.mg_of X G a19⟩⟩ (fun _ _ _ _ _ _ us hl => match us, hl with | [_, _], _ => rfl) (fun f fd F => ok_marks_of F T )
  have c_deeds_of : Cal l.prog w K mg base 4 "deeds_of" ["meeting", "row", "day"] (spDeeds K) := Df.cal (st := s_deeds_of) ⟨⟨f21, _, fun_mk (st := s_deeds_of) l21 c21 k21, PySem.W.mg_of X G a21⟩⟩ (fun _ _ _ _ _ _ us hl => match us, hl with | [_, _, _], _ => rfl) (fun f fd F => ok_deeds_of F T c_starts_of c_races_going c_partners_of c_marks_of)
  have c_strange_or_twice : Cal l.prog w K mg base 1 "strange_or_twice" ["start", "sheet"] (spStrange K) := Df.cal (st := s_strange_or_twice) ⟨⟨f8, _, fun_mk (st := s_strange_or_twice) l8 c8 k8, PySem.W.mg_of X G a8⟩⟩ (fun _ _ _ _ _ _ us hl => match us, hl with | [_, _], _ => rfl) (fun f fd F => ok_strange_or_twice F T )
  have c_goes_ahead : Cal l.prog w K mg base 1 "goes_ahead" ["start", "event"] (spAhead K) := Df.cal (st := s_goes_ahead) ⟨⟨f5, _, fun_mk (st := s_goes_ahead) l5 c5 k5, PySem.W.mg_of X G a5⟩⟩ (fun _ _ _ _ _ _ us hl => match us, hl with | [_, _], _ => rfl) (fun f fd F => ok_goes_ahead F T )
  have c_boats_between : Cal l.prog w K mg base 1 "boats_between" ["start", "event"] (spBetween K) := Df.cal (st := s_boats_between) ⟨⟨f4, _, fun_mk (st := s_boats_between) l4 c4 k4, PySem.W.mg_of X G a4⟩⟩ (fun _ _ _ _ _ _ us hl => match us, hl with | [_, _], _ => rfl) (fun f fd F => ok_boats_between F T )
  have c_touch_fault : Cal l.prog w K mg base 2 "touch_fault" ["start", "reach", "sheet", "event"] (spTouchFault K) := Df.cal (st := s_touch_fault) ⟨⟨f9, _, fun_mk (st := s_touch_fault) l9 c9 k9, PySem.W.mg_of X G a9⟩⟩ (fun _ _ _ _ _ _ us hl => match us, hl with | [_, _, _, _], _ => rfl) (fun f fd F => ok_touch_fault F T c_goes_ahead c_boats_between)
  have c_is_crossed : Cal l.prog w K mg base 2 "is_crossed" ["start", "one", "other"] (spCrossed K) := Df.cal (st := s_is_crossed) ⟨⟨f10, _, fun_mk (st := s_is_crossed) l10 c10 k10, PySem.W.mg_of X G a10⟩⟩ (fun _ _ _ _ _ _ us hl => match us, hl with | [_, _, _], _ => rfl) (fun f fd F => ok_is_crossed F T c_boats_between)
  have c_fault_of : Cal l.prog w K mg base 3 "fault_of" ["start", "reach", "sheet"] (spFault K) := Df.cal (st := s_fault_of) ⟨⟨f11, _, fun_mk (st := s_fault_of) l11 c11 k11, PySem.W.mg_of X G a11⟩⟩ (fun _ _ _ _ _ _ us hl => match us, hl with | [_, _, _], _ => rfl) (fun f fd F => ok_fault_of F T c_strange_or_twice c_touches_in c_touch_fault c_is_crossed)
  have c_length_of : Cal l.prog w K mg base 2 "length_of" ["start", "event"] (spLen K) := Df.cal (st := s_length_of) ⟨⟨f12, _, fun_mk (st := s_length_of) l12 c12 k12, PySem.W.mg_of X G a12⟩⟩ (fun _ _ _ _ _ _ us hl => match us, hl with | [_, _], _ => rfl) (fun f fd F => ok_length_of F T c_boats_between)
  have c_order_of : Cal l.prog w K mg base 4 "order_of" ["start", "reach", "sheet"] (spOrder K) := Df.cal (st := s_order_of) ⟨⟨f13, _, fun_mk (st := s_order_of) l13 c13 k13, PySem.W.mg_of X G a13⟩⟩ (fun _ _ _ _ _ _ us hl => match us, hl with | [_, _, _], _ => rfl) (fun f fd F => ok_order_of F T c_fault_of c_length_of)
  have c_day_behind : Cal l.prog w K mg base 5 "day_behind" ["meeting", "row", "day"] (spDayBehind K) := Df.cal (st := s_day_behind) ⟨⟨f17, _, fun_mk (st := s_day_behind) l17 c17 k17, PySem.W.mg_of X G a17⟩⟩ (fun _ _ _ _ _ _ us hl => match us, hl with | [_, _, _], _ => rfl) (fun f fd F => ok_day_behind F T c_races_of c_races_going c_start_on c_order_of c_laid_on c_row_behind)
  have c_law_marks_right : Cal l.prog w K mg base 1 "_law_marks_right" ["_law_start", "_law_marks", "_law_reach"] (spRight K) := Df.cal (st := s_law_marks_right) ⟨⟨f32, _, fun_mk (st := s_law_marks_right) l32 c32 k32, PySem.W.mg_of X G a32⟩⟩ (fun _ _ _ _ _ _ us hl => match us, hl with | [_, _, _], _ => rfl) (fun f fd F => ok_law_marks_right F T )
  have c_law_race : Cal l.prog w K mg base 2 "_law_race" ["_law_meeting", "_law_row", "_law_kept", "_law_k"] (spRace K) := Df.cal (st := s_law_race) ⟨⟨f33, _, fun_mk (st := s_law_race) l33 c33 k33, PySem.W.mg_of X G a33⟩⟩ (fun _ _ _ _ _ _ us hl => match us, hl with | [_, _, _, _], _ => rfl) (fun f fd F => ok_law_race F T c_law_span c_law_marks_right)
  exact ok_law FL T c_law_begin c_law_meet c_law_next c_law_day c_deeds_of c_day_behind c_law_races c_law_race
end TBW
open PySem PySem.W PyProof.Rows
set_option maxRecDepth 100000 in
set_option maxHeartbeats 0 in
theorem PySem.Challenge.cw_touchboats_k23_whole_deeds_tell_the_plac_holds : PySem.Challenge.rw_touchboats_k23_whole_deeds_tell_the_plac.Holds := by
  w_on; o_law; k_head; (case hw => w_witness2)
  k_fill
  refine TBR.walk_at (l := PySem.Challenge.rw_touchboats_k23_whole_deeds_tell_the_plac) (n := 63) (x := "_law_script") (sp := fun K => TBW.spLaw K) rfl (by decide) rfl (fun w h Y => PySem.W.kIn_of Y) ?F (fun _ _ a ns hl hS => ⟨a, ns, rfl, hS, hl, fun _ => rfl⟩)
  case F =>
    intro w mg fa h KX G hmg
    refine' TBW.all_mk KX G hmg ?a1 ?l1 ?c1 ?k1 ?a2 ?l2 ?c2 ?k2 ?a3 ?l3 ?c3 ?k3 ?a4 ?l4 ?c4 ?k4 ?a5 ?l5 ?c5 ?k5 ?a6 ?l6 ?c6 ?k6 ?a7 ?l7 ?c7 ?k7 ?a8 ?l8 ?c8 ?k8 ?a9 ?l9 ?c9 ?k9 ?a10 ?l10 ?c10 ?k10 ?a11 ?l11 ?c11 ?k11 ?a12 ?l12 ?c12 ?k12 ?a13 ?l13 ?c13 ?k13 ?a14 ?l14 ?c14 ?k14 ?a15 ?l15 ?c15 ?k15 ?a16 ?l16 ?c16 ?k16 ?a17 ?l17 ?c17 ?k17 ?a18 ?l18 ?c18 ?k18 ?a19 ?l19 ?c19 ?k19 ?a20 ?l20 ?c20 ?k20 ?a21 ?l21 ?c21 ?k21 ?a22 ?l22 ?c22 ?k22 ?a23 ?l23 ?c23 ?k23 ?a24 ?l24 ?c24 ?k24 ?a25 ?l25 ?c25 ?k25 ?a26 ?l26 ?c26 ?k26 ?a27 ?l27 ?c27 ?k27 ?a28 ?l28 ?c28 ?k28 ?a29 ?l29 ?c29 ?k29 ?a30 ?l30 ?c30 ?k30 ?a31 ?l31 ?c31 ?k31 ?a32 ?l32 ?c32 ?k32 ?a33 ?l33 ?c33 ?k33 ?a34 ?l34 ?c34 ?k34 ?z0 ?z1 ?z2 ?z3 ?z4 ?z5 ?z6 ?z7 ?z8 ?z9 ?z10 ?z11 ?z12 ?z13 ?z14
    (case a1 => k_is); (case l1 => k_is); (case c1 => k_is); (case k1 => k_is)
    (case a2 => k_is); (case l2 => k_is); (case c2 => k_is); (case k2 => k_is)
    (case a3 => k_is); (case l3 => k_is); (case c3 => k_is); (case k3 => k_is)
    (case a4 => k_is); (case l4 => k_is); (case c4 => k_is); (case k4 => k_is)
    (case a5 => k_is); (case l5 => k_is); (case c5 => k_is); (case k5 => k_is)
    (case a6 => k_is); (case l6 => k_is); (case c6 => k_is); (case k6 => k_is)
    (case a7 => k_is); (case l7 => k_is); (case c7 => k_is); (case k7 => k_is)
    (case a8 => k_is); (case l8 => k_is); (case c8 => k_is); (case k8 => k_is)
    (case a9 => k_is); (case l9 => k_is); (case c9 => k_is); (case k9 => k_is)
    (case a10 => k_is); (case l10 => k_is); (case c10 => k_is); (case k10 => k_is)
    (case a11 => k_is); (case l11 => k_is); (case c11 => k_is); (case k11 => k_is)
    (case a12 => k_is); (case l12 => k_is); (case c12 => k_is); (case k12 => k_is)
    (case a13 => k_is); (case l13 => k_is); (case c13 => k_is); (case k13 => k_is)
    (case a14 => k_is); (case l14 => k_is); (case c14 => k_is); (case k14 => k_is)
    (case a15 => k_is); (case l15 => k_is); (case c15 => k_is); (case k15 => k_is)
    (case a16 => k_is); (case l16 => k_is); (case c16 => k_is); (case k16 => k_is)
    (case a17 => k_is); (case l17 => k_is); (case c17 => k_is); (case k17 => k_is)
    (case a18 => k_is); (case l18 => k_is); (case c18 => k_is); (case k18 => k_is)
    (case a19 => k_is); (case l19 => k_is); (case c19 => k_is); (case k19 => k_is)
    (case a20 => k_is); (case l20 => k_is); (case c20 => k_is); (case k20 => k_is)
    (case a21 => k_is); (case l21 => k_is); (case c21 => k_is); (case k21 => k_is)
    (case a22 => k_is); (case l22 => k_is); (case c22 => k_is); (case k22 => k_is)
    (case a23 => k_is); (case l23 => k_is); (case c23 => k_is); (case k23 => k_is)
    (case a24 => k_is); (case l24 => k_is); (case c24 => k_is); (case k24 => k_is)
    (case a25 => k_is); (case l25 => k_is); (case c25 => k_is); (case k25 => k_is)
    (case a26 => k_is); (case l26 => k_is); (case c26 => k_is); (case k26 => k_is)
    (case a27 => k_is); (case l27 => k_is); (case c27 => k_is); (case k27 => k_is)
    (case a28 => k_is); (case l28 => k_is); (case c28 => k_is); (case k28 => k_is)
    (case a29 => k_is); (case l29 => k_is); (case c29 => k_is); (case k29 => k_is)
    (case a30 => k_is); (case l30 => k_is); (case c30 => k_is); (case k30 => k_is)
    (case a31 => k_is); (case l31 => k_is); (case c31 => k_is); (case k31 => k_is)
    (case a32 => k_is); (case l32 => k_is); (case c32 => k_is); (case k32 => k_is)
    (case a33 => k_is); (case l33 => k_is); (case c33 => k_is); (case k33 => k_is)
    (case a34 => k_is); (case l34 => k_is); (case c34 => k_is); (case k34 => k_is)
    (case z0 => k_is)
    (case z1 => k_is)
    (case z2 => k_is)
    (case z3 => k_is)
    (case z4 => k_is)
    (case z5 => k_is)
    (case z6 => k_is)
    (case z7 => k_is)
    (case z8 => k_is)
    (case z9 => k_is)
    (case z10 => k_is)
    (case z11 => k_is)
    (case z12 => k_is)
    (case z13 => k_is)
    (case z14 => k_is)
