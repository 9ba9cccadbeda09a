import PyProof.Rows.All
import Wide.All
import OpenK.AllK
import Wide.FinOn
import HandS.ForMost
import HandS.IsInst
import HandS.Style
import HandS.Flow
import HandS.Conv
import HandS.Zip
import HandS.Walk
import HandS.Codes
import KE.GoesEnum
import PySem.Challenge.RW_steadycraft_k18_whole_counts_by_the_word
set_option Elab.async false
set_option linter.all false
set_option maxRecDepth 100000
/-! DL: a layer over HandS in which values are plain data (immutable tuples, lists, scalars) and only lists that are changed stand in a store. -/
namespace DL
open PySem PySem.Spec L2

/-- a value as data; obj: an object known by its address alone -/
inductive DV where
  | non | bl (b : Bool) | int (i : Int) | str (x : Str) | ty (n : String) | tup (ds : List DV) | lst (ds : List DV) | obj (a : Addr)

/-- the lists that may change -/
abbrev Mu := Addr → Option (List DV)
abbrev Mu.set (μ : Mu) (a : Addr) (ds : List DV) : Mu := fun b => if b = a then some ds else μ b
theorem Mu.set_same {μ : Mu} {a : Addr} {ds : List DV} : Mu.set μ a ds a = some ds := if_pos rfl
theorem Mu.set_ne {μ : Mu} {a b : Addr} {ds : List DV} (h : b ≠ a) : Mu.set μ a ds b = μ b := if_neg h

def Kp (μ : Mu) (H H' : Hp) : Prop := ∀ b o, μ b = none → H b = some o → H' b = some o
def Step (μ : Mu) (H : Hp) (μ' : Mu) (H' : Hp) : Prop := ∀ b o, μ b = none → H b = some o → H' b = some o ∧ μ' b = none
theorem Step.refl (μ : Mu) (H : Hp) : Step μ H μ H := fun _ _ h1 h2 => ⟨h2, h1⟩
theorem Step.trans {μ μ1 μ2 : Mu} {H H1 H2 : Hp} (a : Step μ H μ1 H1) (b : Step μ1 H1 μ2 H2) : Step μ H μ2 H2 := fun c o h1 h2 =>
  have z := a c o h1 h2
  b c o z.2 z.1
theorem Step.kp {μ μ1 : Mu} {H H1 H2 : Hp} (a : Step μ H μ1 H1) (b : Kp μ1 H1 H2) : Kp μ H H2 := fun c o h1 h2 =>
  have z := a c o h1 h2
  b c o z.2 z.1

mutual
def Rp (K : PySem.W.Frag) (μ : Mu) (H : Hp) : DV → V → Prop
  | .non, v => v = .non
  | .bl b, v => v = .bl b
  | .int i, v => v = .int i
  | .str x, v => v = .str x
  | .ty n, v => v = .ty n
  | .tup ds, v => ∃ a xs, v = .ref a ∧ (∀ H', Kp μ H H' → SqT K H' a xs) ∧ Rps K μ H ds xs
  | .lst ds, v => ∃ a xs, v = .ref a ∧ (∀ H', Kp μ H H' → SqL K H' a xs) ∧ Rps K μ H ds xs
  | .obj a, v => v = .ref a
def Rps (K : PySem.W.Frag) (μ : Mu) (H : Hp) : List DV → List V → Prop
  | [], xs => xs = []
  | d :: ds, xs => ∃ x r, xs = x :: r ∧ Rp K μ H d x ∧ Rps K μ H ds r
end

section
variable {K : PySem.W.Frag} {μ μ' : Mu} {H H' : Hp}
mutual
theorem Rp.mono (s : Step μ H μ' H') : ∀ (d : DV) (v : V), Rp K μ H d v → Rp K μ' H' d v
  | .non, _, h => h
  | .bl _, _, h => h
  | .int _, _, h => h
  | .str _, _, h => h
  | .ty _, _, h => h
  | .obj _, _, h => h
  | .tup ds, v, h => by
    obtain ⟨a, xs, e, h1, h2⟩ := (show ∃ a xs, v = .ref a ∧ (∀ H', Kp μ H H' → SqT K H' a xs) ∧ Rps K μ H ds xs from h)
    exact ⟨a, xs, e, fun H2 k => h1 H2 (s.kp k), Rps.mono s ds xs h2⟩
  | .lst ds, v, h => by
    obtain ⟨a, xs, e, h1, h2⟩ := (show ∃ a xs, v = .ref a ∧ (∀ H', Kp μ H H' → SqL K H' a xs) ∧ Rps K μ H ds xs from h)
    exact ⟨a, xs, e, fun H2 k => h1 H2 (s.kp k), Rps.mono s ds xs h2⟩
theorem Rps.mono (s : Step μ H μ' H') : ∀ (ds : List DV) (xs : List V), Rps K μ H ds xs → Rps K μ' H' ds xs
  | [], _, h => h
  | d :: ds, xs, h => by
    obtain ⟨x, r, e, h1, h2⟩ := (show ∃ x r, xs = x :: r ∧ Rp K μ H d x ∧ Rps K μ H ds r from h)
    exact ⟨x, r, e, Rp.mono s d x h1, Rps.mono s ds r h2⟩
end
mutual
/-- fewer lists that may change: what is data stays data -/
theorem Rp.less (s : ∀ b, μ b = none → μ' b = none) : ∀ (d : DV) (v : V), Rp K μ H d v → Rp K μ' H d v
  | .non, _, h => h
  | .bl _, _, h => h
  | .int _, _, h => h
  | .str _, _, h => h
  | .ty _, _, h => h
  | .obj _, _, h => h
  | .tup ds, v, h => by
    obtain ⟨a, xs, e, h1, h2⟩ := (show ∃ a xs, v = .ref a ∧ (∀ H', Kp μ H H' → SqT K H' a xs) ∧ Rps K μ H ds xs from h)
    exact ⟨a, xs, e, fun H2 k => h1 H2 fun b o z => k b o (s b z), Rps.less s ds xs h2⟩
  | .lst ds, v, h => by
    obtain ⟨a, xs, e, h1, h2⟩ := (show ∃ a xs, v = .ref a ∧ (∀ H', Kp μ H H' → SqL K H' a xs) ∧ Rps K μ H ds xs from h)
    exact ⟨a, xs, e, fun H2 k => h1 H2 fun b o z => k b o (s b z), Rps.less s ds xs h2⟩
theorem Rps.less (s : ∀ b, μ b = none → μ' b = none) : ∀ (ds : List DV) (xs : List V), Rps K μ H ds xs → Rps K μ' H ds xs
  | [], _, h => h
  | d :: ds, xs, h => by
    obtain ⟨x, r, e, h1, h2⟩ := (show ∃ x r, xs = x :: r ∧ Rp K μ H d x ∧ Rps K μ H ds r from h)
    exact ⟨x, r, e, Rp.less s d x h1, Rps.less s ds r h2⟩
end
theorem Rps.length : ∀ {ds : List DV} {xs : List V}, Rps K μ H ds xs → xs.length = ds.length
  | [], _, h => by
    rw [show _ = [] from h]
    rfl
  | d :: ds, xs, h => by
    obtain ⟨x, r, e, h1, h2⟩ := (show ∃ x r, xs = x :: r ∧ Rp K μ H d x ∧ Rps K μ H ds r from h)
    rw [e, List.length_cons, List.length_cons, Rps.length h2]
theorem Rps.get : ∀ {ds : List DV} {xs : List V} {i : Nat} {d : DV}, Rps K μ H ds xs → ds[i]? = some d → ∃ v, xs[i]? = some v ∧ Rp K μ H d v
  | [], _, _, _, _, e => by simp at e
  | d :: ds, xs, 0, d', h, e => by
    obtain ⟨x, r, rfl, h1, h2⟩ := (show ∃ x r, xs = x :: r ∧ Rp K μ H d x ∧ Rps K μ H ds r from h)
    cases (show some d = some d' from e)
    exact ⟨x, rfl, h1⟩
  | d :: ds, xs, i + 1, d', h, e => by
    obtain ⟨x, r, rfl, h1, h2⟩ := (show ∃ x r, xs = x :: r ∧ Rp K μ H d x ∧ Rps K μ H ds r from h)
    exact Rps.get (i := i) h2 (by simpa using e)
theorem Rps.append : ∀ {ds es : List DV} {xs ys : List V}, Rps K μ H ds xs → Rps K μ H es ys → Rps K μ H (ds ++ es) (xs ++ ys)
  | [], _, _, _, h, k => by
    rw [show _ = [] from h]
    exact k
  | d :: ds, es, xs, ys, h, k => by
    obtain ⟨x, r, rfl, h1, h2⟩ := (show ∃ x r, xs = x :: r ∧ Rp K μ H d x ∧ Rps K μ H ds r from h)
    exact ⟨x, r ++ ys, rfl, h1, Rps.append h2 k⟩
theorem Rps.one {d : DV} {v : V} (h : Rp K μ H d v) : Rps K μ H [d] [v] := ⟨v, [], rfl, h, rfl⟩
theorem Rps.drop : ∀ {ds : List DV} {xs : List V} (n : Nat), Rps K μ H ds xs → Rps K μ H (ds.drop n) (xs.drop n)
  | _, _, 0, h => h
  | [], xs, n + 1, h => by
    rw [show xs = [] from h]
    rfl
  | d :: ds, xs, n + 1, h => by
    obtain ⟨x, r, rfl, h1, h2⟩ := (show ∃ x r, xs = x :: r ∧ Rp K μ H d x ∧ Rps K μ H ds r from h)
    exact Rps.drop n h2
theorem Rps.take : ∀ {ds : List DV} {xs : List V} (n : Nat), Rps K μ H ds xs → Rps K μ H (ds.take n) (xs.take n)
  | ds, xs, 0, h => by
    rw [List.take_zero, List.take_zero]
    rfl
  | [], xs, n + 1, h => by
    rw [show xs = [] from h]
    rfl
  | d :: ds, xs, n + 1, h => by
    obtain ⟨x, r, rfl, h1, h2⟩ := (show ∃ x r, xs = x :: r ∧ Rp K μ H d x ∧ Rps K μ H ds r from h)
    exact ⟨x, r.take n, rfl, h1, Rps.take n h2⟩
theorem Rps.set : ∀ {ds : List DV} {xs : List V} (i : Nat) {d : DV} {v : V}, Rps K μ H ds xs → Rp K μ H d v → Rps K μ H (ds.set i d) (xs.set i v)
  | [], xs, i, _, _, h, _ => by
    rw [show xs = [] from h]
    rfl
  | d :: ds, xs, 0, d', v, h, k => by
    obtain ⟨x, r, rfl, h1, h2⟩ := (show ∃ x r, xs = x :: r ∧ Rp K μ H d x ∧ Rps K μ H ds r from h)
    exact ⟨v, r, rfl, k, h2⟩
  | d :: ds, xs, i + 1, d', v, h, k => by
    obtain ⟨x, r, rfl, h1, h2⟩ := (show ∃ x r, xs = x :: r ∧ Rp K μ H d x ∧ Rps K μ H ds r from h)
    exact ⟨x, r.set i v, rfl, h1, Rps.set i h2 k⟩
theorem Rps.reverse : ∀ {ds : List DV} {xs : List V}, Rps K μ H ds xs → Rps K μ H ds.reverse xs.reverse
  | [], xs, h => by
    rw [show xs = [] from h]
    rfl
  | d :: ds, xs, h => by
    obtain ⟨x, r, rfl, h1, h2⟩ := (show ∃ x r, xs = x :: r ∧ Rp K μ H d x ∧ Rps K μ H ds r from h)
    rw [List.reverse_cons, List.reverse_cons]
    exact Rps.append (Rps.reverse h2) (Rps.one h1)

def Ok (K : PySem.W.Frag) (μ : Mu) (H : Hp) : Prop := ∀ a ds, μ a = some ds → ∃ xs, H a = some (.lst xs) ∧ Rps K μ H ds xs
theorem Ok.fresh (o : Ok K μ H) {p : Addr} (h : H p = none) : μ p = none := by
  cases e : μ p with
  | none => rfl
  | some ds =>
    obtain ⟨xs, h1, _⟩ := o p ds e
    rw [h] at h1
    cases h1
/-- a new object that is never changed -/
theorem Step.new {p : Addr} {u : HO} (o : Ok K μ H) (h : H p = none) : Step μ H μ (upd H p u) := fun b q h1 h2 => ⟨by
  rw [upd_ne (ne_of_none h2 h)]
  exact h2, h1⟩
theorem Ok.new {p : Addr} {u : HO} (o : Ok K μ H) (h : H p = none) : Ok K μ (upd H p u) := fun a ds e => by
  obtain ⟨xs, h1, h2⟩ := o a ds e
  exact ⟨xs, by
    rw [upd_ne (ne_of_none h1 h)]
    exact h1, Rps.mono (Step.new o h) ds xs h2⟩
theorem kp_here {p : Addr} {u : HO} (h : μ p = none) {H2 : Hp} (k : Kp μ (upd H p u) H2) : H2 p = some u := k p u h upd_same
/-- a new list that may change -/
theorem Step.newM {p : Addr} {u : HO} {ds : List DV} (o : Ok K μ H) (h : H p = none) : Step μ H (Mu.set μ p ds) (upd H p u) := fun b q h1 h2 => ⟨by
  rw [upd_ne (ne_of_none h2 h)]
  exact h2, by
  rw [Mu.set_ne (ne_of_none h2 h)]
  exact h1⟩
theorem Ok.newM {p : Addr} {xs : List V} {ds : List DV} (o : Ok K μ H) (h : H p = none) (r : Rps K μ H ds xs) : Ok K (Mu.set μ p ds) (upd H p (.lst xs)) := fun a es e => by
  by_cases ha : a = p
  · subst ha
    rw [Mu.set_same] at e
    cases e
    exact ⟨xs, upd_same, Rps.mono (Step.newM o h) ds xs r⟩
  · rw [Mu.set_ne ha] at e
    obtain ⟨ys, h1, h2⟩ := o a es e
    exact ⟨ys, by
      rw [upd_ne ha]
      exact h1, Rps.mono (Step.newM o h) es ys h2⟩
/-- a list that may change is changed -/
theorem Step.put {p : Addr} {u : HO} {ds es : List DV} (e : μ p = some es) : Step μ H (Mu.set μ p ds) (upd H p u) := fun b q h1 h2 => by
  have hb : b ≠ p := fun z => by
    rw [z, e] at h1
    cases h1
  rw [upd_ne hb, Mu.set_ne hb]
  exact ⟨h2, h1⟩
theorem Ok.put {p : Addr} {xs : List V} {ds es : List DV} (o : Ok K μ H) (e : μ p = some es) (r : Rps K μ H ds xs) : Ok K (Mu.set μ p ds) (upd H p (.lst xs)) := fun a es' e' => by
  by_cases ha : a = p
  · subst ha
    rw [Mu.set_same] at e'
    cases e'
    exact ⟨xs, upd_same, Rps.mono (Step.put e) ds xs r⟩
  · rw [Mu.set_ne ha] at e'
    obtain ⟨ys, h1, h2⟩ := o a es' e'
    exact ⟨ys, by
      rw [upd_ne ha]
      exact h1, Rps.mono (Step.put e) es' ys h2⟩
theorem Rp.newTup {p : Addr} {ds : List DV} {xs : List V} (o : Ok K μ H) (h : H p = none) (r : Rps K μ H ds xs) : Rp K μ (upd H p (.tup xs)) (.tup ds) (.ref p) :=
  ⟨p, xs, rfl, fun H2 k => .inl (.inl (kp_here (o.fresh h) k)), Rps.mono (Step.new o h) ds xs r⟩
theorem Rp.newLst {p : Addr} {ds : List DV} {xs : List V} (o : Ok K μ H) (h : H p = none) (r : Rps K μ H ds xs) : Rp K μ (upd H p (.lst xs)) (.lst ds) (.ref p) :=
  ⟨p, xs, rfl, fun H2 k => .inl (.inl (kp_here (o.fresh h) k)), Rps.mono (Step.new o h) ds xs r⟩
theorem kp_refl : Kp μ H H := fun _ _ _ h => h
theorem Rp.tupE {ds : List DV} {v : V} (h : Rp K μ H (.tup ds) v) : ∃ a xs, v = .ref a ∧ SqT K H a xs ∧ Rps K μ H ds xs := by
  obtain ⟨a, xs, e, h1, h2⟩ := (show ∃ a xs, v = .ref a ∧ (∀ H', Kp μ H H' → SqT K H' a xs) ∧ Rps K μ H ds xs from h)
  exact ⟨a, xs, e, h1 H kp_refl, h2⟩
theorem Rp.lstE {ds : List DV} {v : V} (h : Rp K μ H (.lst ds) v) : ∃ a xs, v = .ref a ∧ SqL K H a xs ∧ Rps K μ H ds xs := by
  obtain ⟨a, xs, e, h1, h2⟩ := (show ∃ a xs, v = .ref a ∧ (∀ H', Kp μ H H' → SqL K H' a xs) ∧ Rps K μ H ds xs from h)
  exact ⟨a, xs, e, h1 H kp_refl, h2⟩

/-! ### slots -/
end
abbrev DEnv := List (Option DV)
def Ro (K : PySem.W.Frag) (μ : Mu) (H : Hp) : Option DV → Option V → Prop
  | none, _ => True
  | some d, x => ∃ v, x = some v ∧ Rp K μ H d v
def SR (K : PySem.W.Frag) (μ : Mu) (H : Hp) : DEnv → St → Prop
  | [], σ => σ = []
  | o :: ρ, σ => ∃ x r, σ = x :: r ∧ Ro K μ H o x ∧ SR K μ H ρ r
section
variable {K : PySem.W.Frag} {μ μ' : Mu} {H H' : Hp}
theorem Ro.mono (s : Step μ H μ' H') {o : Option DV} {x : Option V} (h : Ro K μ H o x) : Ro K μ' H' o x := by
  cases o with
  | none => trivial
  | some d =>
    obtain ⟨v, e, r⟩ := (show ∃ v, x = some v ∧ Rp K μ H d v from h)
    exact ⟨v, e, r.mono s⟩
theorem SR.mono (s : Step μ H μ' H') : ∀ {ρ : DEnv} {σ : St}, SR K μ H ρ σ → SR K μ' H' ρ σ
  | [], _, h => h
  | o :: ρ, σ, h => by
    obtain ⟨x, r, e, h1, h2⟩ := (show ∃ x r, σ = x :: r ∧ Ro K μ H o x ∧ SR K μ H ρ r from h)
    exact ⟨x, r, e, h1.mono s, SR.mono s h2⟩
theorem SR.get : ∀ {ρ : DEnv} {σ : St} {i : Nat} {d : DV}, SR K μ H ρ σ → ρ[i]? = some (some d) → ∃ v, σ[i]? = some (some v) ∧ Rp K μ H d v
  | [], _, _, _, _, e => by simp at e
  | o :: ρ, σ, 0, d, h, e => by
    obtain ⟨x, r, rfl, h1, h2⟩ := (show ∃ x r, σ = x :: r ∧ Ro K μ H o x ∧ SR K μ H ρ r from h)
    cases (show some o = some (some d) from e)
    obtain ⟨v, rfl, q⟩ := (show ∃ v, x = some v ∧ Rp K μ H d v from h1)
    exact ⟨v, rfl, q⟩
  | o :: ρ, σ, i + 1, d, h, e => by
    obtain ⟨x, r, rfl, h1, h2⟩ := (show ∃ x r, σ = x :: r ∧ Ro K μ H o x ∧ SR K μ H ρ r from h)
    exact SR.get (i := i) h2 (by simpa using e)
theorem SR.put : ∀ {ρ : DEnv} {σ : St} (i : Nat) {o : Option DV} {y : Option V}, SR K μ H ρ σ → Ro K μ H o y → SR K μ H (ρ.set i o) (σ.set i y)
  | [], σ, i, _, _, h, _ => by
    rw [show σ = [] from h]
    rfl
  | o :: ρ, σ, 0, _, y, h, k => by
    obtain ⟨x, r, rfl, h1, h2⟩ := (show ∃ x r, σ = x :: r ∧ Ro K μ H o x ∧ SR K μ H ρ r from h)
    exact ⟨y, r, rfl, k, h2⟩
  | o :: ρ, σ, i + 1, _, y, h, k => by
    obtain ⟨x, r, rfl, h1, h2⟩ := (show ∃ x r, σ = x :: r ∧ Ro K μ H o x ∧ SR K μ H ρ r from h)
    exact ⟨x, r.set i y, rfl, h1, SR.put i h2 k⟩
theorem SR.set {ρ : DEnv} {σ : St} (i : Nat) {d : DV} {v : V} (h : SR K μ H ρ σ) (r : Rp K μ H d v) : SR K μ H (ρ.set i (some d)) (σ.set i (some v)) := SR.put i h ⟨v, rfl, r⟩
end
def wipeD (ρ : DEnv) : List Nat → DEnv
  | [] => ρ
  | v :: vs => (wipeD ρ vs).set v none
theorem SR.wipe {K : PySem.W.Frag} {μ : Mu} {H : Hp} {ρ : DEnv} {σ : St} (h : SR K μ H ρ σ) : ∀ vs : List Nat, SR K μ H (wipeD ρ vs) (wipe σ vs)
  | [] => h
  | v :: vs => by
    show SR K μ H ((wipeD ρ vs).set v none) ((L2.wipe σ vs).set v none)
    exact SR.put v (SR.wipe h vs) trivial

/-! ### judgements -/
abbrev DK := DV → Mu → Prop
abbrev DE := DEnv → Mu → DK → Prop
abbrev DT := DEnv → Mu → (Bool → Mu → Prop) → Prop
abbrev DA := DEnv → Mu → (List DV → Mu → Prop) → Prop
abbrev DO := DEnv → Mu → (Option Int → Mu → Prop) → Prop
abbrev DG := DV → DEnv → Mu → (DEnv → Mu → Prop) → Prop
abbrev DGs := List DV → DEnv → Mu → (DEnv → Mu → Prop) → Prop
structure DEnds where
  nx : DEnv → Mu → Prop
  rt : DK
  bk : DEnv → Mu → Prop
  ct : DEnv → Mu → Prop
abbrev DS := DEnds → DEnv → Mu → Prop

def Res (K : PySem.W.Frag) (μ : Mu) (H : Hp) (P : DK) (Q : VK) : Prop := ∀ v H' d μ', P d μ' → Step μ H μ' H' → Ok K μ' H' → Rp K μ' H' d v → Q v H'
def ResS (K : PySem.W.Frag) (μ : Mu) (H : Hp) (P : DEnv → Mu → Prop) (Q : St → Hp → Prop) : Prop := ∀ σ' H' ρ' μ', P ρ' μ' → Step μ H μ' H' → Ok K μ' H' → SR K μ' H' ρ' σ' → Q σ' H'
structure Link (K : PySem.W.Frag) (E : DEnds) (D : Ends) (μ : Mu) (H : Hp) : Prop where
  nx : ResS K μ H E.nx D.nx
  rt : Res K μ H E.rt D.rt
  bk : ResS K μ H E.bk D.bk
  ct : ResS K μ H E.ct D.ct

class EvE (K : PySem.W.Frag) (t : TE) (W : outParam DE) : Prop where
  run : ∀ ρ μ P σ H (Q : VK), W ρ μ P → Ok K μ H → SR K μ H ρ σ → Res K μ H P Q → t σ H Q
class EvT (K : PySem.W.Frag) (t : TT) (W : outParam DT) : Prop where
  run : ∀ ρ μ P σ H (Q : Bool → Hp → Prop), W ρ μ P → Ok K μ H → SR K μ H ρ σ → (∀ b H' μ', P b μ' → Step μ H μ' H' → Ok K μ' H' → Q b H') → t σ H Q
class EvA (K : PySem.W.Frag) (t : TA) (W : outParam DA) : Prop where
  run : ∀ ρ μ P σ H (Q : List V → Hp → Prop), W ρ μ P → Ok K μ H → SR K μ H ρ σ → (∀ vs H' ds μ', P ds μ' → Step μ H μ' H' → Ok K μ' H' → Rps K μ' H' ds vs → Q vs H') → t σ H Q
class EvO (K : PySem.W.Frag) (t : TO) (W : outParam DO) : Prop where
  run : ∀ ρ μ P σ H (Q : Option Int → Hp → Prop), W ρ μ P → Ok K μ H → SR K μ H ρ σ → (∀ b H' μ', P b μ' → Step μ H μ' H' → Ok K μ' H' → Q b H') → t σ H Q
class EvG (K : PySem.W.Frag) (g : TG) (is : outParam (List Nat)) (G : outParam DG) : Prop where
  run : ∀ d v ρ μ R σ H (Q : St → Hp → Prop), G d ρ μ R → Ok K μ H → SR K μ H ρ σ → Rp K μ H d v →
    (∀ σ' H' ρ' μ', R ρ' μ' → Step μ H μ' H' → Ok K μ' H' → SR K μ' H' ρ' σ' → (∀ vs : List Nat, (∀ i ∈ is, i ∈ vs) → wipe σ' vs = wipe σ vs) → Q σ' H') → g v σ H Q
class EvGs (K : PySem.W.Frag) (g : TGs) (is : outParam (List Nat)) (G : outParam DGs) : Prop where
  run : ∀ ds xs ρ μ R σ H (Q : St → Hp → Prop), G ds ρ μ R → Ok K μ H → SR K μ H ρ σ → Rps K μ H ds xs →
    (∀ σ' H' ρ' μ', R ρ' μ' → Step μ H μ' H' → Ok K μ' H' → SR K μ' H' ρ' σ' → (∀ vs : List Nat, (∀ i ∈ is, i ∈ vs) → wipe σ' vs = wipe σ vs) → Q σ' H') → g xs σ H Q
class EvS (K : PySem.W.Frag) (t : TS) (W : outParam DS) : Prop where
  run : ∀ E ρ μ σ H (D : Ends), W E ρ μ → Ok K μ H → SR K μ H ρ σ → Link K E D μ H → t D σ H
/-- the heap-side of a walk over ds -/
def ItD (K : PySem.W.Frag) (μ : Mu) (H : Hp) (J : It) (ds : List DV) : Prop := ∀ μ2 H2, Step μ H μ2 H2 → Ok K μ2 H2 →
  (∀ i d, ds[i]? = some d → J.go i H2 ∧ ∀ x H3, J.yld i H2 x H3 → Step μ2 H2 μ2 H3 ∧ Ok K μ2 H3 ∧ Rp K μ2 H3 d x) ∧ J.stop ds.length H2
abbrev DI := DEnv → Mu → (List DV → Mu → Prop) → Prop
class EvI (K : PySem.W.Frag) (wi : TI) (I : outParam DI) : Prop where
  run : ∀ ρ μ R σ H (Q : It → Hp → Prop), I ρ μ R → Ok K μ H → SR K μ H ρ σ → (∀ J H' ds μ', R ds μ' → Step μ H μ' H' → Ok K μ' H' → ItD K μ' H' J ds → Q J H') → wi σ H Q
/-- operations on values -/
class OpD (K : PySem.W.Frag) (r : R2) (w : outParam (DV → DV → Mu → DK → Prop)) : Prop where
  run : ∀ d e x y μ P H (Q : VK), w d e μ P → Ok K μ H → Rp K μ H d x → Rp K μ H e y → Res K μ H P Q → r x y H Q
class UnD (K : PySem.W.Frag) (r : V → Hp → VK → Prop) (w : outParam (DV → Mu → DK → Prop)) : Prop where
  run : ∀ d x μ P H (Q : VK), w d μ P → Ok K μ H → Rp K μ H d x → Res K μ H P Q → r x H Q
class CallD (K : PySem.W.Frag) (r : List V → Hp → VK → Prop) (w : outParam (List DV → Mu → DK → Prop)) : Prop where
  run : ∀ ds xs μ P H (Q : VK), w ds μ P → Ok K μ H → Rps K μ H ds xs → Res K μ H P Q → r xs H Q

/-! ### expressions -/
def wVar (i : Nat) : DE := fun ρ μ P => match ρ[i]? with
  | some (some d) => P d μ
  | _ => False
def vD : V → Option DV
  | .non => some .non
  | .bl b => some (.bl b)
  | .int i => some (.int i)
  | .str x => some (.str x)
  | .ty n => some (.ty n)
  | _ => none
def pv_ (v : V) (μ : Mu) (P : DK) : Prop := match v with
  | .non => P .non μ
  | .bl b => P (.bl b) μ
  | .int i => P (.int i) μ
  | .str x => P (.str x) μ
  | .ty n => P (.ty n) μ
  | _ => False
theorem pv_res {K : PySem.W.Frag} {μ : Mu} {H : Hp} {P : DK} {Q : VK} {v : V} (h : pv_ v μ P) (o : Ok K μ H) (r : Res K μ H P Q) : Q v H := by
  cases v with
  | non => exact r _ _ _ _ h (Step.refl _ _) o rfl
  | bl b => exact r _ _ _ _ h (Step.refl _ _) o rfl
  | int i => exact r _ _ _ _ h (Step.refl _ _) o rfl
  | str x => exact r _ _ _ _ h (Step.refl _ _) o rfl
  | ty n => exact r _ _ _ _ h (Step.refl _ _) o rfl
  | byt _ => exact False.elim h
  | flt _ => exact False.elim h
  | ref _ => exact False.elim h
def wC (v : V) : DE := fun _ μ P => pv_ v μ P
def wOp (w : DV → DV → Mu → DK → Prop) (Wa Wb : DE) : DE := fun ρ μ P => Wa ρ μ fun x μ1 => Wb ρ μ1 fun y μ2 => w x y μ2 P
def wUn (w : DV → Mu → DK → Prop) (Wa : DE) : DE := fun ρ μ P => Wa ρ μ fun x μ1 => w x μ1 P
section
variable {K : PySem.W.Frag}
instance ev_var {i : Nat} : EvE K (tVar i) (wVar i) := ⟨fun ρ μ P σ H Q h o s r => by
  unfold wVar at h
  split at h
  · rename_i d e
    obtain ⟨v, e2, q⟩ := s.get e
    exact ⟨v, e2, r v H d μ h (Step.refl _ _) o q⟩
  · exact h.elim⟩
instance ev_c {v : V} : EvE K (tC v) (wC v) := ⟨fun ρ μ P σ H Q h o s r => pv_res h o r⟩
theorem Res.later {μ μ1 : Mu} {H H1 : Hp} {P : DK} {Q : VK} (r : Res K μ H P Q) (s : Step μ H μ1 H1) : Res K μ1 H1 P Q := fun v H' d μ' p s' => r v H' d μ' p (s.trans s')
theorem ResS.later {μ μ1 : Mu} {H H1 : Hp} {P : DEnv → Mu → Prop} {Q : St → Hp → Prop} (r : ResS K μ H P Q) (s : Step μ H μ1 H1) : ResS K μ1 H1 P Q := fun v H' d μ' p s' => r v H' d μ' p (s.trans s')
theorem Link.later {μ μ1 : Mu} {H H1 : Hp} {E : DEnds} {D : Ends} (r : Link K E D μ H) (s : Step μ H μ1 H1) : Link K E D μ1 H1 := ⟨r.nx.later s, r.rt.later s, r.bk.later s, r.ct.later s⟩
instance ev_op {r : R2} {ta tb : TE} {Wa Wb : DE} {w : DV → DV → Mu → DK → Prop} [a : EvE K ta Wa] [b : EvE K tb Wb] [c : OpD K r w] : EvE K (tOp r ta tb) (wOp w Wa Wb) := ⟨fun ρ μ P σ H Q h o s r =>
  a.run ρ μ _ σ H _ h o s fun x H1 d μ1 h1 s1 o1 r1 => b.run ρ μ1 _ σ H1 _ h1 o1 (s.mono s1) fun y H2 e μ2 h2 s2 o2 r2 =>
    c.run d e x y μ2 P H2 Q h2 o2 (r1.mono s2) r2 (r.later (s1.trans s2))⟩
instance ev_un {r : V → Hp → VK → Prop} {ta : TE} {Wa : DE} {w : DV → Mu → DK → Prop} [a : EvE K ta Wa] [c : UnD K r w] : EvE K (tUn r ta) (wUn w Wa) := ⟨fun ρ μ P σ H Q h o s r =>
  a.run ρ μ _ σ H _ h o s fun x H1 d μ1 h1 s1 o1 r1 => c.run d x μ1 P H1 Q h1 o1 r1 (r.later s1)⟩
end
/-! operations -/
def wI0 (g : Int → Int → V) : DV → DV → Mu → DK → Prop := fun d e μ P => match d, e with
  | .int i, .int j => pv_ (g i j) μ P
  | _, _ => False
def wI (C : Int → Int → Prop) (g : Int → Int → V) : DV → DV → Mu → DK → Prop := fun d e μ P => match d, e with
  | .int i, .int j => C i j ∧ pv_ (g i j) μ P
  | _, _ => False
def wU (g : Int → V) : DV → Mu → DK → Prop := fun d μ P => match d with
  | .int i => pv_ (g i) μ P
  | _ => False
def wEq : DV → DV → Mu → DK → Prop := fun d e μ P => match d, e with
  | .int i, .int j => P (.bl (decide (i = j))) μ
  | .str i, .str j => P (.bl (decide (i = j))) μ
  | .bl i, .bl j => P (.bl (decide (i = j))) μ
  | .non, .non => P (.bl true) μ
  | .non, .int _ => P (.bl false) μ
  | .int _, .non => P (.bl false) μ
  | .non, .str _ => P (.bl false) μ
  | .str _, .non => P (.bl false) μ
  | _, _ => False
def wNe : DV → DV → Mu → DK → Prop := fun d e μ P => match d, e with
  | .int i, .int j => P (.bl (!decide (i = j))) μ
  | .str i, .str j => P (.bl (!decide (i = j))) μ
  | .bl i, .bl j => P (.bl (!decide (i = j))) μ
  | .non, .non => P (.bl false) μ
  | .non, .int _ => P (.bl true) μ
  | .int _, .non => P (.bl true) μ
  | .non, .str _ => P (.bl true) μ
  | .str _, .non => P (.bl true) μ
  | _, _ => False
def isNonD : DV → Bool
  | .non => true
  | _ => false
def wIsN : DV → DV → Mu → DK → Prop := fun d e μ P => match e with
  | .non => P (.bl (isNonD d)) μ
  | _ => False
def wNotN : DV → DV → Mu → DK → Prop := fun d e μ P => match e with
  | .non => P (.bl (!isNonD d)) μ
  | _ => False
def onSome {α : Type} (o : Option α) (k : α → Prop) : Prop := match o with
  | some x => k x
  | none => False
theorem onSome_e {α : Type} {o : Option α} {k : α → Prop} (h : onSome o k) : ∃ x, o = some x ∧ k x := by
  unfold onSome at h
  split at h
  · exact ⟨_, rfl, h⟩
  · exact h.elim
def wIx : DV → DV → Mu → DK → Prop := fun d e μ P => match d, e with
  | .tup ds, .int i => onSome (atI ds i) fun x => P x μ
  | .lst ds, .int i => onSome (atI ds i) fun x => P x μ
  | .obj a, .int i => onSome (μ a) fun ds => onSome (atI ds i) fun x => P x μ
  | _, _ => False
theorem dec_bl2 {α : Type} [DecidableEq α] {f : α → V} (hf : ∀ a b, f a = f b → a = b) (i j : α) : decide (f i = f j) = decide (i = j) := by
  by_cases e : i = j
  · rw [e, decide_eq_true rfl, decide_eq_true rfl]
  · rw [decide_eq_false e, decide_eq_false fun z => e (hf _ _ z)]
section
variable {K : PySem.W.Frag}
theorem atI_rps {μ : Mu} {H : Hp} {ds : List DV} {xs : List V} {i : Int} {d : DV} (r : Rps K μ H ds xs) (h : atI ds i = some d) : ∃ v, atI xs i = some v ∧ Rp K μ H d v := by
  unfold atI at h ⊢
  rw [r.length]
  cases e : ixN ds.length i with
  | none =>
    rw [e] at h
    cases h
  | some j =>
    rw [e] at h
    exact r.get h
instance op_I0 {g : Int → Int → V} : OpD K (rI0 g) (wI0 g) := ⟨fun d e x y μ P H Q h o rx ry r => by
  unfold wI0 at h
  split at h
  · exact ⟨_, _, rx, ry, pv_res h o r⟩
  · exact h.elim⟩
instance op_I {C : Int → Int → Prop} {g : Int → Int → V} : OpD K (rI C g) (wI C g) := ⟨fun d e x y μ P H Q h o rx ry r => by
  unfold wI at h
  split at h
  · exact ⟨_, _, rx, ry, h.1, pv_res h.2 o r⟩
  · exact h.elim⟩
instance un_U {g : Int → V} : UnD K (rU g) (wU g) := ⟨fun d x μ P H Q h o rx r => by
  unfold wU at h
  split at h
  · exact ⟨_, rx, pv_res h o r⟩
  · exact h.elim⟩
theorem q_bl {μ : Mu} {H : Hp} {P : DK} {Q : VK} {b c : Bool} (o : Ok K μ H) (r : Res K μ H P Q) (h : P (.bl b) μ) (e : c = b) : Q (.bl c) H := by
  rw [e]
  exact r _ _ _ _ h (Step.refl _ _) o rfl
instance op_Eq : OpD K rEq wEq := ⟨fun d e x y μ P H Q h o rx ry r => by
  unfold wEq at h
  split at h
  · rw [show x = _ from rx, show y = _ from ry]
    exact ⟨rfl, q_bl o r h (dec_bl2 (fun _ _ z => V.int.inj z) _ _)⟩
  · rw [show x = _ from rx, show y = _ from ry]
    exact ⟨rfl, q_bl o r h (dec_bl2 (fun _ _ z => V.str.inj z) _ _)⟩
  · rw [show x = _ from rx, show y = _ from ry]
    exact ⟨rfl, q_bl o r h (dec_bl2 (fun _ _ z => V.bl.inj z) _ _)⟩
  · rw [show x = _ from rx, show y = _ from ry]
    exact ⟨rfl, q_bl o r h (decide_eq_true rfl)⟩
  · rw [show x = _ from rx, show y = _ from ry]
    exact ⟨rfl, q_bl o r h (decide_eq_false (fun z => nomatch z))⟩
  · rw [show x = _ from rx, show y = _ from ry]
    exact ⟨rfl, q_bl o r h (decide_eq_false (fun z => nomatch z))⟩
  · rw [show x = _ from rx, show y = _ from ry]
    exact ⟨rfl, q_bl o r h (decide_eq_false (fun z => nomatch z))⟩
  · rw [show x = _ from rx, show y = _ from ry]
    exact ⟨rfl, q_bl o r h (decide_eq_false (fun z => nomatch z))⟩
  · exact h.elim⟩
instance op_Ne : OpD K rNe wNe := ⟨fun d e x y μ P H Q h o rx ry r => by
  unfold wNe at h
  split at h
  · rw [show x = _ from rx, show y = _ from ry]
    exact ⟨rfl, q_bl o r h (congrArg not (dec_bl2 (fun _ _ z => V.int.inj z) _ _))⟩
  · rw [show x = _ from rx, show y = _ from ry]
    exact ⟨rfl, q_bl o r h (congrArg not (dec_bl2 (fun _ _ z => V.str.inj z) _ _))⟩
  · rw [show x = _ from rx, show y = _ from ry]
    exact ⟨rfl, q_bl o r h (congrArg not (dec_bl2 (fun _ _ z => V.bl.inj z) _ _))⟩
  · rw [show x = _ from rx, show y = _ from ry]
    exact ⟨rfl, q_bl o r h (congrArg not (decide_eq_true rfl))⟩
  · rw [show x = _ from rx, show y = _ from ry]
    exact ⟨rfl, q_bl o r h (congrArg not (decide_eq_false (fun z => nomatch z)))⟩
  · rw [show x = _ from rx, show y = _ from ry]
    exact ⟨rfl, q_bl o r h (congrArg not (decide_eq_false (fun z => nomatch z)))⟩
  · rw [show x = _ from rx, show y = _ from ry]
    exact ⟨rfl, q_bl o r h (congrArg not (decide_eq_false (fun z => nomatch z)))⟩
  · rw [show x = _ from rx, show y = _ from ry]
    exact ⟨rfl, q_bl o r h (congrArg not (decide_eq_false (fun z => nomatch z)))⟩
  · exact h.elim⟩
theorem isNon_v {μ : Mu} {H : Hp} {d : DV} {x : V} (h : Rp K μ H d x) : decide (x = .non) = isNonD d := by
  cases d with
  | non =>
    rw [show x = V.non from h]
    rfl
  | bl b =>
    rw [show x = V.bl b from h]
    rfl
  | int i =>
    rw [show x = V.int i from h]
    rfl
  | str z =>
    rw [show x = V.str z from h]
    rfl
  | ty n =>
    rw [show x = V.ty n from h]
    rfl
  | tup ds =>
    obtain ⟨a, xs, e, _⟩ := h.tupE
    rw [e]
    rfl
  | lst ds =>
    obtain ⟨a, xs, e, _⟩ := h.lstE
    rw [e]
    rfl
  | obj a =>
    rw [show x = V.ref a from h]
    rfl
/-- x is None, x is not None -/
def rIsNo : R2 := fun x y H Q => y = .non ∧ Q (.bl (decide (x = .non))) H
def rNotNo : R2 := fun x y H Q => y = .non ∧ Q (.bl (!decide (x = .non))) H
theorem op_isNo {X : Cx} : OpR X (compareOp .Is) rIsNo := op_isN
theorem op_notNo {X : Cx} : OpR X (compareOp .IsNot) rNotNo := op_notN
instance op_IsN : OpD K rIsNo wIsN := ⟨fun d e x y μ P H Q h o rx ry r => by
  unfold wIsN at h
  split at h
  · exact ⟨ry, q_bl o r h (isNon_v rx)⟩
  · exact h.elim⟩
instance op_NotN : OpD K rNotNo wNotN := ⟨fun d e x y μ P H Q h o rx ry r => by
  unfold wNotN at h
  split at h
  · exact ⟨ry, q_bl o r h (congrArg not (isNon_v rx))⟩
  · exact h.elim⟩
instance op_Ix : OpD K (rIx K) wIx := ⟨fun d e x y μ P H Q h o rx ry r => by
  unfold wIx at h
  split at h
  · obtain ⟨z, hz, h⟩ := onSome_e h
    obtain ⟨a, xs, rfl, h1, h2⟩ := rx.tupE
    obtain ⟨v, hv, rv⟩ := atI_rps h2 hz
    exact .inr (.inl ⟨a, xs, _, v, rfl, ry, h1, hv, r _ _ _ _ h (Step.refl _ _) o rv⟩)
  · obtain ⟨z, hz, h⟩ := onSome_e h
    obtain ⟨a, xs, rfl, h1, h2⟩ := rx.lstE
    obtain ⟨v, hv, rv⟩ := atI_rps h2 hz
    exact .inl ⟨a, xs, _, v, rfl, ry, h1, hv, r _ _ _ _ h (Step.refl _ _) o rv⟩
  · obtain ⟨ds, hm, h⟩ := onSome_e h
    obtain ⟨z, hz, h⟩ := onSome_e h
    obtain ⟨xs, h1, h2⟩ := o _ ds hm
    obtain ⟨v, hv, rv⟩ := atI_rps h2 hz
    exact .inl ⟨_, xs, _, v, rx, ry, .inl (.inl h1), hv, r _ _ _ _ h (Step.refl _ _) o rv⟩
  · exact h.elim⟩
end
/-! arguments, displays, tests -/
def wNil : DA := fun _ μ P => P [] μ
def wCons (Wa : DE) (Wr : DA) : DA := fun ρ μ P => Wa ρ μ fun d μ1 => Wr ρ μ1 fun ds μ2 => P (d :: ds) μ2
def wTup (Wa : DA) : DE := fun ρ μ P => Wa ρ μ fun ds μ1 => ds.length ≤ sizeLine ∧ P (.tup ds) μ1
def wLst (Wa : DA) : DE := fun ρ μ P => Wa ρ μ fun ds μ1 => ds.length ≤ sizeLine ∧ P (.lst ds) μ1
/-- a list display whose list is to be changed -/
def tLstM (t : TA) : TE := tLst t
theorem pe_lstM {X : Cx} {es : List Expr} {t : TA} {pos : Pos} (h : PA X es t) : PE X (.List es pos) (tLstM t) := pe_lst h
def wLstM (Wa : DA) : DE := fun ρ μ P => Wa ρ μ fun ds μ1 => ds.length ≤ sizeLine ∧ ∀ a, μ1 a = none → P (.obj a) (Mu.set μ1 a ds)
def onBl (d : DV) (k : Bool → Prop) : Prop := match d with
  | .bl b => k b
  | _ => False
def wTest (Wa : DE) : DT := fun ρ μ P => Wa ρ μ fun d μ1 => onBl d fun b => P b μ1
def wAndV (Wa Wb : DE) : DE := fun ρ μ P => Wa ρ μ fun d μ1 => onBl d fun b => if b = true then Wb ρ μ1 P else P (.bl false) μ1
def wOrV (Wa Wb : DE) : DE := fun ρ μ P => Wa ρ μ fun d μ1 => onBl d fun b => if b = true then P (.bl true) μ1 else Wb ρ μ1 P
def wNotV (Wa : DE) : DE := fun ρ μ P => Wa ρ μ fun d μ1 => onBl d fun b => P (.bl (!b)) μ1
def wIf (Wt : DT) (Wa Wb : DE) : DE := fun ρ μ P => Wt ρ μ fun b μ1 => if b = true then Wa ρ μ1 P else Wb ρ μ1 P
def wAnd (Wa Wb : DT) : DT := fun ρ μ P => Wa ρ μ fun b μ1 => if b = true then Wb ρ μ1 P else P false μ1
def wOr (Wa Wb : DT) : DT := fun ρ μ P => Wa ρ μ fun b μ1 => if b = true then P true μ1 else Wb ρ μ1 P
def wNot (Wa : DT) : DT := fun ρ μ P => Wa ρ μ fun b μ1 => P (!b) μ1
def wYes : DT := fun _ μ P => P true μ
def wChain (w w' : DV → DV → Mu → DK → Prop) (Wa Wb Wc : DE) : DE := fun ρ μ P => Wa ρ μ fun x μ1 => Wb ρ μ1 fun y μ2 => w x y μ2 fun z μ3 => onBl z fun b =>
  if b = true then Wc ρ μ3 fun u μ4 => w' y u μ4 P else P (.bl false) μ3
def wNoPart : DO := fun _ μ P => P none μ
def wPart (Wa : DE) : DO := fun ρ μ P => Wa ρ μ fun d μ1 => match d with
  | .int i => P (some i) μ1
  | _ => False
def cutD (ds : List DV) (lo hi : Option Int) : List DV := (ds.drop (HT.sIx ds.length 0 lo)).take (HT.sIx ds.length ds.length hi - HT.sIx ds.length 0 lo)
def wSlL (d : DV) (lo hi : Option Int) (μ : Mu) (P : DK) : Prop := match d with
  | .lst ds => P (.lst (cutD ds lo hi)) μ
  | _ => False
def wSl (Wa : DE) (Wl Wh : DO) : DE := fun ρ μ P => Wa ρ μ fun d μ1 => Wl ρ μ1 fun lo μ2 => Wh ρ μ2 fun hi μ3 => wSlL d lo hi μ3 P
def wCB (w : List DV → Mu → DK → Prop) (Wa : DA) : DE := fun ρ μ P => Wa ρ μ fun ds μ1 => w ds μ1 P
section
variable {K : PySem.W.Frag}
theorem onBl_v {μ : Mu} {H : Hp} {d : DV} {x : V} {k : Bool → Prop} (h : onBl d k) (r : Rp K μ H d x) : ∃ b, x = .bl b ∧ k b := by
  unfold onBl at h
  split at h
  · exact ⟨_, r, h⟩
  · exact h.elim
instance ea_nil : EvA K tNil wNil := ⟨fun ρ μ P σ H Q h o s r => r [] H [] μ h (Step.refl _ _) o rfl⟩
instance ea_cons {ta : TE} {tr : TA} {Wa : DE} {Wr : DA} [a : EvE K ta Wa] [b : EvA K tr Wr] : EvA K (tCons ta tr) (wCons Wa Wr) := ⟨fun ρ μ P σ H Q h o s r =>
  a.run ρ μ _ σ H _ h o s fun x H1 d μ1 h1 s1 o1 r1 => b.run ρ μ1 _ σ H1 _ h1 o1 (s.mono s1) fun xs H2 ds μ2 h2 s2 o2 r2 =>
    r (x :: xs) H2 (d :: ds) μ2 h2 (s1.trans s2) o2 ⟨x, xs, rfl, r1.mono s2, r2⟩⟩
instance ev_tup {ta : TA} {Wa : DA} [a : EvA K ta Wa] : EvE K (tTup ta) (wTup Wa) := ⟨fun ρ μ P σ H Q h o s r =>
  a.run ρ μ _ σ H _ h o s fun xs H1 ds μ1 h1 s1 o1 r1 => ⟨by
    rw [r1.length]
    exact h1.1, fun p hp => r (.ref p) _ (.tup ds) μ1 h1.2 (s1.trans (Step.new o1 hp)) (o1.new hp) (Rp.newTup o1 hp r1)⟩⟩
instance ev_lst {ta : TA} {Wa : DA} [a : EvA K ta Wa] : EvE K (tLst ta) (wLst Wa) := ⟨fun ρ μ P σ H Q h o s r =>
  a.run ρ μ _ σ H _ h o s fun xs H1 ds μ1 h1 s1 o1 r1 => ⟨by
    rw [r1.length]
    exact h1.1, fun p hp => r (.ref p) _ (.lst ds) μ1 h1.2 (s1.trans (Step.new o1 hp)) (o1.new hp) (Rp.newLst o1 hp r1)⟩⟩
instance ev_lstM {ta : TA} {Wa : DA} [a : EvA K ta Wa] : EvE K (tLstM ta) (wLstM Wa) := ⟨fun ρ μ P σ H Q h o s r =>
  a.run ρ μ _ σ H _ h o s fun xs H1 ds μ1 h1 s1 o1 r1 => ⟨by
    rw [r1.length]
    exact h1.1, fun p hp => r (.ref p) _ (.obj p) (Mu.set μ1 p ds) (h1.2 p (o1.fresh hp)) (s1.trans (Step.newM o1 hp)) (o1.newM hp r1) rfl⟩⟩
instance et_test {ta : TE} {Wa : DE} [a : EvE K ta Wa] : EvT K (tTest ta) (wTest Wa) := ⟨fun ρ μ P σ H Q h o s r =>
  a.run ρ μ _ σ H _ h o s fun x H1 d μ1 h1 s1 o1 r1 => by
    obtain ⟨b, e, k⟩ := onBl_v h1 r1
    exact ⟨b, e, r b H1 μ1 k s1 o1⟩⟩
instance et_B {ta : TE} {Wa : DE} [a : EvE K ta Wa] : EvT K (tB ta) (wTest Wa) := ⟨fun ρ μ P σ H Q h o s r =>
  a.run ρ μ _ σ H _ h o s fun x H1 d μ1 h1 s1 o1 r1 => by
    obtain ⟨b, e, k⟩ := onBl_v h1 r1
    exact ⟨b, e, r b H1 μ1 k s1 o1⟩⟩
theorem if_run {c : Bool} {A B A' B' : Prop} (h : if c = true then A else B) (h1 : A → A') (h2 : B → B') : if c = true then A' else B' := by
  cases c with
  | true => exact h1 h
  | false => exact h2 h
instance ev_andV {ta tb : TE} {Wa Wb : DE} [a : EvE K ta Wa] [b : EvE K tb Wb] : EvE K (tAndV ta tb) (wAndV Wa Wb) := ⟨fun ρ μ P σ H Q h o s r =>
  a.run ρ μ _ σ H _ h o s fun x H1 d μ1 h1 s1 o1 r1 => by
    obtain ⟨c, e, k⟩ := onBl_v h1 r1
    exact ⟨c, e, if_run k (fun k => b.run ρ μ1 P σ H1 Q k o1 (s.mono s1) (r.later s1)) fun k => r _ _ _ _ k s1 o1 rfl⟩⟩
instance ev_orV {ta tb : TE} {Wa Wb : DE} [a : EvE K ta Wa] [b : EvE K tb Wb] : EvE K (tOrV ta tb) (wOrV Wa Wb) := ⟨fun ρ μ P σ H Q h o s r =>
  a.run ρ μ _ σ H _ h o s fun x H1 d μ1 h1 s1 o1 r1 => by
    obtain ⟨c, e, k⟩ := onBl_v h1 r1
    exact ⟨c, e, if_run k (fun k => r _ _ _ _ k s1 o1 rfl) fun k => b.run ρ μ1 P σ H1 Q k o1 (s.mono s1) (r.later s1)⟩⟩
instance ev_notV {ta : TE} {Wa : DE} [a : EvE K ta Wa] : EvE K (tNotV ta) (wNotV Wa) := ⟨fun ρ μ P σ H Q h o s r =>
  a.run ρ μ _ σ H _ h o s fun x H1 d μ1 h1 s1 o1 r1 => by
    obtain ⟨c, e, k⟩ := onBl_v h1 r1
    exact ⟨c, e, r _ _ _ _ k s1 o1 rfl⟩⟩
instance ev_if {t : TT} {ta tb : TE} {Wt : DT} {Wa Wb : DE} [c : EvT K t Wt] [a : EvE K ta Wa] [b : EvE K tb Wb] : EvE K (tIf t ta tb) (wIf Wt Wa Wb) := ⟨fun ρ μ P σ H Q h o s r =>
  c.run ρ μ _ σ H _ h o s fun b' H1 μ1 h1 s1 o1 => if_run h1 (fun k => a.run ρ μ1 P σ H1 Q k o1 (s.mono s1) (r.later s1)) fun k => b.run ρ μ1 P σ H1 Q k o1 (s.mono s1) (r.later s1)⟩
instance et_and {ta tb : TT} {Wa Wb : DT} [a : EvT K ta Wa] [b : EvT K tb Wb] : EvT K (tAnd ta tb) (wAnd Wa Wb) := ⟨fun ρ μ P σ H Q h o s r =>
  a.run ρ μ _ σ H _ h o s fun b' H1 μ1 h1 s1 o1 => if_run h1 (fun k => b.run ρ μ1 P σ H1 Q k o1 (s.mono s1) fun c H2 μ2 p s2 => r c H2 μ2 p (s1.trans s2)) fun k => r _ _ _ k s1 o1⟩
instance et_or {ta tb : TT} {Wa Wb : DT} [a : EvT K ta Wa] [b : EvT K tb Wb] : EvT K (tOr ta tb) (wOr Wa Wb) := ⟨fun ρ μ P σ H Q h o s r =>
  a.run ρ μ _ σ H _ h o s fun b' H1 μ1 h1 s1 o1 => if_run h1 (fun k => r _ _ _ k s1 o1) fun k => b.run ρ μ1 P σ H1 Q k o1 (s.mono s1) fun c H2 μ2 p s2 => r c H2 μ2 p (s1.trans s2)⟩
instance et_not {ta : TT} {Wa : DT} [a : EvT K ta Wa] : EvT K (tNot ta) (wNot Wa) := ⟨fun ρ μ P σ H Q h o s r =>
  a.run ρ μ _ σ H _ h o s fun b' H1 μ1 h1 s1 o1 => r _ _ _ h1 s1 o1⟩
instance et_yes : EvT K tYes wYes := ⟨fun ρ μ P σ H Q h o s r => r _ _ _ h (Step.refl _ _) o⟩
instance ev_chain {r r' : R2} {ta tb tc : TE} {Wa Wb Wc : DE} {w w' : DV → DV → Mu → DK → Prop} [a : EvE K ta Wa] [b : EvE K tb Wb] [c : EvE K tc Wc] [d : OpD K r w] [d' : OpD K r' w'] : EvE K (tChain r r' ta tb tc) (wChain w w' Wa Wb Wc) := ⟨fun ρ μ P σ H Q h o s q =>
  a.run ρ μ _ σ H _ h o s fun x H1 dx μ1 h1 s1 o1 r1 => b.run ρ μ1 _ σ H1 _ h1 o1 (s.mono s1) fun y H2 dy μ2 h2 s2 o2 r2 =>
    d.run dx dy x y μ2 _ H2 _ h2 o2 (r1.mono s2) r2 fun z H3 dz μ3 h3 s3 o3 r3 => by
      obtain ⟨k, e, h4⟩ := onBl_v h3 r3
      exact ⟨k, e, if_run h4 (fun h4 => c.run ρ μ3 _ σ H3 _ h4 o3 (((s.mono s1).mono s2).mono s3) fun u H4 du μ4 h5 s4 o4 r4 =>
        d'.run dy du y u μ4 P H4 Q h5 o4 ((r2.mono s3).mono s4) r4 (q.later (((s1.trans s2).trans s3).trans s4))) fun h4 => q _ _ _ _ h4 ((s1.trans s2).trans s3) o3 rfl⟩⟩
instance eo_none : EvO K tNoPart wNoPart := ⟨fun ρ μ P σ H Q h o s r => r none H μ h (Step.refl _ _) o⟩
instance eo_some {ta : TE} {Wa : DE} [a : EvE K ta Wa] : EvO K (tPart ta) (wPart Wa) := ⟨fun ρ μ P σ H Q h o s r =>
  a.run ρ μ _ σ H _ h o s fun x H1 d μ1 h1 s1 o1 r1 => by
    split at h1
    · exact ⟨_, r1, r _ _ _ h1 s1 o1⟩
    · exact h1.elim⟩
instance ev_sl {ta : TE} {tl th : TO} {Wa : DE} {Wl Wh : DO} [a : EvE K ta Wa] [b : EvO K tl Wl] [c : EvO K th Wh] : EvE K (tSl (rSlL K) ta tl th) (wSl Wa Wl Wh) := ⟨fun ρ μ P σ H Q h o s r =>
  a.run ρ μ _ σ H _ h o s fun x H1 d μ1 h1 s1 o1 r1 => b.run ρ μ1 _ σ H1 _ h1 o1 (s.mono s1) fun lo H2 μ2 h2 s2 o2 => c.run ρ μ2 _ σ H2 _ h2 o2 ((s.mono s1).mono s2) fun hi H3 μ3 h3 s3 o3 => by
    unfold wSlL at h3
    split at h3
    · obtain ⟨p, xs, e, q1, q2⟩ := ((r1.mono s2).mono s3).lstE
      refine ⟨p, xs, e, q1, fun n hn => r (.ref n) _ _ μ3 h3 (((s1.trans s2).trans s3).trans (Step.new o3 hn)) (o3.new hn) (Rp.newLst o3 hn ?_)⟩
      unfold cutD cutV
      rw [q2.length]
      exact (q2.drop _).take _
    · exact h3.elim⟩
instance ev_cb {r : List V → Hp → VK → Prop} {ta : TA} {Wa : DA} {w : List DV → Mu → DK → Prop} [a : EvA K ta Wa] [c : CallD K r w] : EvE K (tCB r ta) (wCB w Wa) := ⟨fun ρ μ P σ H Q h o s q =>
  a.run ρ μ _ σ H _ h o s fun xs H1 ds μ1 h1 s1 o1 r1 => c.run ds xs μ1 P H1 Q h1 o1 r1 (q.later s1)⟩
end

/-! ### built-ins -/
def wLen : List DV → Mu → DK → Prop := fun ds μ P => match ds with
  | [.tup xs] => P (.int xs.length) μ
  | [.lst xs] => P (.int xs.length) μ
  | [.obj a] => onSome (μ a) fun xs => P (.int xs.length) μ
  | _ => False
def boolsD : List DV → Option (List Bool)
  | [] => some []
  | .bl b :: r => (boolsD r).map (b :: ·)
  | _ => none
def wAny : List DV → Mu → DK → Prop := fun ds μ P => match ds with
  | [.lst xs] => onSome (boolsD xs) fun bs => P (.bl (bs.any id)) μ
  | _ => False
def wAll : List DV → Mu → DK → Prop := fun ds μ P => match ds with
  | [.lst xs] => onSome (boolsD xs) fun bs => P (.bl (bs.all id)) μ
  | _ => False
def wInt : List DV → Mu → DK → Prop := fun ds μ P => match ds with
  | [.int i] => P (.int i) μ
  | [.bl b] => P (.int (if b then 1 else 0)) μ
  | _ => False
def wAbs : List DV → Mu → DK → Prop := fun ds μ P => match ds with
  | [.int i] => P (.int (if i < 0 then -i else i)) μ
  | _ => False
def wMax2 : List DV → Mu → DK → Prop := fun ds μ P => match ds with
  | [.int i, .int j] => P (.int (if j > i then j else i)) μ
  | _ => False
def wMin2 : List DV → Mu → DK → Prop := fun ds μ P => match ds with
  | [.int i, .int j] => P (.int (if j < i then j else i)) μ
  | _ => False
def wTupOf : List DV → Mu → DK → Prop := fun ds μ P => match ds with
  | [.lst xs] => P (.tup xs) μ
  | [.tup xs] => P (.tup xs) μ
  | [.obj a] => onSome (μ a) fun xs => P (.tup xs) μ
  | _ => False
/-- the name of a value's built-in type -/
def tyD : DV → Option String
  | .non => some "NoneType"
  | .bl _ => some "bool"
  | .int _ => some "int"
  | .str _ => some "str"
  | .tup _ => some "tuple"
  | .lst _ => some "list"
  | _ => none
def wIsi : List DV → Mu → DK → Prop := fun ds μ P => match ds with
  | [d, .ty n] => onSome (tyD d) fun m => onSome (kitB m n) fun b => P (.bl b) μ
  | _ => False
def rLenD (K : PySem.W.Frag) : List V → Hp → VK → Prop := fun xs H Q => ∃ p ys, xs = [.ref p] ∧ (SqL K H p ys ∨ SqT K H p ys) ∧ Q (.int ys.length) H
def rIntD : List V → Hp → VK → Prop := fun xs H Q => (∃ i, xs = [.int i] ∧ Q (.int i) H) ∨ ∃ k, xs = [.bl k] ∧ Q (.int (if k then 1 else 0)) H
def rAbsD : List V → Hp → VK → Prop := fun xs H Q => ∃ i, xs = [.int i] ∧ Q (.int (if i < 0 then -i else i)) H
def rMaxD : List V → Hp → VK → Prop := fun xs H Q => ∃ i j, xs = [.int i, .int j] ∧ Q (.int (if j > i then j else i)) H
def rMinD : List V → Hp → VK → Prop := fun xs H Q => ∃ i j, xs = [.int i, .int j] ∧ Q (.int (if j < i then j else i)) H
def rTupD (K : PySem.W.Frag) : List V → Hp → VK → Prop := fun xs H Q => ∃ p ys, xs = [.ref p] ∧ ((SqL K H p ys ∧ ∀ l, H l = none → Q (.ref l) (upd H l (.tup ys))) ∨ (SqT K H p ys ∧ Q (.ref p) H))
section
variable {X : Cx}
theorem cb_len : CallR X (.builtin "len") (rLenD X.K) := call_len_seq
theorem cb_int : CallR X (.type "int") rIntD := call_int1
theorem cb_abs : CallR X (.builtin "abs") rAbsD := call_abs
theorem cb_max (hc : X.calm = true) : CallR X (.builtin "max") rMaxD := call_max2 hc
theorem cb_min (hc : X.calm = true) : CallR X (.builtin "min") rMinD := call_min2 hc
theorem cb_tup : CallR X (.type "tuple") (rTupD X.K) := call_tuple_of
end
section
variable {K : PySem.W.Frag}
theorem rps1 {μ : Mu} {H : Hp} {d : DV} {xs : List V} (h : Rps K μ H [d] xs) : ∃ x, xs = [x] ∧ Rp K μ H d x := by
  obtain ⟨x, r, e, h1, h2⟩ := (show ∃ x r, xs = x :: r ∧ Rp K μ H d x ∧ Rps K μ H [] r from h)
  rw [show r = [] from h2] at e
  exact ⟨x, e, h1⟩
theorem rps2 {μ : Mu} {H : Hp} {d e : DV} {xs : List V} (h : Rps K μ H [d, e] xs) : ∃ x y, xs = [x, y] ∧ Rp K μ H d x ∧ Rp K μ H e y := by
  obtain ⟨x, r, z, h1, h2⟩ := (show ∃ x r, xs = x :: r ∧ Rp K μ H d x ∧ Rps K μ H [e] r from h)
  obtain ⟨y, rfl, h3⟩ := rps1 h2
  exact ⟨x, y, z, h1, h3⟩
instance cd_len : CallD K (rLenD K) wLen := ⟨fun ds xs μ P H Q h o rs r => by
  unfold wLen at h
  split at h
  · obtain ⟨x, rfl, h1⟩ := rps1 rs
    obtain ⟨p, ys, rfl, h2, h3⟩ := h1.tupE
    refine ⟨p, ys, rfl, .inr h2, r _ _ _ _ h (Step.refl _ _) o ?_⟩
    show V.int _ = V.int _
    rw [h3.length]
  · obtain ⟨x, rfl, h1⟩ := rps1 rs
    obtain ⟨p, ys, rfl, h2, h3⟩ := h1.lstE
    refine ⟨p, ys, rfl, .inl h2, r _ _ _ _ h (Step.refl _ _) o ?_⟩
    show V.int _ = V.int _
    rw [h3.length]
  · obtain ⟨zs, hz, h⟩ := onSome_e h
    obtain ⟨x, rfl, h1⟩ := rps1 rs
    obtain ⟨ys, h2, h3⟩ := o _ _ hz
    refine ⟨_, ys, congrArg (fun z => [z]) h1, .inl (.inl (.inl h2)), r _ _ _ _ h (Step.refl _ _) o ?_⟩
    show V.int _ = V.int _
    rw [h3.length]
  · exact h.elim⟩
theorem bools_v {μ : Mu} {H : Hp} : ∀ {ds : List DV} {xs : List V} {bs : List Bool}, Rps K μ H ds xs → boolsD ds = some bs → xs = bs.map V.bl
  | [], xs, bs, h, e => by
    rw [show xs = [] from h]
    cases (show some [] = some bs from e)
    rfl
  | .bl b :: ds, xs, bs, h, e => by
    obtain ⟨x, r, rfl, h1, h2⟩ := (show ∃ x r, xs = x :: r ∧ Rp K μ H (.bl b) x ∧ Rps K μ H ds r from h)
    obtain ⟨cs, h3, rfl⟩ := Option.map_eq_some_iff.mp (show (boolsD ds).map (b :: ·) = some bs from e)
    rw [show x = .bl b from h1, bools_v h2 h3]
    rfl
  | .non :: _, _, _, _, e => nomatch e
  | .int _ :: _, _, _, _, e => nomatch e
  | .str _ :: _, _, _, _, e => nomatch e
  | .ty _ :: _, _, _, _, e => nomatch e
  | .tup _ :: _, _, _, _, e => nomatch e
  | .lst _ :: _, _, _, _, e => nomatch e
  | .obj _ :: _, _, _, _, e => nomatch e
instance cd_any : CallD K (rAny K) wAny := ⟨fun ds xs μ P H Q h o rs r => by
  unfold wAny at h
  split at h
  · obtain ⟨bs, hb, h⟩ := onSome_e h
    obtain ⟨x, rfl, h1⟩ := rps1 rs
    obtain ⟨p, ys, rfl, h2, h3⟩ := h1.lstE
    refine ⟨p, bs, rfl, by rw [← bools_v h3 hb]; exact h2, r _ _ _ _ h (Step.refl _ _) o rfl⟩
  · exact h.elim⟩
instance cd_all : CallD K (rAll K) wAll := ⟨fun ds xs μ P H Q h o rs r => by
  unfold wAll at h
  split at h
  · obtain ⟨bs, hb, h⟩ := onSome_e h
    obtain ⟨x, rfl, h1⟩ := rps1 rs
    obtain ⟨p, ys, rfl, h2, h3⟩ := h1.lstE
    refine ⟨p, bs, rfl, by rw [← bools_v h3 hb]; exact h2, r _ _ _ _ h (Step.refl _ _) o rfl⟩
  · exact h.elim⟩
instance cd_int : CallD K rIntD wInt := ⟨fun ds xs μ P H Q h o rs r => by
  unfold wInt at h
  split at h
  · obtain ⟨x, rfl, h1⟩ := rps1 rs
    exact .inl ⟨_, congrArg (fun z => [z]) h1, r _ _ _ _ h (Step.refl _ _) o rfl⟩
  · obtain ⟨x, rfl, h1⟩ := rps1 rs
    exact .inr ⟨_, congrArg (fun z => [z]) h1, r _ _ _ _ h (Step.refl _ _) o rfl⟩
  · exact h.elim⟩
instance cd_abs : CallD K rAbsD wAbs := ⟨fun ds xs μ P H Q h o rs r => by
  unfold wAbs at h
  split at h
  · obtain ⟨x, rfl, h1⟩ := rps1 rs
    exact ⟨_, congrArg (fun z => [z]) h1, r _ _ _ _ h (Step.refl _ _) o rfl⟩
  · exact h.elim⟩
instance cd_max : CallD K rMaxD wMax2 := ⟨fun ds xs μ P H Q h o rs r => by
  unfold wMax2 at h
  split at h
  · obtain ⟨x, y, rfl, h1, h2⟩ := rps2 rs
    rw [show x = _ from h1, show y = _ from h2]
    exact ⟨_, _, rfl, r _ _ _ _ h (Step.refl _ _) o rfl⟩
  · exact h.elim⟩
instance cd_min : CallD K rMinD wMin2 := ⟨fun ds xs μ P H Q h o rs r => by
  unfold wMin2 at h
  split at h
  · obtain ⟨x, y, rfl, h1, h2⟩ := rps2 rs
    rw [show x = _ from h1, show y = _ from h2]
    exact ⟨_, _, rfl, r _ _ _ _ h (Step.refl _ _) o rfl⟩
  · exact h.elim⟩
instance cd_tup : CallD K (rTupD K) wTupOf := ⟨fun ds xs μ P H Q h o rs r => by
  unfold wTupOf at h
  split at h
  · obtain ⟨x, rfl, h1⟩ := rps1 rs
    obtain ⟨p, ys, rfl, h2, h3⟩ := h1.lstE
    exact ⟨p, ys, rfl, .inl ⟨h2, fun l hl => r _ _ _ _ h (Step.new o hl) (o.new hl) (Rp.newTup o hl h3)⟩⟩
  · obtain ⟨x, rfl, h1⟩ := rps1 rs
    obtain ⟨p, ys, e, h2, h3⟩ := h1.tupE
    exact ⟨p, ys, congrArg (fun z => [z]) e, .inr ⟨h2, r _ _ _ _ h (Step.refl _ _) o (e ▸ h1)⟩⟩
  · obtain ⟨zs, hz, h⟩ := onSome_e h
    · obtain ⟨x, rfl, h1⟩ := rps1 rs
      obtain ⟨ys, h2, h3⟩ := o _ _ hz
      exact ⟨_, ys, congrArg (fun z => [z]) h1, .inl ⟨.inl (.inl h2), fun l hl => r _ _ _ _ h (Step.new o hl) (o.new hl) (Rp.newTup o hl h3)⟩⟩
  · exact h.elim⟩
theorem ty_seqL {H : Hp} {a : Addr} {xs : List V} (h : SqL K H a xs) : TyX K H (.ref a) (.type "list") := by
  rcases h with (h | ⟨o, h⟩) | ⟨o, _, _, h, c, _⟩
  · exact .base (.lst h)
  · exact .base (.frz h)
  · exact .kList h c
theorem ty_seqT {H : Hp} {a : Addr} {xs : List V} (h : SqT K H a xs) : TyX K H (.ref a) (.type "tuple") := by
  rcases h with (h | ⟨o, h⟩) | ⟨o, _, _, h, c, _⟩
  · exact .base (.tup h)
  · exact .fTuple h
  · exact .kTuple h c
theorem ty_v {μ : Mu} {H : Hp} {d : DV} {x : V} {m : String} (h : Rp K μ H d x) (e : tyD d = some m) : TyX K H x (.type m) := by
  cases d with
  | non =>
    cases e
    rw [show x = V.non from h]
    exact .base .non
  | bl b =>
    cases e
    rw [show x = V.bl b from h]
    exact .base (.bl b)
  | int i =>
    cases e
    rw [show x = V.int i from h]
    exact .base (.int i)
  | str z =>
    cases e
    rw [show x = V.str z from h]
    exact .base (.str z)
  | ty n => cases e
  | tup ds =>
    cases e
    obtain ⟨a, xs, rfl, h1, _⟩ := h.tupE
    exact ty_seqT h1
  | lst ds =>
    cases e
    obtain ⟨a, xs, rfl, h1, _⟩ := h.lstE
    exact ty_seqL h1
  | obj a => cases e
instance cd_isi : CallD K (rIsi K) wIsi := ⟨fun ds xs μ P H Q h o rs r => by
  unfold wIsi at h
  split at h
  · obtain ⟨m, hm, h⟩ := onSome_e h
    obtain ⟨b, hb, h⟩ := onSome_e h
    obtain ⟨x, y, rfl, h1, h2⟩ := rps2 rs
    rw [show y = _ from h2]
    exact ⟨x, _, _, _, b, rfl, .ty _, ty_v h1 hm, kit_ty hb, r _ _ _ _ h (Step.refl _ _) o rfl⟩
  · exact h.elim⟩
end

/-! ### targets -/
def gdName (i : Nat) : DG := fun d ρ μ R => R (ρ.set i (some d)) μ
def gdNil : DGs := fun ds ρ μ R => match ds with
  | [] => R ρ μ
  | _ => False
def gdCons (G : DG) (Gs : DGs) : DGs := fun ds ρ μ R => match ds with
  | d :: r => G d ρ μ fun ρ1 μ1 => Gs r ρ1 μ1 R
  | [] => False
def gdTup (n : Nat) (Gs : DGs) : DG := fun d ρ μ R => match d with
  | .tup ds => ds.length = n ∧ Gs ds ρ μ R
  | _ => False
theorem wipe_set {σ : St} {i : Nat} {x : Option V} : ∀ {vs : List Nat}, i ∈ vs → wipe (σ.set i x) vs = wipe σ vs
  | [], h => by cases h
  | v :: vs, h => by
    show (wipe (σ.set i x) vs).set v none = (wipe σ vs).set v none
    by_cases hv : i ∈ vs
    · rw [wipe_set hv]
    · have e : i = v := by
        rcases List.mem_cons.mp h with e | e
        · exact e
        · exact absurd e hv
      subst e
      have key : ∀ (vs : List Nat) (σ : St), (wipe (σ.set i x) vs).set i none = (wipe σ vs).set i none := by
        intro vs
        induction vs with
        | nil =>
          intro σ
          show (σ.set i x).set i none = σ.set i none
          rw [List.set_set]
        | cons w ws ih =>
          intro σ
          show ((wipe (σ.set i x) ws).set w none).set i none = ((wipe σ ws).set w none).set i none
          by_cases hw : w = i
          · subst hw
            rw [List.set_set, List.set_set, ih]
          · rw [List.set_comm _ _ hw, ih, List.set_comm _ _ hw]
      exact key vs σ
section
variable {K : PySem.W.Frag}
instance eg_name {i : Nat} : EvG K (gName i) [i] (gdName i) := ⟨fun d v ρ μ R σ H Q h o s r k =>
  k _ H _ μ h (Step.refl _ _) o (s.set i r) fun vs hv => wipe_set (hv i (List.mem_singleton.mpr rfl))⟩
instance eg_nil : EvGs K gNil [] gdNil := ⟨fun ds xs ρ μ R σ H Q h o s r k => by
  unfold gdNil at h
  split at h
  · exact ⟨r, k _ H _ μ h (Step.refl _ _) o s fun _ _ => rfl⟩
  · exact h.elim⟩
instance eg_cons {g : TG} {gs : TGs} {is js : List Nat} {G : DG} {Gs : DGs} [a : EvG K g is G] [b : EvGs K gs js Gs] : EvGs K (gCons g gs) (is ++ js) (gdCons G Gs) := ⟨fun ds xs ρ μ R σ H Q h o s r k => by
  unfold gdCons at h
  split at h
  · rename_i d ds'
    obtain ⟨x, xr, rfl, r1, r2⟩ := (show ∃ x r, xs = x :: r ∧ Rp K μ H d x ∧ Rps K μ H ds' r from r)
    refine ⟨x, xr, rfl, a.run _ x ρ μ _ σ H _ h o s r1 fun σ1 H1 ρ1 μ1 h1 s1 o1 sr1 w1 => ?_⟩
    exact b.run _ xr ρ1 μ1 R σ1 H1 Q h1 o1 sr1 (r2.mono s1) fun σ2 H2 ρ2 μ2 h2 s2 o2 sr2 w2 => k σ2 H2 ρ2 μ2 h2 (s1.trans s2) o2 sr2 fun vs hv =>
      (w2 vs fun i hi => hv i (List.mem_append_right _ hi)).trans (w1 vs fun i hi => hv i (List.mem_append_left _ hi))
  · exact h.elim⟩
instance eg_tup {n : Nat} {gs : TGs} {is : List Nat} {Gs : DGs} [b : EvGs K gs is Gs] : EvG K (gTup K n gs) is (gdTup n Gs) := ⟨fun d v ρ μ R σ H Q h o s r k => by
  unfold gdTup at h
  split at h
  · obtain ⟨p, xs, e, h1, h2⟩ := r.tupE
    exact ⟨p, xs, e, h1, h2.length.trans h.1, b.run _ xs ρ μ R σ H Q h.2 o s h2 k⟩
  · exact h.elim⟩
end

/-! ### what is walked -/
def idSeq (Wa : DE) : DI := fun ρ μ R => Wa ρ μ fun d μ1 => match d with
  | .tup ds => R ds μ1
  | .lst ds => R ds μ1
  | _ => False
def idLst (Wa : DE) : DI := fun ρ μ R => Wa ρ μ fun d μ1 => match d with
  | .lst ds => R ds μ1
  | _ => False
def idTup (Wa : DE) : DI := fun ρ μ R => Wa ρ μ fun d μ1 => match d with
  | .tup ds => R ds μ1
  | _ => False
def rangeD (lo : Int) (n : Nat) : List DV := (List.range n).map fun i => .int (lo + (i : Nat))
def idRng1 (Wa : DA) : DI := fun ρ μ R => Wa ρ μ fun ds μ1 => match ds with
  | [.int j] => (-(2 ^ 62) ≤ j ∧ j < 2 ^ 62) ∧ R (rangeD 0 j.toNat) μ1
  | _ => False
def idRng2 (Wa : DA) : DI := fun ρ μ R => Wa ρ μ fun ds μ1 => match ds with
  | [.int i, .int j] => (-(2 ^ 62) ≤ i ∧ i < 2 ^ 62 ∧ -(2 ^ 62) ≤ j ∧ j < 2 ^ 62) ∧ R (rangeD i (j - i).toNat) μ1
  | _ => False
def enumD : Nat → List DV → List DV
  | _, [] => []
  | i, d :: ds => .tup [.int (i : Nat), d] :: enumD (i + 1) ds
theorem enumD_length : ∀ (i : Nat) (ds : List DV), (enumD i ds).length = ds.length
  | _, [] => rfl
  | i, d :: ds => by
    show (enumD (i + 1) ds).length + 1 = ds.length + 1
    rw [enumD_length (i + 1) ds]
theorem enumD_get : ∀ (j : Nat) (ds : List DV) (i : Nat) (d : DV), (enumD j ds)[i]? = some d → ∃ e, ds[i]? = some e ∧ d = .tup [.int ((j + i : Nat) : Int), e]
  | _, [], i, d, h => by
    rw [show enumD _ [] = [] from rfl] at h
    simp at h
  | j, e :: ds, 0, d, h => ⟨e, rfl, (Option.some.inj (show some (DV.tup [.int (j : Nat), e]) = some d from h)).symm⟩
  | j, e :: ds, i + 1, d, h => by
    obtain ⟨x, h1, h2⟩ := enumD_get (j + 1) ds i d (by simpa [enumD] using h)
    refine ⟨x, by simpa using h1, ?_⟩
    rw [h2, show j + 1 + i = j + (i + 1) by omega]
def idEnumL (Wa : DA) : DI := fun ρ μ R => Wa ρ μ fun ds μ1 => match ds with
  | [.lst xs] => R (enumD 0 xs) μ1
  | _ => False
def idEnumT (Wa : DA) : DI := fun ρ μ R => Wa ρ μ fun ds μ1 => match ds with
  | [.tup xs] => R (enumD 0 xs) μ1
  | _ => False
def zipD : List DV → List DV → List DV
  | d :: ds, e :: es => .tup [d, e] :: zipD ds es
  | _, _ => []
theorem zipD_length : ∀ (ds es : List DV), (zipD ds es).length = min ds.length es.length
  | [], _ => by
    rw [show zipD [] _ = [] by simp [zipD]]
    simp
  | _ :: _, [] => by
    rw [show zipD (_ :: _) [] = [] by simp [zipD]]
    simp
  | d :: ds, e :: es => by
    show (zipD ds es).length + 1 = _
    rw [zipD_length ds es, List.length_cons, List.length_cons]
    omega
theorem zipD_get : ∀ (ds es : List DV) (i : Nat) (d : DV), (zipD ds es)[i]? = some d → ∃ x y, ds[i]? = some x ∧ es[i]? = some y ∧ d = .tup [x, y]
  | [], _, _, _, h => by simp [zipD] at h
  | _ :: _, [], _, _, h => by simp [zipD] at h
  | x :: ds, y :: es, 0, d, h => ⟨x, y, rfl, rfl, (Option.some.inj (show some (DV.tup [x, y]) = some d from h)).symm⟩
  | x :: ds, y :: es, i + 1, d, h => by
    obtain ⟨u, v, h1, h2, h3⟩ := zipD_get ds es i d (by simpa [zipD] using h)
    exact ⟨u, v, by simpa using h1, by simpa using h2, h3⟩
def idZip (Wa : DA) : DI := fun ρ μ R => Wa ρ μ fun ds μ1 => match ds with
  | [.tup xs, .tup ys] => R (zipD xs ys) μ1
  | [.lst xs, .lst ys] => R (zipD xs ys) μ1
  | _ => False
section
variable {K : PySem.W.Frag} {μ : Mu} {H : Hp}
theorem Rp.tupK {ds : List DV} {v : V} (h : Rp K μ H (.tup ds) v) : ∃ a xs, v = .ref a ∧ (∀ H', Kp μ H H' → SqT K H' a xs) ∧ Rps K μ H ds xs := h
theorem Rp.lstK {ds : List DV} {v : V} (h : Rp K μ H (.lst ds) v) : ∃ a xs, v = .ref a ∧ (∀ H', Kp μ H H' → SqL K H' a xs) ∧ Rps K μ H ds xs := h
theorem Step.toKp {μ' : Mu} {H' : Hp} (s : Step μ H μ' H') : Kp μ H H' := fun b o h1 h2 => (s b o h1 h2).1
theorem itD_tup {a : Addr} {xs : List V} {ds : List DV} (h1 : ∀ H', Kp μ H H' → SqT K H' a xs) (h2 : Rps K μ H ds xs) : ItD K μ H (Itt K a) ds := fun μ2 H2 s o => by
  have q := h1 H2 s.toKp
  refine ⟨fun i d e => ?_, ⟨xs, q, by rw [h2.length]; exact Nat.le_refl _⟩⟩
  obtain ⟨v, hv, rv⟩ := h2.get e
  refine ⟨⟨xs, v, q, hv⟩, fun x H3 y => ?_⟩
  obtain ⟨rfl, f⟩ := y
  have ex : x = v := Option.some.inj ((f xs q).symm.trans hv)
  subst ex
  exact ⟨Step.refl _ _, o, rv.mono s⟩
theorem itD_lst {a : Addr} {xs : List V} {ds : List DV} (h1 : ∀ H', Kp μ H H' → SqL K H' a xs) (h2 : Rps K μ H ds xs) : ItD K μ H (Itl K a) ds := fun μ2 H2 s o => by
  have q := h1 H2 s.toKp
  refine ⟨fun i d e => ?_, ⟨xs, q, by rw [h2.length]; exact Nat.le_refl _⟩⟩
  obtain ⟨v, hv, rv⟩ := h2.get e
  refine ⟨⟨xs, v, q, hv⟩, fun x H3 y => ?_⟩
  obtain ⟨rfl, f⟩ := y
  have ex : x = v := Option.some.inj ((f xs q).symm.trans hv)
  subst ex
  exact ⟨Step.refl _ _, o, rv.mono s⟩
theorem itD_rng {lo : Int} {n : Nat} : ItD K μ H (Itr lo n) (rangeD lo n) := fun μ2 H2 s o => by
  refine ⟨fun i d e => ?_, by show n ≤ (rangeD lo n).length; simp [rangeD]⟩
  unfold rangeD at e
  rw [List.getElem?_map] at e
  obtain ⟨j, hj, rfl⟩ := Option.map_eq_some_iff.mp e
  have hi : i < n := by
    have z := (List.getElem?_eq_some_iff.mp hj).1
    simpa using z
  have ej : j = i := by
    rw [List.getElem?_range hi] at hj
    exact (Option.some.inj hj).symm
  subst ej
  refine ⟨hi, fun x H3 y => ?_⟩
  obtain ⟨rfl, rfl⟩ := y
  exact ⟨Step.refl _ _, o, rfl⟩
theorem pair_new {μ2 : Mu} {H2 : Hp} {T : Addr} {x y : V} {d e : DV} (o : Ok K μ2 H2) (hT : H2 T = none) (r1 : Rp K μ2 H2 d x) (r2 : Rp K μ2 H2 e y) :
    Step μ2 H2 μ2 (upd H2 T (.tup [x, y])) ∧ Ok K μ2 (upd H2 T (.tup [x, y])) ∧ Rp K μ2 (upd H2 T (.tup [x, y])) (.tup [d, e]) (.ref T) :=
  ⟨Step.new o hT, o.new hT, Rp.newTup o hT ⟨x, [y], rfl, r1, y, [], rfl, r2, rfl⟩⟩
theorem itD_enumL {a : Addr} {xs : List V} {ds : List DV} (h1 : ∀ H', Kp μ H H' → SqL K H' a xs) (h2 : Rps K μ H ds xs) : ItD K μ H (Ite K a) (enumD 0 ds) := fun μ2 H2 s o => by
  have q := h1 H2 s.toKp
  refine ⟨fun i d e => ?_, ⟨xs, q, by rw [h2.length, enumD_length]; exact Nat.le_refl _⟩⟩
  obtain ⟨d', e', rfl⟩ := enumD_get 0 ds i d e
  rw [Nat.zero_add]
  obtain ⟨v, hv, rv⟩ := h2.get e'
  refine ⟨⟨xs, v, q, hv⟩, fun x H3 y => ?_⟩
  obtain ⟨T, z, rfl, hT, rfl, f⟩ := y
  have ex : z = v := Option.some.inj ((f xs q).symm.trans hv)
  subst ex
  exact pair_new o hT rfl (rv.mono s)
theorem itD_zipT {a b : Addr} {xs ys : List V} {ds es : List DV} (h1 : ∀ H', Kp μ H H' → SqT K H' a xs) (h2 : Rps K μ H ds xs) (g1 : ∀ H', Kp μ H H' → SqT K H' b ys) (g2 : Rps K μ H es ys) : ItD K μ H (RZ.ItzT K a b) (zipD ds es) := fun μ2 H2 s o => by
  have q := h1 H2 s.toKp
  have q' := g1 H2 s.toKp
  refine ⟨fun i d e => ?_, ⟨xs, ys, q, q', by rw [h2.length, g2.length, zipD_length]; omega⟩⟩
  obtain ⟨d1, d2, e1, e2, rfl⟩ := zipD_get ds es i d e
  obtain ⟨v, hv, rv⟩ := h2.get e1
  obtain ⟨v', hv', rv'⟩ := g2.get e2
  refine ⟨⟨xs, ys, v, v', q, q', hv, hv'⟩, fun x H3 y => ?_⟩
  obtain ⟨T, z, z', rfl, hT, rfl, f, f'⟩ := y
  have ex : z = v := Option.some.inj ((f xs q).symm.trans hv)
  have ex' : z' = v' := Option.some.inj ((f' ys q').symm.trans hv')
  subst ex ex'
  exact pair_new o hT (rv.mono s) (rv'.mono s)
theorem itD_zipL {a b : Addr} {xs ys : List V} {ds es : List DV} (h1 : ∀ H', Kp μ H H' → SqL K H' a xs) (h2 : Rps K μ H ds xs) (g1 : ∀ H', Kp μ H H' → SqL K H' b ys) (g2 : Rps K μ H es ys) : ItD K μ H (Itz K a b) (zipD ds es) := fun μ2 H2 s o => by
  have q := h1 H2 s.toKp
  have q' := g1 H2 s.toKp
  refine ⟨fun i d e => ?_, ⟨xs, ys, q, q', by rw [h2.length, g2.length, zipD_length]; omega⟩⟩
  obtain ⟨d1, d2, e1, e2, rfl⟩ := zipD_get ds es i d e
  obtain ⟨v, hv, rv⟩ := h2.get e1
  obtain ⟨v', hv', rv'⟩ := g2.get e2
  refine ⟨⟨xs, ys, v, v', q, q', hv, hv'⟩, fun x H3 y => ?_⟩
  obtain ⟨T, z, z', rfl, hT, rfl, f, f'⟩ := y
  have ex : z = v := Option.some.inj ((f xs q).symm.trans hv)
  have ex' : z' = v' := Option.some.inj ((f' ys q').symm.trans hv')
  subst ex ex'
  exact pair_new o hT (rv.mono s) (rv'.mono s)
end
section
variable {K : PySem.W.Frag}
instance ei_list {ta : TE} {Wa : DE} [a : EvE K ta Wa] : EvI K (iList K ta) (idLst Wa) := ⟨fun ρ μ R σ H Q h o s k =>
  a.run ρ μ _ σ H _ h o s fun x H1 d μ1 h1 s1 o1 r1 => by
    split at h1
    · obtain ⟨p, xs, e, q1, q2⟩ := r1.lstK
      exact ⟨p, e, ⟨xs, q1 H1 kp_refl⟩, k _ _ _ _ h1 s1 o1 (itD_lst q1 q2)⟩
    · exact h1.elim⟩
instance ei_tup {ta : TE} {Wa : DE} [a : EvE K ta Wa] : EvI K (iTup K ta) (idTup Wa) := ⟨fun ρ μ R σ H Q h o s k =>
  a.run ρ μ _ σ H _ h o s fun x H1 d μ1 h1 s1 o1 r1 => by
    split at h1
    · obtain ⟨p, xs, e, q1, q2⟩ := r1.tupK
      exact ⟨p, e, ⟨xs, q1 H1 kp_refl⟩, k _ _ _ _ h1 s1 o1 (itD_tup q1 q2)⟩
    · exact h1.elim⟩
instance ei_rng1 {ta : TA} {Wa : DA} [a : EvA K ta Wa] : EvI K (iRng1 ta) (idRng1 Wa) := ⟨fun ρ μ R σ H Q h o s k =>
  a.run ρ μ _ σ H _ h o s fun xs H1 ds μ1 h1 s1 o1 r1 => by
    split at h1
    · obtain ⟨x, rfl, r⟩ := rps1 r1
      exact ⟨_, congrArg (fun z => [z]) r, h1.1.1, h1.1.2, k _ _ _ _ h1.2 s1 o1 itD_rng⟩
    · exact h1.elim⟩
instance ei_rng2 {ta : TA} {Wa : DA} [a : EvA K ta Wa] : EvI K (iRng2 ta) (idRng2 Wa) := ⟨fun ρ μ R σ H Q h o s k =>
  a.run ρ μ _ σ H _ h o s fun xs H1 ds μ1 h1 s1 o1 r1 => by
    split at h1
    · obtain ⟨x, y, rfl, r, r'⟩ := rps2 r1
      rw [show x = _ from r, show y = _ from r']
      exact ⟨_, _, rfl, h1.1, k _ _ _ _ h1.2 s1 o1 itD_rng⟩
    · exact h1.elim⟩
instance ei_enum {ta : TA} {Wa : DA} [a : EvA K ta Wa] : EvI K (iEnum K ta) (idEnumL Wa) := ⟨fun ρ μ R σ H Q h o s k =>
  a.run ρ μ _ σ H _ h o s fun xs H1 ds μ1 h1 s1 o1 r1 => by
    split at h1
    · obtain ⟨x, rfl, r⟩ := rps1 r1
      obtain ⟨p, ys, rfl, q1, q2⟩ := r.lstK
      exact ⟨p, ys, rfl, q1 H1 kp_refl, k _ _ _ _ h1 s1 o1 (itD_enumL q1 q2)⟩
    · exact h1.elim⟩
instance ei_zip {ta : TA} {Wa : DA} [a : EvA K ta Wa] : EvI K (RZ.iZipA K ta) (idZip Wa) := ⟨fun ρ μ R σ H Q h o s k =>
  a.run ρ μ _ σ H _ h o s fun xs H1 ds μ1 h1 s1 o1 r1 => by
    split at h1
    · obtain ⟨x, y, rfl, r, r'⟩ := rps2 r1
      obtain ⟨p, ys, rfl, q1, q2⟩ := r.tupK
      obtain ⟨p', ys', rfl, q1', q2'⟩ := r'.tupK
      exact ⟨p, p', ys, ys', rfl, .inr ⟨q1 H1 kp_refl, q1' H1 kp_refl, k _ _ _ _ h1 s1 o1 (itD_zipT q1 q2 q1' q2')⟩⟩
    · obtain ⟨x, y, rfl, r, r'⟩ := rps2 r1
      obtain ⟨p, ys, rfl, q1, q2⟩ := r.lstK
      obtain ⟨p', ys', rfl, q1', q2'⟩ := r'.lstK
      exact ⟨p, p', ys, ys', rfl, .inl ⟨q1 H1 kp_refl, q1' H1 kp_refl, k _ _ _ _ h1 s1 o1 (itD_zipL q1 q2 q1' q2')⟩⟩
    · exact h1.elim⟩
end

/-! ### list comprehensions -/
abbrev Mu.del (μ : Mu) (a : Addr) : Mu := fun b => if b = a then none else μ b
theorem Mu.del_set {μ : Mu} {a : Addr} {ds : List DV} (h : μ a = none) : Mu.del (Mu.set μ a ds) a = μ := by
  funext b
  show (if b = a then none else if b = a then some ds else μ b) = μ b
  by_cases e : b = a
  · rw [if_pos e, e, h]
  · rw [if_neg e, if_neg e]
theorem Mu.del_same {μ : Mu} {a : Addr} : Mu.del μ a a = none := if_pos rfl
theorem Mu.del_ne {μ : Mu} {a b : Addr} (h : b ≠ a) : Mu.del μ a b = μ b := if_neg h
theorem Mu.set_set {μ : Mu} {a : Addr} {ds es : List DV} : Mu.set (Mu.set μ a ds) a es = Mu.set μ a es := by
  funext b
  show (if b = a then some es else if b = a then some ds else μ b) = if b = a then some es else μ b
  by_cases e : b = a
  · rw [if_pos e, if_pos e]
  · rw [if_neg e, if_neg e, if_neg e]
/-- what is left of ds; acc is made, it stands at D in the store -/
def lcW (D : Addr) (step : DV → Mu → (Option DV → Mu → Prop) → Prop) : List DV → List DV → Mu → DK → Prop
  | [], acc, μ, P => P (.lst acc) (Mu.del μ D)
  | d :: ds, acc, μ, P => step d μ fun o μ' => μ' D = some acc ∧ match o with
    | none => lcW D step ds acc μ' P
    | some y => lcW D step ds (acc ++ [y]) (Mu.set μ' D (acc ++ [y])) P
def lcStep (G : DG) (T : DT) (Ee : DE) (ρw : DEnv) : DV → Mu → (Option DV → Mu → Prop) → Prop := fun d μ k =>
  G d ρw μ fun ρ2 μ2 => T ρ2 μ2 fun b μ3 => if b = true then Ee ρ2 μ3 fun y μ4 => k (some y) μ4 else k none μ3
def wLc (I : DI) (G : DG) (T : DT) (Ee : DE) (vs : List Nat) : DE := fun ρ μ P => I ρ μ fun ds μ1 => ds.length ≤ sizeLine ∧ ∀ D, μ1 D = none → lcW D (lcStep G T Ee (wipeD ρ vs)) ds [] (Mu.set μ1 D []) P
class SubN (is vs : List Nat) : Prop where
  sub : ∀ i ∈ is, i ∈ vs
instance sub_nil {vs : List Nat} : SubN [] vs := ⟨fun _ h => by cases h⟩
class MemN (i : Nat) (vs : List Nat) : Prop where
  mem : i ∈ vs
instance mem_here {i : Nat} {vs : List Nat} : MemN i (i :: vs) := ⟨List.mem_cons_self⟩
instance (priority := low) mem_there {i j : Nat} {vs : List Nat} [h : MemN i vs] : MemN i (j :: vs) := ⟨List.mem_cons_of_mem _ h.mem⟩
instance sub_cons {i : Nat} {is vs : List Nat} [a : MemN i vs] [b : SubN is vs] : SubN (i :: is) vs := ⟨fun j h => by
  rcases List.mem_cons.mp h with rfl | h
  · exact a.mem
  · exact b.sub j h⟩
instance sub_app {is js vs : List Nat} [a : SubN is vs] [b : SubN js vs] : SubN (is ++ js) vs := ⟨fun j h => by
  rcases List.mem_append.mp h with h | h
  · exact a.sub j h
  · exact b.sub j h⟩
section
variable {K : PySem.W.Frag}
instance ev_lc {wi : TI} {g : TG} {tt : TT} {te : TE} {vs is : List Nat} {I : DI} {G : DG} {T : DT} {Ee : DE} [a : EvI K wi I] [b : EvG K g is G] [c : EvT K tt T] [d : EvE K te Ee] [sb : SubN is vs] : EvE K (tLc wi g tt te vs) (wLc I G T Ee vs) := ⟨fun ρ μ P σ H Q h o s r => by
  refine a.run ρ μ _ σ H _ h o s fun J H1 ds μ1 h1 s1 o1 it => ?_
  obtain ⟨hlen, h1⟩ := h1
  intro D hD
  have hμ := o1.fresh hD
  refine ⟨fun i m Hc => i + m = ds.length ∧ ∃ acc μc, μc D = some acc ∧ acc.length ≤ i ∧ Step μ1 H1 μc Hc ∧ Ok K μc Hc ∧ lcW D (lcStep G T Ee (wipeD ρ vs)) (ds.drop i) acc μc P,
    ⟨ds.length, by omega, [], _, Mu.set_same, Nat.le_refl _, Step.newM o1 hD, o1.newM (ds := []) (xs := []) hD rfl, h1 D hμ⟩, ?_⟩
  rintro i m Hc ⟨him, acc, μc, hacc, hai, hst, hok, hw⟩
  obtain ⟨itg, its⟩ := it μc Hc hst hok
  by_cases hi : i < ds.length
  · have hd : ds.drop i = ds[i] :: ds.drop (i + 1) := List.drop_eq_getElem_cons hi
    rw [hd] at hw
    have hw : lcStep G T Ee (wipeD ρ vs) ds[i] μc fun o μ' => μ' D = some acc ∧ match o with
      | none => lcW D (lcStep G T Ee (wipeD ρ vs)) (ds.drop (i + 1)) acc μ' P
      | some y => lcW D (lcStep G T Ee (wipeD ρ vs)) (ds.drop (i + 1)) (acc ++ [y]) (Mu.set μ' D (acc ++ [y])) P := hw
    obtain ⟨g1, g2⟩ := itg i ds[i] (List.getElem?_eq_getElem hi)
    refine .inr ⟨g1, fun Hn => ∃ acc' μn, μn D = some acc' ∧ acc'.length ≤ i + 1 ∧ Step μ1 H1 μn Hn ∧ Ok K μn Hn ∧ lcW D (lcStep G T Ee (wipeD ρ vs)) (ds.drop (i + 1)) acc' μn P, fun H' hn => ⟨m - 1, by omega, by omega, hn⟩, fun x H' y => ?_⟩
    obtain ⟨s2, o2, r2⟩ := g2 x H' y
    have sρ : SR K μc H' (wipeD ρ vs) (wipe σ vs) := SR.wipe (s.mono (s1.trans (hst.trans s2))) vs
    refine b.run _ x _ μc _ _ H' _ hw o2 sρ r2 fun σ2 H2 ρ2 μ2 h2 s3 o3 sr3 wp => ?_
    refine ⟨?_, ?_⟩
    · rw [wp vs sb.sub]
      have ww : ∀ (ws : List Nat) (τ : L2.St), wipe (wipe τ ws) ws = wipe τ ws := by
        intro ws
        induction ws with
        | nil => intro τ; rfl
        | cons v ws ih =>
          intro τ
          show (wipe ((wipe τ ws).set v none) ws).set v none = (wipe τ ws).set v none
          have key : ∀ (us : List Nat) (τ : L2.St), (wipe (τ.set v none) us).set v none = (wipe τ us).set v none := by
            intro us
            induction us with
            | nil =>
              intro τ
              show (τ.set v none).set v none = τ.set v none
              rw [List.set_set]
            | cons u us ih2 =>
              intro τ
              show ((wipe (τ.set v none) us).set u none).set v none = ((wipe τ us).set u none).set v none
              by_cases hu : u = v
              · subst hu
                rw [List.set_set, List.set_set, ih2]
              · rw [List.set_comm _ _ hu, ih2, List.set_comm _ _ hu]
          rw [key, ih]
      exact ww vs σ
    · refine c.run _ μ2 _ _ H2 _ h2 o3 sr3 fun bb H3 μ3 h3 s4 o4 => ?_
      have st3 : Step μ1 H1 μ3 H3 := (hst.trans s2).trans (s3.trans s4)
      refine if_run h3 (fun h3 => ?_) fun h3 => ?_
      · refine d.run _ μ3 _ _ H3 _ h3 o4 (sr3.mono s4) fun v H4 yv μ4 h4 s5 o5 r5 => ?_
        obtain ⟨h4, h5⟩ := h4
        obtain ⟨xs, q1, q2⟩ := o5 D acc h4
        have hl := q2.length
        refine ⟨xs, q1, by omega, acc ++ [yv], _, Mu.set_same, by rw [List.length_append, List.length_singleton]; omega, (st3.trans s5).trans (Step.put h4), o5.put h4 (q2.append (Rps.one r5)), h5⟩
      · obtain ⟨h4, h5⟩ := h3
        exact ⟨acc, μ3, h4, by omega, st3, o4, h5⟩
  · have e : i = ds.length := by omega
    subst e
    rw [List.drop_length] at hw
    have hw : P (.lst acc) (Mu.del μc D) := hw
    refine .inl ⟨its, ?_⟩
    have less : ∀ b, μc b = none → Mu.del μc D b = none := fun b hb => by
      by_cases e : b = D
      · rw [e, Mu.del_same]
      · rw [Mu.del_ne e, hb]
    obtain ⟨xs, q1, q2⟩ := hok D acc hacc
    refine r _ _ _ _ hw (fun b q e1 e2 => ?_) (fun a es ea => ?_) ⟨D, xs, rfl, fun H' k => .inl (.inl (k D _ Mu.del_same q1)), q2.less less⟩
    · have z := (s1.trans hst) b q e1 e2
      exact ⟨z.1, less b z.2⟩
    · by_cases e : a = D
      · rw [e, Mu.del_same] at ea
        cases ea
      · rw [Mu.del_ne e] at ea
        obtain ⟨ys, p1, p2⟩ := hok a es ea
        exact ⟨ys, p1, p2.less less⟩⟩
end
section
variable {step : DV → Mu → (Option DV → Mu → Prop) → Prop} {D : Addr}
/-- a comprehension that changes nothing in the store, each item's value f -/
theorem lcW_pure (f : DV → Option DV) : ∀ (ds acc : List DV) (μ : Mu) (P : DK), μ D = none → (∀ d ∈ ds, ∀ ν (k : Option DV → Mu → Prop), k (f d) ν → step d ν k) → P (.lst (acc ++ ds.filterMap f)) μ → lcW D step ds acc (Mu.set μ D acc) P
  | [], acc, μ, P, hD, _, h => by
    show P (.lst acc) (Mu.del (Mu.set μ D acc) D)
    rw [Mu.del_set hD]
    rw [List.filterMap_nil, List.append_nil] at h
    exact h
  | d :: ds, acc, μ, P, hD, hs, h => by
    refine hs d List.mem_cons_self _ _ ?_
    refine ⟨Mu.set_same, ?_⟩
    cases e : f d with
    | none =>
      refine lcW_pure f ds acc μ P hD (fun d' hd' => hs d' (List.mem_cons_of_mem _ hd')) ?_
      rw [List.filterMap_cons, e] at h
      exact h
    | some y =>
      show lcW D step ds (acc ++ [y]) (Mu.set (Mu.set μ D acc) D (acc ++ [y])) P
      rw [Mu.set_set]
      refine lcW_pure f ds (acc ++ [y]) μ P hD (fun d' hd' => hs d' (List.mem_cons_of_mem _ hd')) ?_
      rw [List.filterMap_cons, e] at h
      rw [List.append_assoc]
      exact h
/-- each item makes something that S holds of; G holds of the store all along, whatever stands at D -/
theorem lcW_inv (S : DV → Prop) (G : Mu → Prop) : ∀ (ds acc : List DV) (μ : Mu) (P : DK), μ D = some acc → G μ → (∀ ν es, ν D ≠ none → G ν → G (Mu.set ν D es)) → (∀ d ∈ acc, S d) →
    (∀ d ∈ ds, ∀ ν (k : Option DV → Mu → Prop), G ν → (∀ y ν', S y → G ν' → (∀ b es, ν b = some es → ν D ≠ none → b = D → ν' b = some es) → k (some y) ν') → step d ν k) →
    (∀ es μ', es.length = acc.length + ds.length → (∀ d ∈ es, S d) → G μ' → μ' D = some es → P (.lst es) (Mu.del μ' D)) → lcW D step ds acc μ P
  | [], acc, μ, P, hD, g, _, ha, _, h => h acc μ (by simp) ha g hD
  | d :: ds, acc, μ, P, hD, g, gs, ha, hs, h => by
    refine hs d List.mem_cons_self _ _ g fun y ν' hy g' hk => ?_
    have hD' : ν' D = some acc := hk D acc hD (by rw [hD]; exact fun z => nomatch z) rfl
    refine ⟨hD', ?_⟩
    show lcW D step ds (acc ++ [y]) (Mu.set ν' D (acc ++ [y])) P
    refine lcW_inv S G ds (acc ++ [y]) _ P Mu.set_same (gs _ _ (by rw [hD']; exact fun z => nomatch z) g') gs (fun d' hd' => ?_) (fun d' hd' => hs d' (List.mem_cons_of_mem _ hd')) fun es μ' hl hS hG hD2 => h es μ' ?_ hS hG hD2
    · rcases List.mem_append.mp hd' with z | z
      · exact ha d' z
      · rw [List.mem_singleton.mp z]
        exact hy
    · rw [hl, List.length_append, List.length_singleton, List.length_cons]
      omega
end

/-! ### methods that change a list -/
def wAppend (Wo : DE) (Wa : DA) : DE := fun ρ μ P => Wo ρ μ fun d μ1 => match d with
  | .obj a => onSome (μ1 a) fun _ => Wa ρ μ1 fun ds μ2 => match ds with
    | [y] => onSome (μ2 a) fun xs => xs.length < sizeLine ∧ P .non (Mu.set μ2 a (xs ++ [y]))
    | _ => False
  | _ => False
instance ev_append {K : PySem.W.Frag} {to : TE} {ta : TA} {Wo : DE} {Wa : DA} [a : EvE K to Wo] [b : EvA K ta Wa] : EvE K (tBM K "list" rAppend to ta) (wAppend Wo Wa) := ⟨fun ρ μ P σ H Q h o s r =>
  a.run ρ μ _ σ H _ h o s fun x H1 d μ1 h1 s1 o1 r1 => by
    split at h1
    · rename_i p
      obtain ⟨zs, hz, h1⟩ := onSome_e h1
      obtain ⟨xs, q1, q2⟩ := o1 p zs hz
      rw [show x = V.ref p from r1]
      refine ⟨.inl ⟨rfl, xs, .inl (.inl q1)⟩, b.run ρ μ1 _ σ H1 _ h1 o1 (s.mono s1) fun vs H2 ds μ2 h2 s2 o2 r2 => ?_⟩
      split at h2
      · obtain ⟨ys, hy, h2⟩ := onSome_e h2
        obtain ⟨v, rfl, rv⟩ := rps1 r2
        obtain ⟨us, p1, p2⟩ := o2 p ys hy
        exact ⟨p, us, v, rfl, rfl, p1, by rw [p2.length]; exact h2.1, r _ _ _ _ h2.2 ((s1.trans s2).trans (Step.put hy)) (o2.put hy (p2.append (Rps.one rv))) rfl⟩
      · exact h2.elim
    · exact h1.elim⟩
/-- o[i] = e, o a list that may change -/
def gdSub (Wo Wi : DE) : DG := fun d ρ μ R => Wo ρ μ fun x μ1 => Wi ρ μ1 fun y μ2 => match x, y with
  | .obj a, .int i => onSome (μ2 a) fun xs => onSome (ixN xs.length i) fun j => R ρ (Mu.set μ2 a (xs.set j d))
  | _, _ => False
instance eg_sub {K : PySem.W.Frag} {to ti : TE} {Wo Wi : DE} [a : EvE K to Wo] [b : EvE K ti Wi] : EvG K (gSub to ti rSetL) [] (gdSub Wo Wi) := ⟨fun d v ρ μ R σ H Q h o s r k =>
  a.run ρ μ _ σ H _ h o s fun x H1 dx μ1 h1 s1 o1 r1 => b.run ρ μ1 _ σ H1 _ h1 o1 (s.mono s1) fun y H2 dy μ2 h2 s2 o2 r2 => by
    split at h2
    · rename_i p i
      obtain ⟨xs, hx, h2⟩ := onSome_e h2
      obtain ⟨j, hj, h2⟩ := onSome_e h2
      obtain ⟨us, p1, p2⟩ := o2 p xs hx
      rw [show x = V.ref p from r1, show y = V.int i from r2]
      refine ⟨p, us, i, j, rfl, rfl, p1, by rw [p2.length]; exact hj, ?_⟩
      have rr : Rp K μ2 H2 d v := (r.mono s1).mono s2
      exact k _ _ _ _ h2 ((s1.trans s2).trans (Step.put hx)) (o2.put hx (p2.set j rr)) (s.mono ((s1.trans s2).trans (Step.put hx))) fun _ _ => rfl
    · exact h2.elim⟩

/-! ### statements -/
def wNext : DS := fun E ρ μ => E.nx ρ μ
def wSeq (Wa Wb : DS) : DS := fun E ρ μ => Wa { E with nx := fun ρ1 μ1 => Wb E ρ1 μ1 } ρ μ
def wDrop (Wa : DE) : DS := fun E ρ μ => Wa ρ μ fun _ μ1 => E.nx ρ μ1
def wRet (Wa : DE) : DS := fun E ρ μ => Wa ρ μ E.rt
def wRetN : DS := fun E _ μ => E.rt .non μ
def wIfS (Wc : DT) (Wa Wb : DS) : DS := fun E ρ μ => Wc ρ μ fun b μ1 => if b = true then Wa E ρ μ1 else Wb E ρ μ1
def wBreak : DS := fun E ρ μ => E.bk ρ μ
def wCont : DS := fun E ρ μ => E.ct ρ μ
def wNever : DS := fun _ _ _ => False
def wAsg (Wa : DE) (G : DG) : DS := fun E ρ μ => Wa ρ μ fun d μ1 => G d ρ μ1 E.nx
def wPar (i j : Nat) (Wa : DA) : DS := fun E ρ μ => Wa ρ μ fun ds μ1 => match ds with
  | [x, y] => E.nx ((ρ.set i (some x)).set j (some y)) μ1
  | _ => False
def wPar3 (i j l : Nat) (Wa : DA) : DS := fun E ρ μ => Wa ρ μ fun ds μ1 => match ds with
  | [x, y, z] => E.nx (((ρ.set i (some x)).set j (some y)).set l (some z)) μ1
  | _ => False
def forW (G : DG) (B : DS) (E : DEnds) : List DV → DEnv → Mu → Prop
  | [], ρ, μ => E.nx ρ μ
  | d :: ds, ρ, μ => G d ρ μ fun ρ2 μ2 => B { nx := fun ρ3 μ3 => forW G B E ds ρ3 μ3, ct := fun ρ3 μ3 => forW G B E ds ρ3 μ3, bk := E.nx, rt := E.rt } ρ2 μ2
def wFor (I : DI) (G : DG) (B : DS) : DS := fun E ρ μ => I ρ μ fun ds μ1 => forW G B E ds ρ μ1
def wWhile (Wc : DT) (B : DS) : DS := fun E ρ μ => ∃ W : Nat → DEnv → Mu → Prop, (∃ m, W m ρ μ) ∧ ∀ m ρ μ, W m ρ μ → Wc ρ μ fun b μ1 =>
  if b = true then B { nx := fun ρ' μ' => ∃ m', m' < m ∧ W m' ρ' μ', ct := fun ρ' μ' => ∃ m', m' < m ∧ W m' ρ' μ', bk := E.nx, rt := E.rt } ρ μ1 else E.nx ρ μ1
section
variable {K : PySem.W.Frag}
instance es_next : EvS K tNext wNext := ⟨fun E ρ μ σ H D h o s l => l.nx σ H ρ μ h (Step.refl _ _) o s⟩
instance es_break : EvS K tBreak wBreak := ⟨fun E ρ μ σ H D h o s l => l.bk σ H ρ μ h (Step.refl _ _) o s⟩
instance es_cont : EvS K tCont wCont := ⟨fun E ρ μ σ H D h o s l => l.ct σ H ρ μ h (Step.refl _ _) o s⟩
instance es_never : EvS K tNever wNever := ⟨fun E ρ μ σ H D h o s l => h.elim⟩
instance es_seq {t u : TS} {Wa Wb : DS} [a : EvS K t Wa] [b : EvS K u Wb] : EvS K (tSeq t u) (wSeq Wa Wb) := ⟨fun E ρ μ σ H D h o s l =>
  a.run _ ρ μ σ H _ h o s ⟨fun σ1 H1 ρ1 μ1 h1 s1 o1 sr => b.run E ρ1 μ1 σ1 H1 D h1 o1 sr (l.later s1), l.rt, l.bk, l.ct⟩⟩
instance es_drop {te : TE} {Wa : DE} [a : EvE K te Wa] : EvS K (tDrop te) (wDrop Wa) := ⟨fun E ρ μ σ H D h o s l =>
  a.run ρ μ _ σ H _ h o s fun v H1 d μ1 h1 s1 o1 r1 => l.nx σ H1 ρ μ1 h1 s1 o1 (s.mono s1)⟩
instance es_ret {te : TE} {Wa : DE} [a : EvE K te Wa] : EvS K (tRet te) (wRet Wa) := ⟨fun E ρ μ σ H D h o s l => a.run ρ μ _ σ H _ h o s l.rt⟩
instance es_retN : EvS K tRetN wRetN := ⟨fun E ρ μ σ H D h o s l => l.rt .non H .non μ h (Step.refl _ _) o rfl⟩
instance es_if {tc : TT} {t u : TS} {Wc : DT} {Wa Wb : DS} [c : EvT K tc Wc] [a : EvS K t Wa] [b : EvS K u Wb] : EvS K (tIfS tc t u) (wIfS Wc Wa Wb) := ⟨fun E ρ μ σ H D h o s l =>
  c.run ρ μ _ σ H _ h o s fun b' H1 μ1 h1 s1 o1 => if_run h1 (fun k => a.run E ρ μ1 σ H1 D k o1 (s.mono s1) (l.later s1)) fun k => b.run E ρ μ1 σ H1 D k o1 (s.mono s1) (l.later s1)⟩
instance es_asg {te : TE} {g : TG} {is : List Nat} {Wa : DE} {G : DG} [a : EvE K te Wa] [b : EvG K g is G] : EvS K (tAsg te g) (wAsg Wa G) := ⟨fun E ρ μ σ H D h o s l =>
  a.run ρ μ _ σ H _ h o s fun v H1 d μ1 h1 s1 o1 r1 => b.run d v ρ μ1 _ σ H1 _ h1 o1 (s.mono s1) r1 fun σ2 H2 ρ2 μ2 h2 s2 o2 sr2 _ => l.nx σ2 H2 ρ2 μ2 h2 (s1.trans s2) o2 sr2⟩
instance es_par {i j : Nat} {ta : TA} {Wa : DA} [a : EvA K ta Wa] : EvS K (tPar i j ta) (wPar i j Wa) := ⟨fun E ρ μ σ H D h o s l =>
  a.run ρ μ _ σ H _ h o s fun vs H1 ds μ1 h1 s1 o1 r1 => by
    split at h1
    · obtain ⟨x, y, rfl, q1, q2⟩ := rps2 r1
      exact ⟨x, y, rfl, l.nx _ H1 _ μ1 h1 s1 o1 (((s.mono s1).set i q1).set j q2)⟩
    · exact h1.elim⟩
theorem rps3 {μ : Mu} {H : Hp} {d e f : DV} {xs : List V} (h : Rps K μ H [d, e, f] xs) : ∃ x y z, xs = [x, y, z] ∧ Rp K μ H d x ∧ Rp K μ H e y ∧ Rp K μ H f z := by
  obtain ⟨x, r, q, h1, h2⟩ := (show ∃ x r, xs = x :: r ∧ Rp K μ H d x ∧ Rps K μ H [e, f] r from h)
  obtain ⟨y, z, rfl, h3, h4⟩ := rps2 h2
  exact ⟨x, y, z, q, h1, h3, h4⟩
instance es_par3 {i j k : Nat} {ta : TA} {Wa : DA} [a : EvA K ta Wa] : EvS K (tPar3 i j k ta) (wPar3 i j k Wa) := ⟨fun E ρ μ σ H D h o s l =>
  a.run ρ μ _ σ H _ h o s fun vs H1 ds μ1 h1 s1 o1 r1 => by
    split at h1
    · obtain ⟨x, y, z, rfl, q1, q2, q3⟩ := rps3 r1
      exact ⟨x, y, z, rfl, l.nx _ H1 _ μ1 h1 s1 o1 ((((s.mono s1).set i q1).set j q2).set k q3)⟩
    · exact h1.elim⟩
instance es_for {wi : TI} {g : TG} {tb : TS} {is : List Nat} {I : DI} {G : DG} {B : DS} [a : EvI K wi I] [b : EvG K g is G] [c : EvS K tb B] : EvS K (tFor wi g tb) (wFor I G B) := ⟨fun E ρ μ σ H D h o s l => by
  refine a.run ρ μ _ σ H _ h o s fun J H1 ds μ1 h1 s1 o1 it => ?_
  refine ⟨fun i m σc Hc => i + m = ds.length ∧ ∃ ρc μc, Step μ1 H1 μc Hc ∧ Ok K μc Hc ∧ SR K μc Hc ρc σc ∧ forW G B E (ds.drop i) ρc μc, ⟨ds.length, by omega, ρ, μ1, Step.refl _ _, o1, s.mono s1, h1⟩, ?_⟩
  rintro i m σc Hc ⟨him, ρc, μc, hst, hok, hsr, hw⟩
  obtain ⟨itg, its⟩ := it μc Hc hst hok
  by_cases hi : i < ds.length
  · rw [List.drop_eq_getElem_cons hi] at hw
    obtain ⟨g1, g2⟩ := itg i ds[i] (List.getElem?_eq_getElem hi)
    refine .inr ⟨g1, fun σn Hn => ∃ ρn μn, Step μ1 H1 μn Hn ∧ Ok K μn Hn ∧ SR K μn Hn ρn σn ∧ forW G B E (ds.drop (i + 1)) ρn μn, fun σ' H' hn => ⟨m - 1, by omega, by omega, hn⟩, fun x H' y => ?_⟩
    obtain ⟨s2, o2, r2⟩ := g2 x H' y
    refine b.run _ x ρc μc _ σc H' _ hw o2 (hsr.mono s2) r2 fun σ2 H2 ρ2 μ2 h2 s3 o3 sr3 _ => ?_
    have st2 : Step μ1 H1 μ2 H2 := hst.trans (s2.trans s3)
    refine c.run _ ρ2 μ2 σ2 H2 _ h2 o3 sr3 ⟨?_, (l.later (s1.trans st2)).rt, (l.later (s1.trans st2)).nx, ?_⟩
    · exact fun σ4 H4 ρ4 μ4 h4 s4 o4 sr4 => ⟨ρ4, μ4, st2.trans s4, o4, sr4, h4⟩
    · exact fun σ4 H4 ρ4 μ4 h4 s4 o4 sr4 => ⟨ρ4, μ4, st2.trans s4, o4, sr4, h4⟩
  · have e : i = ds.length := by omega
    subst e
    rw [List.drop_length] at hw
    exact .inl ⟨its, l.nx σc Hc ρc μc hw (s1.trans hst) hok hsr⟩⟩
instance es_while {tc : TT} {tb : TS} {Wc : DT} {B : DS} [a : EvT K tc Wc] [b : EvS K tb B] : EvS K (tWhile tc tb) (wWhile Wc B) := ⟨fun E ρ μ σ H D h o s l => by
  obtain ⟨W, ⟨m0, w0⟩, turn⟩ := h
  refine ⟨fun m σc Hc => ∃ ρc μc, Step μ H μc Hc ∧ Ok K μc Hc ∧ SR K μc Hc ρc σc ∧ W m ρc μc, ⟨m0, ρ, μ, Step.refl _ _, o, s, w0⟩, ?_⟩
  rintro m σc Hc ⟨ρc, μc, hst, hok, hsr, hw⟩
  refine a.run ρc μc _ σc Hc _ (turn m ρc μc hw) hok hsr fun bb H1 μ1 h1 s1 o1 => ?_
  refine if_run h1 (fun h1 => ?_) fun h1 => l.nx σc H1 ρc μ1 h1 (hst.trans s1) o1 (hsr.mono s1)
  refine ⟨fun σn Hn => ∃ m', m' < m ∧ ∃ ρn μn, Step μ H μn Hn ∧ Ok K μn Hn ∧ SR K μn Hn ρn σn ∧ W m' ρn μn, fun σ' H' hn => hn, ?_⟩
  refine b.run _ ρc μ1 σc H1 _ h1 o1 (hsr.mono s1) ⟨?_, (l.later (hst.trans s1)).rt, (l.later (hst.trans s1)).nx, ?_⟩
  · rintro σ4 H4 ρ4 μ4 ⟨m', hm, h4⟩ s4 o4 sr4
    exact ⟨m', hm, ρ4, μ4, (hst.trans s1).trans s4, o4, sr4, h4⟩
  · rintro σ4 H4 ρ4 μ4 ⟨m', hm, h4⟩ s4 o4 sr4
    exact ⟨m', hm, ρ4, μ4, (hst.trans s1).trans s4, o4, sr4, h4⟩⟩
end

/-! ### defs -/
abbrev DSp := List DV → Mu → DK → Prop
def lift (K : PySem.W.Frag) (s : DSp) : Sp := fun vs H Q _ => ∃ ds μ P, Rps K μ H ds vs ∧ Ok K μ H ∧ s ds μ P ∧ Res K μ H P Q
def wCall (s : DSp) (Wa : DA) : DE := fun ρ μ P => Wa ρ μ fun ds μ1 => s ds μ1 P
instance ev_call {K : PySem.W.Frag} {s : DSp} {E : XK} {ta : TA} {Wa : DA} [a : EvA K ta Wa] : EvE K (tCall (lift K s) [] E ta) (wCall s Wa) := ⟨fun ρ μ P σ H Q h o sr r =>
  a.run ρ μ _ σ H _ h o sr fun vs H1 ds μ1 h1 s1 o1 r1 => by
    rw [List.append_nil]
    exact ⟨ds, μ1, P, r1, o1, h1, r.later s1⟩⟩
/-- what a def leaves: the lists that may change that stood before, as told; its own ones are forgotten -/
def Sub (μ μ' : Mu) : Prop := ∀ a ds, μ a = some ds → μ' a = some ds
theorem Sub.refl (μ : Mu) : Sub μ μ := fun _ _ h => h
def rtD (Q : DK) : DK := fun d μ' => (∃ μ, Sub μ μ' ∧ Q d μ) ∨ ∃ a ds μ, d = .obj a ∧ μ' a = some ds ∧ Sub μ (Mu.del μ' a) ∧ Q (.lst ds) μ
theorem rt_D {Q : DK} {d : DV} {μ : Mu} (h : Q d μ) : rtD Q d μ := .inl ⟨μ, Sub.refl μ, h⟩
def endD (Q : DK) : DEnds := { nx := fun _ μ' => rtD Q .non μ', rt := rtD Q, bk := fun _ _ => False, ct := fun _ _ => False }
def startD (n : Nat) (ds : List DV) : DEnv := ds.map some ++ List.replicate (n - ds.length) none
section
variable {P : Program} {w : World} {K : PySem.W.Frag} {mg : Str → Option Value} {base : Heap}
theorem sr_rep {μ : Mu} {H : Hp} : ∀ n : Nat, SR K μ H (List.replicate n none) (List.replicate n none)
  | 0 => rfl
  | n + 1 => ⟨none, List.replicate n none, rfl, trivial, sr_rep n⟩
theorem sr_start {μ : Mu} {H : Hp} {n : Nat} : ∀ {ds : List DV} {vs : List V}, Rps K μ H ds vs → SR K μ H (ds.map some ++ List.replicate n none) (vs.map some ++ List.replicate n none)
  | [], vs, h => by
    rw [show vs = [] from h]
    exact sr_rep n
  | d :: ds, vs, h => by
    obtain ⟨x, r, rfl, h1, h2⟩ := (show ∃ x r, vs = x :: r ∧ Rp K μ H d x ∧ Rps K μ H ds r from h)
    exact ⟨some x, _, rfl, ⟨x, rfl, h1⟩, sr_start h2⟩
theorem sub_less {μ1 μ0 : Mu} (sub : Sub μ1 μ0) : ∀ b, μ0 b = none → μ1 b = none := fun b hb => by
  cases e : μ1 b with
  | none => rfl
  | some ds =>
    rw [sub b ds e] at hb
    cases hb
theorem sub_del {μ1 μ0 : Mu} {a : Addr} (sub : Sub μ1 (Mu.del μ0 a)) : Sub μ1 μ0 := fun b ds e => by
  have z := sub b ds e
  by_cases h : b = a
  · rw [h, Mu.del_same] at z
    cases z
  · rw [Mu.del_ne h] at z
    exact z
theorem res_sub {μ μ0 : Mu} {H H' : Hp} {d : DV} {v : V} {Q : DK} {R : VK} (r : Res K μ H Q R) (h : rtD Q d μ0) (s : Step μ H μ0 H') (o : Ok K μ0 H') (rv : Rp K μ0 H' d v) : R v H' := by
  have fin : ∀ (d' : DV) (μ1 : Mu), Sub μ1 μ0 → Q d' μ1 → Rp K μ1 H' d' v → R v H' := fun d' μ1 sub q rd => by
    have less := sub_less sub
    refine r v H' d' μ1 q (fun b u h1 h2 => ⟨(s b u h1 h2).1, less b (s b u h1 h2).2⟩) (fun a ds e => ?_) rd
    obtain ⟨xs, p1, p2⟩ := o a ds (sub a ds e)
    exact ⟨xs, p1, p2.less less⟩
  rcases h with ⟨μ1, sub, q⟩ | ⟨a, ds, μ1, rfl, ha, sub, q⟩
  · exact fin d μ1 sub q (rv.less (sub_less sub))
  · refine fin (.lst ds) μ1 (sub_del sub) q ?_
    obtain ⟨xs, p1, p2⟩ := o a ds ha
    have ha1 : μ1 a = none := sub_less sub a Mu.del_same
    exact ⟨a, xs, rv, fun H2 k => .inl (.inl (k a _ ha1 p1)), p2.less (sub_less (sub_del sub))⟩
/-- THE RULE for a def: its body's term, what it means over data, the promise -/
theorem fn_D {x qual : Str} {st : Stmt} {f : Addr} {fd : FuncData} {N ps : List Str} {k : Nat} {s : DSp} (F : Fun K x qual st f fd) (S : FnScope N ps (defScope st)) (len : ∀ ds μ Q, s ds μ Q → ds.length = ps.length)
    (hbody : ∀ (cdv : Value) (A : Around) (outer : List PySem.Env) (sh : Shared) (H : Hp) (E : XK), Room k (A.deeper (PyProof.Rows.envOfC qual (defScope st) sh.heap.objs.size f cdv)) →
      ∃ t W, PSs (cxOf CX0 P w K mg base N qual (defScope st) f cdv A outer sh H E).nox (defBody st) t ∧ EvS K t W ∧ ∀ ds μ Q, s ds μ Q → W (endD Q) (startD N.length ds) μ) : FnOk P w K mg base CX0 (k + 1) f fd ps (lift K s) := by
  refine F.ok S (fun vs H Q E h => ?_) (fun cdv A outer sh H vs Q E hr h => ?_)
  · obtain ⟨ds, μ, R, r, o, hs, _⟩ := h
    rw [r.length]
    exact len ds μ R hs
  · obtain ⟨ds, μ, R, r, o, hs, res⟩ := h
    obtain ⟨t, W, p, ev, q⟩ := hbody cdv A outer sh H E hr
    refine ⟨t, p, ev.run (endD R) (startD N.length ds) μ (L2.start N vs) H _ (q ds μ R hs) o ?_ ⟨?_, ?_, ?_, ?_⟩⟩
    · unfold startD L2.start
      rw [r.length]
      exact sr_start r
    · exact fun σ' H' ρ' μ' h1 s1 o1 sr => res_sub res h1 s1 o1 rfl
    · exact fun v H' d μ' h1 s1 o1 rv => res_sub res h1 s1 o1 rv
    · exact fun σ' H' ρ' μ' h1 => h1.elim
    · exact fun σ' H' ρ' μ' h1 => h1.elim
end

/-! ### enumerate of a tuple -/
set_option maxHeartbeats 1000000 in
theorem meets_enum1 {v : Value} {o : Obj} {H : Heap → Prop} (B : Begins v o H) :
    Meets (Builtin.«enumerate.__new__» ⟨[.type "enumerate", v], []⟩) (fun _ R s => H s.heap ∧
      R (.ok (.ret (.ref (s.heap.push o).objs.size))) { s with heap := (s.heap.push o).push { cls := .type "enumerate", data := .fields #[.none, .bool false, .ref s.heap.objs.size, rawInt 0, .none, .none] } }) :=
  .of_wp fun prog w A R s h => by
    obtain ⟨hp, g, d, tk, os⟩ := s; obtain ⟨h1, h⟩ := h
    have hsub := sub_enumerate
    have q1 : ∀ {A' : Around} {E : Value → Shared → Prop} {Q : Value → Shared → Prop}, Q (.ref hp.objs.size) ⟨hp.push o, g, d, tk, os⟩ → wpAny (model prog w) A' (pyIter v) Q E ⟨hp, g, d, tk, os⟩ :=
      fun q => B.iter prog w _ _ ⟨hp, g, d, tk, os⟩ _ h1 q
    wp_walk using q1
    refine wpAny_stack_any fun st => wpAny_pure ?_
    split
    · rename_i c _ _ _ _ _
      cases (c == Value.type "enumerate")
      · wp_walk using q1
        exact ⟨_, rfl, h⟩
      · wp_walk using q1
        exact ⟨_, rfl, h⟩
    · wp_walk using q1
      exact ⟨_, rfl, h⟩
theorem call_enumT {prog : Program} {w : World} {A : Around} {E : Value → Shared → Prop} {s : Shared} {t : Addr} {items : Array Value} {Q : Value → Shared → Prop} (ht : s.heap.IsTuple t items)
    (h : ∀ h', IsEnum h' (s.heap.objs.size + 1) s.heap.objs.size 0 .none → h'.IsTupleIter s.heap.objs.size t 0 → h'.objs.size = s.heap.objs.size + 2 →
      (∀ b o, s.heap.get? b = some o → h'.get? b = some o) → Q (.ref (s.heap.objs.size + 1)) { s with heap := h' }) :
    wpAny (model prog w) A (call (.type "enumerate") [.ref t]) Q E s := by
  refine callType_new F.called_enumerate (by decide) (F.typeCall_enumerate_1 _) (F.newCall_enumerate_1 _) (fun obj => F.args_object_init_2 obj _) F.entry_enumerate_new
    (meets_enum1 (begins_tuple t items)) ⟨ht, ?_⟩
  have hz : (s.heap.push { cls := .type "tuple_iterator", data := .fields #[.ref t, .int 0 0] }).objs.size = s.heap.objs.size + 1 := Heap.size_push ..
  show _ ∧ _
  rw [hz]
  have he : IsEnum ((s.heap.push { cls := .type "tuple_iterator", data := .fields #[.ref t, .int 0 0] }).push
      { cls := .type "enumerate", data := .fields #[.none, .bool false, .ref s.heap.objs.size, rawInt 0, .none, .none] }) (s.heap.objs.size + 1) s.heap.objs.size 0 .none := by
    have := Heap.get?_push_size (s.heap.push { cls := .type "tuple_iterator", data := .fields #[.ref t, .int 0 0] })
      (o := { cls := .type "enumerate", data := .fields #[.none, .bool false, .ref s.heap.objs.size, rawInt 0, .none, .none] }) rfl
    rw [hz] at this; exact this
  refine ⟨⟨_, he, rfl⟩, h _ he ⟨_, Heap.get?_push_of_some _ (Heap.get?_push_size _ rfl), rfl, rfl⟩ (by rw [Heap.size_push, hz]) fun b o x => Heap.get?_push_of_some _ (Heap.get?_push_of_some _ x)⟩
/-- the tuple at a, each item in a new pair -/
def IteT (K : PySem.W.Frag) (a : Addr) : It :=
  ⟨fun i H => ∃ (xs : List V) (x : V), SqT K H a xs ∧ xs[i]? = some x, fun i H v H' => ∃ T x, v = .ref T ∧ H T = none ∧ H' = upd H T (.tup [.int (i : Nat), x]) ∧ ∀ xs, SqT K H a xs → xs[i]? = some x, fun i H => ∃ xs : List V, SqT K H a xs ∧ xs.length ≤ i⟩
theorem turn_enumT {P : Program} {w : World} {K : PySem.W.Frag} {elts : List Expr} {kk : Nat} {tpos : Pos} (a e it : Addr) :
    Turn P w K (.Tuple elts kk tpos) (IteT K a) [e, it] e (fun i h => (∃ old, IsEnum h e it ((i : Nat) : Int) old) ∧ h.IsTupleIter it a i ∧ e ≠ it ∧ e ≠ a ∧ a ≠ it) where
  mem := by simp
  obj := fun i h st b hb => by
    obtain ⟨⟨old, he⟩, ⟨o, ho, hc, hd⟩, _⟩ := st
    have e' : b = e ∨ b = it := by simpa using hb
    rcases e' with z | z
    · rw [z]; exact ⟨_, he, fun v q => nomatch q⟩
    · rw [z]; exact ⟨o, ho, fun v q => by rw [hd] at q; cases q⟩
  keep := fun i h h' st k => let ⟨⟨old, he⟩, hi, hne⟩ := st; ⟨⟨old, k e (by simp) _ he⟩, hi.at fun o q => k it (by simp) o q, hne⟩
  item := by
    intro X hP hw hK hc i pins s σ H E I hf st hg
    subst hP hw hK
    obtain ⟨⟨old, he⟩, hit, hne, hea, hai⟩ := st
    obtain ⟨xs, x, hq, hx⟩ := hg
    obtain ⟨its, rv, p, hz⟩ := I.tuple hq
    obtain ⟨u, hu, ru⟩ := rv.get hx
    have hel : e < s.heap.objs.size := Heap.lt_size he
    have hil : it < s.heap.objs.size := by obtain ⟨_, q, _⟩ := hit; exact Heap.lt_size q
    have hilt : i < its.toArray.size := by
      have z := (List.getElem?_eq_some_iff.mp hu).1
      simpa using z
    have DT := Draws.tuple (prog := X.prog) (w := X.w) (A := X.A.in1) (I.ok.hd hc) it a hai its.toArray
    refine wpAny_pyNext_enum_itemD DT he ⟨hit, p⟩ hilt hne (by simp [hne, hea]) fun y h' tk hy ho hst' hT hsz hk => ?_
    have ey : y = u := by
      have z : its[i]? = some y := by simpa using hy
      exact Option.some.inj (z.symm.trans hu)
    subst ey
    refine ⟨_, rfl, wpAny_letOwnedTupleGo_enum (s := { s with heap := h', toks := tk + 1 }) ho fun h'' he' sb => ?_⟩
    have hT2 : h''.get? s.heap.objs.size = some { cls := .type "tuple", data := .seq #[.int i tk, y] } := (sb.2 _ (Nat.ne_of_gt hel)).trans hT
    have new : ObjOk X.prog X.w (upd H s.heap.objs.size (.tup [.int (i : Nat), x])) h'' s.heap.objs.size (.tup [.int (i : Nat), x]) :=
      ⟨by show 2 ≤ sizeLine; decide, [.int i tk, y], .cons ⟨_, rfl⟩ (.cons ru .nil), ⟨_, hT2, rfl, _, rfl⟩⟩
    have I1 : Inv X pins σ (upd H s.heap.objs.size (.tup [.int (i : Nat), x])) { s with heap := h'', toks := tk + 1 } :=
      I.turnedNew (ch := [e, it]) (fun b ob hb q => (sb.2 b (fun z => hb (by simp [z]))).trans (hk b ob (fun z => hb (by simp [z])) (fun z => hb (by simp [z])) q)) hf (Nat.le_refl _) new
    refine ⟨.ref s.heap.objs.size, _, I1, rfl, ⟨_, x, rfl, I.hok.fresh (Nat.le_refl _), rfl, fun ys hy => by rw [I.tuple_inj hy hq]; exact hx⟩, ⟨⟨y, ?_⟩, hst'.1.at fun o q => (sb.2 it (Ne.symm hne)).trans q, hne, hea, hai⟩, fun b hb => ?_⟩
    · have e1 : ((i + 1 : Nat) : Int) = (i : Int) + 1 := by omega
      rw [e1]; exact he'
    · have hb' : b < s.heap.objs.size := by
        have e' : b = e ∨ b = it := by simpa using hb
        rcases e' with z | z
        · rw [z]; exact hel
        · rw [z]; exact hil
      rw [upd_ne (Nat.ne_of_lt hb')]
      exact (hf b hb).1
  done := by
    intro X hP hw hK hc i pins s σ H E I hf st hg
    subst hP hw hK
    obtain ⟨⟨old, he⟩, hit, hne, hea, hai⟩ := st
    obtain ⟨xs, hq, hx⟩ := hg
    obtain ⟨its, rv, p, hz⟩ := I.tuple hq
    obtain ⟨f0, f1, f2, f3, f4, f5⟩ := hf it (by simp)
    have hl := rv.length
    have hT : s.TypeIs (.ref e) "enumerate" := ⟨_, he, rfl⟩
    unfold pyNext
    refine wpAny_bind (wpAny_attempt (wpAny_callSpecial?_slot (name := Str.ofString "__next__") hT F.slot_enumerate_next
      (wpAny_call_entry F.slot_enumerate_next hT F.entry_enumerate_next ?_ (F.args_enumerate_next_1 _))))
    show wpAny _ _ (field (.ref e) 2 >>= _) _ _ _
    refine wpAny_bind (wpAny_field he rfl (x := .ref it) rfl ?_)
    refine wpAny_bind (wpAny_nextOf_tuple_end (I.ok.hd hc) hit p (by simp; omega) fun h' x he' hx' => ?_)
    obtain ⟨o, ho, hc'⟩ := hx'
    refine wpAny_bind (wpAny_isInstance (T := "StopIteration") (b := true) ⟨o, ho, hc'⟩ isSubtype_stop ?_)
    exact wpAny_pure ⟨rfl, I.turned (t' := s.toks) (fun b o hb q => he' b o hb q) f0 f1 f3 f4 f5⟩
  self := fun A i s Q E st h => let ⟨⟨_, he⟩, _⟩ := st; wpAny_pyIter_enum he h
def iEnumT (K : PySem.W.Frag) (ta : TA) : TI := fun σ H R => ta σ H fun vs H1 => ∃ a xs, vs = [.ref a] ∧ SqT K H1 a xs ∧ R (IteT K a) H1
theorem pi_enumT {X : Cx} {e : Expr} {ta : TA} {p pos tpos : Pos} {elts : List Expr} {kk : Nat} (hg : Gl X "enumerate") (hm : X.mg "enumerate" = none) (ha : PA X [e] ta) (hs : starEach [e] X.env = [(false, eval e X.env)] := by rfl) :
    PI X (.Tuple elts kk tpos) (.Call (.Name "enumerate" p) [e] [] pos) (iEnumT X.K ta) := by
  refine ⟨fun pins s σ H R I h => ?_⟩
  refine PyProof.Rows.Call_ (ld_blt I hg hm PyProof.Rows.boot_enumerate (PyProof.Rows.callWith_type1 (thn (ha.run pos pins s σ H _ I h) fun us s1 ⟨vs, H1, I1, r1, q1⟩ => ?_) hs rfl))
  obtain ⟨a, xs, ex, hq, q⟩ := q1
  subst ex
  cases r1 with
  | cons r rr =>
    cases rr
    cases r
    obtain ⟨its, rv, p', hz⟩ := I1.tuple hq
    obtain ⟨ob, hob, _⟩ := id p'
    have hal : a < s1.heap.objs.size := Heap.lt_size hob
    refine call_enumT p' fun h' he hit hsz hk => wpAny_pyIter_enum he ?_
    have I2 : Inv X pins σ H1 { s1 with heap := h' } := I1.kept (t' := s1.toks) hk
    refine ⟨s1.heap.objs.size + 1, [s1.heap.objs.size + 1, s1.heap.objs.size], _, _, H1, rfl, I2, turn_enumT a (s1.heap.objs.size + 1) s1.heap.objs.size, ⟨⟨.none, he⟩, hit, Nat.succ_ne_self _, Nat.ne_of_gt (Nat.lt_succ_of_lt hal), Nat.ne_of_lt hal⟩, fun b hb => ?_, q⟩
    have e' : b = s1.heap.objs.size + 1 ∨ b = s1.heap.objs.size := by simpa using hb
    have hle : s1.heap.objs.size ≤ b := by
      rcases e' with z | z
      · rw [z]; exact Nat.le_add_right _ _
      · rw [z]; exact Nat.le_refl _
    exact I1.fpOk hle (I1.hok.fresh hle)
section
variable {K : PySem.W.Frag} {μ : Mu} {H : Hp}
theorem itD_enumT {a : Addr} {xs : List V} {ds : List DV} (h1 : ∀ H', Kp μ H H' → SqT K H' a xs) (h2 : Rps K μ H ds xs) : ItD K μ H (IteT K a) (enumD 0 ds) := fun μ2 H2 s o => by
  have q := h1 H2 s.toKp
  refine ⟨fun i d e => ?_, ⟨xs, q, by rw [h2.length, enumD_length]; exact Nat.le_refl _⟩⟩
  obtain ⟨d', e', rfl⟩ := enumD_get 0 ds i d e
  rw [Nat.zero_add]
  obtain ⟨v, hv, rv⟩ := h2.get e'
  refine ⟨⟨xs, v, q, hv⟩, fun x H3 y => ?_⟩
  obtain ⟨T, z, rfl, hT, rfl, f⟩ := y
  have ex : z = v := Option.some.inj ((f xs q).symm.trans hv)
  subst ex
  exact pair_new o hT rfl (rv.mono s)
instance ei_enumT {ta : TA} {Wa : DA} [a : EvA K ta Wa] : EvI K (iEnumT K ta) (idEnumT Wa) := ⟨fun ρ μ R σ H Q h o s k =>
  a.run ρ μ _ σ H _ h o s fun xs H1 ds μ1 h1 s1 o1 r1 => by
    split at h1
    · obtain ⟨x, rfl, r⟩ := rps1 r1
      obtain ⟨p, ys, rfl, q1, q2⟩ := r.tupK
      exact ⟨p, ys, rfl, q1 H1 kp_refl, k _ _ _ _ h1 s1 o1 (itD_enumT q1 q2)⟩
    · exact h1.elim⟩
end

/-! ### defs of the module, by name -/
structure Dfn (K : PySem.W.Frag) (mg : Str → Option Value) (x : Str) (st : Stmt) (ps : List Str) : Prop where
  ex : ∃ f fd, Fun K x x st f fd ∧ mg x = some (.ref f) ∧ Binds K fd ps []
structure CalD (P : Program) (w : World) (K : PySem.W.Frag) (mg : Str → Option Value) (base : Heap) (k : Nat) (x : Str) (s : DSp) : Prop where
  ex : ∃ f fd ps, FnOk P w K mg base L2.CX0 k f fd ps (lift K s) ∧ mg x = some (.ref f) ∧ PySem.W.keepIn K (.ref f) = true ∧ Binds K fd ps []
section
variable {P : Program} {w : World} {K : PySem.W.Frag} {mg : Str → Option Value} {base : Heap}
theorem dfn_mk {h : Heap} {x : Str} {st : Stmt} {ps : List Str} {f : Addr} {oc : Value} {od an : Option Addr} {osl : Array (Option Value)} {kV doc pm cdv ct : Value} (X : K.In h) (G : h.Ns mainGlobals mg)
    (a : PySem.W.nsIn K mainGlobals x = some (some (.ref f))) (l : K.lookup f = some ⟨oc, od, .func (PySem.W.fnOf x x (defArgs st) (defBody st) (defScope st) .none kV doc pm an cdv ct), osl⟩)
    (c : PySem.W.codeIn K cdv x = true) (k : PySem.W.keepIn K (.ref f) = true)
    (hb : ∀ (kV doc pm : Value) (an : Option Addr) (cdv ct : Value) (us : List Value), us.length = ps.length → bindArgs (PySem.W.fnOf x x (defArgs st) (defBody st) (defScope st) .none kV doc pm an cdv ct) ⟨us, []⟩ = pure (ps.zip us)) : Dfn K mg x st ps :=
  ⟨f, _, fun_mk l c k, PySem.W.mg_of X G a, (fun_mk l c k).binds hb⟩
/-- a def of the module keeps its promise -/
theorem cal_D {x : Str} {st : Stmt} {N ps : List Str} {k : Nat} {s : DSp} (F : Dfn K mg x st ps) (S : FnScope N ps (defScope st)) (len : ∀ ds μ Q, s ds μ Q → ds.length = ps.length)
    (hbody : ∀ (f : Addr) (cdv : Value) (A : Around) (outer : List PySem.Env) (sh : Shared) (H : Hp) (E : XK), Room k (A.deeper (PyProof.Rows.envOfC x (defScope st) sh.heap.objs.size f cdv)) →
      ∃ t W, PSs (cxOf L2.CX0 P w K mg base N x (defScope st) f cdv A outer sh H E).nox (defBody st) t ∧ EvS K t W ∧ ∀ ds μ Q, s ds μ Q → W (endD Q) (startD N.length ds) μ) : CalD P w K mg base (k + 1) x s := by
  obtain ⟨f, fd, F1, hm, hb⟩ := F.ex
  exact ⟨f, fd, ps, fn_D F1 S len fun cdv A outer sh H E hr => hbody f cdv A outer sh H E hr, hm, F1.kp, hb⟩
end
section
variable {X : Cx} {k j : Nat} {x : Str} {s : DSp} {p pos : Pos} {e : Expr} {es : List Expr} {t : TA}
theorem pe_cD (c : CalD X.prog X.w X.K X.mg X.base k x s) (hr : Room j X.A) (hk : k ≤ j) (hg : Gl X x) (ha : PA X (e :: es) t)
    (hdb : (x == ("__debug__" : Str)) = false := by decide) (he : starEach (e :: es) X.env = (false, eval e X.env) :: starEach es X.env := by rfl) (hpl : (backTo pos (starEach es X.env)).any (·.1) = false := by rfl) :
    PE X (.Call (.Name x p) (e :: es) [] pos) (tCall (lift X.K s) [] L2.E0 t) := by
  obtain ⟨f, fd, ps, F, hm, kp, b⟩ := c.ex
  exact pe_call F (hr.mono hk) hg hm kp b .nil L2.pass0 ha hdb he hpl
theorem pe_cD0 (c : CalD X.prog X.w X.K X.mg X.base k x s) (hr : Room j X.A) (hk : k ≤ j) (hg : Gl X x)
    (hdb : (x == ("__debug__" : Str)) = false := by decide) : PE X (.Call (.Name x p) [] [] pos) (tCall (lift X.K s) [] L2.E0 tNil) := by
  obtain ⟨f, fd, ps, F, hm, kp, b⟩ := c.ex
  exact pe_call0 F (hr.mono hk) hg hm kp b .nil L2.pass0 hdb
end
end DL
set_option linter.all false
set_option maxRecDepth 100000
namespace DL
open PySem PySem.Spec L2
/-! ### ways through loops and comprehensions -/
section
variable {step : DV → Mu → (Option DV → Mu → Prop) → Prop} {D : Addr}
theorem lcW_map' {α : Type} (emb : α → DV) (f : α → DV) : ∀ (xs : List α) (acc : List DV) (μ : Mu) (P : DK), μ D = none → (∀ x ∈ xs, ∀ ν (k : Option DV → Mu → Prop), k (some (f x)) ν → step (emb x) ν k) → P (.lst (acc ++ xs.map f)) μ → lcW D step (xs.map emb) acc (Mu.set μ D acc) P
  | [], acc, μ, P, hD, _, h => by
    show P (.lst acc) (Mu.del (Mu.set μ D acc) D)
    rw [Mu.del_set hD]
    rw [List.map_nil, List.append_nil] at h
    exact h
  | x :: xs, acc, μ, P, hD, hs, h => by
    refine hs x List.mem_cons_self _ _ ⟨Mu.set_same, ?_⟩
    show lcW D step (xs.map emb) (acc ++ [f x]) (Mu.set (Mu.set μ D acc) D (acc ++ [f x])) P
    rw [Mu.set_set]
    refine lcW_map' emb f xs (acc ++ [f x]) μ P hD (fun x' hx' => hs x' (List.mem_cons_of_mem _ hx')) ?_
    rw [List.append_assoc]
    exact h
theorem lcW_map {α : Type} (emb : α → DV) (f : α → DV) (xs : List α) (μ : Mu) (P : DK) (hD : μ D = none) (hs : ∀ x ∈ xs, ∀ ν (k : Option DV → Mu → Prop), k (some (f x)) ν → step (emb x) ν k) (h : P (.lst (xs.map f)) μ) : lcW D step (xs.map emb) [] (Mu.set μ D []) P :=
  lcW_map' emb f xs [] μ P hD hs h
/-- with a test -/
theorem lcW_filter' {α : Type} (emb : α → DV) (c : α → Bool) (f : α → DV) : ∀ (xs : List α) (acc : List DV) (μ : Mu) (P : DK), μ D = none →
    (∀ x ∈ xs, ∀ ν (k : Option DV → Mu → Prop), (c x = true → k (some (f x)) ν) → (c x = false → k none ν) → step (emb x) ν k) → P (.lst (acc ++ (xs.filter c).map f)) μ → lcW D step (xs.map emb) acc (Mu.set μ D acc) P
  | [], acc, μ, P, hD, _, h => by
    show P (.lst acc) (Mu.del (Mu.set μ D acc) D)
    rw [Mu.del_set hD]
    rw [List.filter_nil, List.map_nil, List.append_nil] at h
    exact h
  | x :: xs, acc, μ, P, hD, hs, h => by
    refine hs x List.mem_cons_self _ _ (fun e => ⟨Mu.set_same, ?_⟩) fun e => ⟨Mu.set_same, ?_⟩
    · show lcW D step (xs.map emb) (acc ++ [f x]) (Mu.set (Mu.set μ D acc) D (acc ++ [f x])) P
      rw [Mu.set_set]
      refine lcW_filter' emb c f xs (acc ++ [f x]) μ P hD (fun x' hx' => hs x' (List.mem_cons_of_mem _ hx')) ?_
      rw [List.filter_cons, if_pos e] at h
      rw [List.append_assoc]
      exact h
    · refine lcW_filter' emb c f xs acc μ P hD (fun x' hx' => hs x' (List.mem_cons_of_mem _ hx')) ?_
      rw [List.filter_cons, if_neg (by rw [e]; exact Bool.false_ne_true)] at h
      exact h
theorem lcW_filter {α : Type} (emb : α → DV) (c : α → Bool) (f : α → DV) (xs : List α) (μ : Mu) (P : DK) (hD : μ D = none)
    (hs : ∀ x ∈ xs, ∀ ν (k : Option DV → Mu → Prop), (c x = true → k (some (f x)) ν) → (c x = false → k none ν) → step (emb x) ν k) (h : P (.lst ((xs.filter c).map f)) μ) : lcW D step (xs.map emb) [] (Mu.set μ D []) P :=
  lcW_filter' emb c f xs [] μ P hD hs h
theorem Mu.set_comm {μ : Mu} {a b : Addr} {ds es : List DV} (h : a ≠ b) : Mu.set (Mu.set μ a ds) b es = Mu.set (Mu.set μ b es) a ds := by
  funext c
  show (if c = b then some es else if c = a then some ds else μ c) = if c = a then some ds else if c = b then some es else μ c
  by_cases e1 : c = b
  · rw [if_pos e1, if_neg (fun z => h (z.symm.trans e1)), if_pos e1]
  · rw [if_neg e1, if_neg e1]
theorem Mu.set_id {μ : Mu} {a : Addr} {ds : List DV} (h : μ a = some ds) : Mu.set μ a ds = μ := by
  funext c
  show (if c = a then some ds else μ c) = μ c
  by_cases e : c = a
  · rw [if_pos e, e, h]
  · rw [if_neg e]
/-- each item makes something that S holds of, the list at p changes, HO holds of it -/
theorem lcW_hand' {p : Addr} (S : DV → Prop) (HO : List DV → Prop) : ∀ (ds acc : List DV) (l : List DV) (μ : Mu) (P : DK), μ D = none → D ≠ p → HO l → (∀ d ∈ acc, S d) →
    (∀ d ∈ ds, ∀ ν l (k : Option DV → Mu → Prop), ν p = some l → HO l → (∀ y l', S y → HO l' → k (some y) (Mu.set ν p l')) → step d ν k) →
    (∀ es l', es.length = acc.length + ds.length → (∀ d ∈ es, S d) → HO l' → P (.lst es) (Mu.set μ p l')) → lcW D step ds acc (Mu.set (Mu.set μ p l) D acc) P
  | [], acc, l, μ, P, hD, hp, g, ha, _, h => by
    show P (.lst acc) (Mu.del (Mu.set (Mu.set μ p l) D acc) D)
    rw [Mu.del_set (by rw [Mu.set_ne hp]; exact hD)]
    exact h acc l (by simp) ha g
  | d :: ds, acc, l, μ, P, hD, hp, g, ha, hs, h => by
    refine hs d List.mem_cons_self _ l _ (by rw [Mu.set_ne (Ne.symm hp), Mu.set_same]) g fun y l' hy g' => ?_
    have e : Mu.set (Mu.set (Mu.set μ p l) D acc) p l' = Mu.set (Mu.set μ p l') D acc := by
      rw [Mu.set_comm hp, Mu.set_set]
    rw [e]
    refine ⟨Mu.set_same, ?_⟩
    show lcW D step ds (acc ++ [y]) (Mu.set (Mu.set (Mu.set μ p l') D acc) D (acc ++ [y])) P
    rw [Mu.set_set]
    refine lcW_hand' S HO ds (acc ++ [y]) l' μ P hD hp g' (fun d' hd' => ?_) (fun d' hd' => hs d' (List.mem_cons_of_mem _ hd')) fun es l'' hl hS hG => h es l'' ?_ hS hG
    · rcases List.mem_append.mp hd' with z | z
      · exact ha d' z
      · rw [List.mem_singleton.mp z]
        exact hy
    · rw [hl, List.length_append, List.length_singleton, List.length_cons]
      omega
theorem lcW_hand {p : Addr} (S : DV → Prop) (HO : List DV → Prop) {ds l : List DV} {μ : Mu} {P : DK} (hD : μ D = none) (hp : μ p = some l) (g : HO l)
    (hs : ∀ d ∈ ds, ∀ ν l (k : Option DV → Mu → Prop), ν p = some l → HO l → (∀ y l', S y → HO l' → k (some y) (Mu.set ν p l')) → step d ν k)
    (h : ∀ es l', es.length = ds.length → (∀ d ∈ es, S d) → HO l' → P (.lst es) (Mu.set μ p l')) : lcW D step ds [] (Mu.set μ D []) P := by
  have hDp : D ≠ p := fun z => by
    rw [z, hp] at hD
    cases hD
  have e : Mu.set μ D [] = Mu.set (Mu.set μ p l) D [] := by rw [Mu.set_id hp]
  rw [e]
  exact lcW_hand' S HO ds [] l μ P hD hDp g (fun _ h => by cases h) hs fun es l' hl => h es l' (by simpa using hl)
end
/-- a loop by what holds ahead of each turn -/
theorem forW_inv {G : DG} {B : DS} {E : DEnds} (J : Nat → DEnv → Mu → Prop) : ∀ (items : List DV) (i : Nat) (ρ : DEnv) (μ : Mu), J i ρ μ →
    (∀ j d ρ μ (N : DEnv → Mu → Prop), items[j]? = some d → J (i + j) ρ μ → (∀ ρ μ, J (i + j + 1) ρ μ → N ρ μ) → G d ρ μ fun ρ2 μ2 => B { nx := N, ct := N, bk := E.nx, rt := E.rt } ρ2 μ2) →
    (∀ ρ μ, J (i + items.length) ρ μ → E.nx ρ μ) → forW G B E items ρ μ
  | [], i, ρ, μ, h, _, he => he ρ μ h
  | d :: ds, i, ρ, μ, h, hs, he => hs 0 d ρ μ _ rfl h fun ρ' μ' h' => forW_inv J ds (i + 1) ρ' μ' h' (fun j d' ρ2 μ2 N e h2 k => by
    have z := hs (j + 1) d' ρ2 μ2 N (by simpa using e) (by rw [show i + (j + 1) = i + 1 + j by omega]; exact h2) fun ρ3 μ3 h3 => k ρ3 μ3 (by rw [show i + 1 + j + 1 = i + (j + 1) + 1 by omega]; exact h3)
    exact z) fun ρ2 μ2 h2 => he ρ2 μ2 (by rw [List.length_cons, show i + (ds.length + 1) = i + 1 + ds.length by omega]; exact h2)
theorem forW_by {G : DG} {B : DS} {E : DEnds} (J : Nat → DEnv → Mu → Prop) {items : List DV} {ρ : DEnv} {μ : Mu} (h : J 0 ρ μ)
    (hs : ∀ j d ρ μ (N : DEnv → Mu → Prop), items[j]? = some d → J j ρ μ → (∀ ρ μ, J (j + 1) ρ μ → N ρ μ) → G d ρ μ fun ρ2 μ2 => B { nx := N, ct := N, bk := E.nx, rt := E.rt } ρ2 μ2)
    (he : ∀ ρ μ, J items.length ρ μ → E.nx ρ μ) : forW G B E items ρ μ :=
  forW_inv J items 0 ρ μ h (fun j d ρ μ N e h2 k => hs j d ρ μ N e (by rw [Nat.zero_add] at h2; exact h2) fun ρ3 μ3 h3 => k ρ3 μ3 (by rw [Nat.zero_add]; exact h3)) fun ρ μ h2 => he ρ μ (by rw [Nat.zero_add] at h2; exact h2)
theorem enumD_map {α : Type} (f : α → DV) : ∀ (xs : List α) (i : Nat), enumD i (xs.map f) = (xs.zipIdx i).map fun e => .tup [.int (e.2 : Nat), f e.1]
  | [], _ => rfl
  | x :: xs, i => by
    show DV.tup [.int (i : Nat), f x] :: enumD (i + 1) (xs.map f) = _
    rw [enumD_map f xs (i + 1)]
    rfl
theorem zipD_map {α β : Type} (f : α → DV) (g : β → DV) : ∀ (xs : List α) (ys : List β), zipD (xs.map f) (ys.map g) = (xs.zip ys).map fun e => .tup [f e.1, g e.2]
  | [], _ => by simp [zipD]
  | _ :: _, [] => by simp [zipD]
  | x :: xs, y :: ys => by
    show DV.tup [f x, g y] :: zipD (xs.map f) (ys.map g) = _
    rw [zipD_map f g xs ys]
    rfl
theorem boolsD_map {α : Type} (f : α → Bool) : ∀ xs : List α, boolsD (xs.map fun x => .bl (f x)) = some (xs.map f)
  | [] => rfl
  | x :: xs => by
    show (boolsD (xs.map fun x => .bl (f x))).map (f x :: ·) = _
    rw [boolsD_map f xs]
    rfl
theorem sz_le {n : Nat} (h : n ≤ 1000) : n ≤ sizeLine := Nat.le_trans h (by decide)
theorem sz_map {α : Type} {f : α → DV} {xs : List α} (h : xs.length ≤ 1000) : (xs.map f).length ≤ sizeLine := by
  rw [List.length_map]
  exact sz_le h
theorem sIx_none {n d : Nat} : HT.sIx n d none = d := rfl
theorem cut_take {ds : List DV} {t : Nat} : cutD ds none (some ((t : Nat) : Int)) = ds.take t := by
  unfold cutD
  rw [sIx_none, HT.sIx_nat, Nat.sub_zero, List.drop_zero]
  by_cases h : t ≤ ds.length
  · rw [Nat.min_eq_left h]
  · rw [Nat.min_eq_right (by omega), List.take_of_length_le (Nat.le_refl _), List.take_of_length_le (by omega)]
theorem cut_drop {ds : List DV} {t : Nat} : cutD ds (some ((t : Nat) : Int)) none = ds.drop t := by
  unfold cutD
  rw [sIx_none, HT.sIx_nat]
  by_cases h : t ≤ ds.length
  · rw [Nat.min_eq_left h, List.take_of_length_le (by rw [List.length_drop]; omega)]
  · rw [Nat.min_eq_right (by omega), List.drop_eq_nil_of_le (Nat.le_refl _), List.drop_eq_nil_of_le (by omega), List.take_nil]
theorem atI_get' {α : Type} {xs : List α} {t : Nat} (h : t < xs.length) : atI xs ((t : Nat) : Int) = some xs[t] := atI_nat (List.getElem?_eq_getElem h)
theorem atI_mapD {α : Type} {f : α → DV} {xs : List α} {t : Nat} {x : α} (h : xs[t]? = some x) : atI (xs.map f) ((t : Nat) : Int) = some (f x) := atI_nat (by rw [List.getElem?_map, h]; rfl)
theorem atI_mem {α : Type} {xs : List α} {i : Int} (h0 : 0 ≤ i) (h1 : i < xs.length) : ∃ x, atI xs i = some x ∧ x ∈ xs := by
  obtain ⟨n, rfl⟩ : ∃ n : Nat, i = n := ⟨i.toNat, by omega⟩
  have hn : n < xs.length := by omega
  exact ⟨xs[n], atI_get' hn, List.getElem_mem hn⟩
theorem atI_0 {α : Type} {x : α} {r : List α} : atI (x :: r) 0 = some x := by
  unfold atI ixN
  rw [if_pos (by decide), if_pos (by simp only [List.length_cons]; omega)]
  rfl
theorem atI_1 {α : Type} {x y : α} {r : List α} : atI (x :: y :: r) 1 = some y := by
  unfold atI ixN
  rw [if_pos (by decide), if_pos (by simp only [List.length_cons]; omega)]
  rfl
theorem atI_2 {α : Type} {x y z : α} {r : List α} : atI (x :: y :: z :: r) 2 = some z := by
  unfold atI ixN
  rw [if_pos (by decide), if_pos (by simp only [List.length_cons]; omega)]
  rfl
theorem atI_3 {α : Type} {x y z u : α} {r : List α} : atI (x :: y :: z :: u :: r) 3 = some u := by
  unfold atI ixN
  rw [if_pos (by decide), if_pos (by simp only [List.length_cons]; omega)]
  rfl
theorem atI_4 {α : Type} {x y z u v : α} {r : List α} : atI (x :: y :: z :: u :: v :: r) 4 = some v := by
  unfold atI ixN
  rw [if_pos (by decide), if_pos (by simp only [List.length_cons]; omega)]
  rfl
theorem ixN_5 {i : Int} (h0 : 0 ≤ i) (h1 : i < 5) : ixN 5 i = some i.toNat := by
  unfold ixN
  rw [if_pos h0, if_pos (by omega)]
theorem kit_NoneType_bool : kitB "NoneType" "bool" = some false := by decide +kernel
theorem kit_NoneType_int : kitB "NoneType" "int" = some false := by decide +kernel
theorem kit_NoneType_str : kitB "NoneType" "str" = some false := by decide +kernel
theorem kit_NoneType_tuple : kitB "NoneType" "tuple" = some false := by decide +kernel
theorem kit_NoneType_list : kitB "NoneType" "list" = some false := by decide +kernel
theorem kit_NoneType_dict : kitB "NoneType" "dict" = some false := by decide +kernel
theorem kit_bool_bool : kitB "bool" "bool" = some true := by decide +kernel
theorem kit_bool_int : kitB "bool" "int" = some true := by decide +kernel
theorem kit_bool_str : kitB "bool" "str" = some false := by decide +kernel
theorem kit_bool_tuple : kitB "bool" "tuple" = some false := by decide +kernel
theorem kit_bool_list : kitB "bool" "list" = some false := by decide +kernel
theorem kit_bool_dict : kitB "bool" "dict" = some false := by decide +kernel
theorem kit_int_bool : kitB "int" "bool" = some false := by decide +kernel
theorem kit_int_int : kitB "int" "int" = some true := by decide +kernel
theorem kit_int_str : kitB "int" "str" = some false := by decide +kernel
theorem kit_int_tuple : kitB "int" "tuple" = some false := by decide +kernel
theorem kit_int_list : kitB "int" "list" = some false := by decide +kernel
theorem kit_int_dict : kitB "int" "dict" = some false := by decide +kernel
theorem kit_str_bool : kitB "str" "bool" = some false := by decide +kernel
theorem kit_str_int : kitB "str" "int" = some false := by decide +kernel
theorem kit_str_str : kitB "str" "str" = some true := by decide +kernel
theorem kit_str_tuple : kitB "str" "tuple" = some false := by decide +kernel
theorem kit_str_list : kitB "str" "list" = some false := by decide +kernel
theorem kit_str_dict : kitB "str" "dict" = some false := by decide +kernel
theorem kit_tuple_bool : kitB "tuple" "bool" = some false := by decide +kernel
theorem kit_tuple_int : kitB "tuple" "int" = some false := by decide +kernel
theorem kit_tuple_str : kitB "tuple" "str" = some false := by decide +kernel
theorem kit_tuple_tuple : kitB "tuple" "tuple" = some true := by decide +kernel
theorem kit_tuple_list : kitB "tuple" "list" = some false := by decide +kernel
theorem kit_tuple_dict : kitB "tuple" "dict" = some false := by decide +kernel
theorem kit_list_bool : kitB "list" "bool" = some false := by decide +kernel
theorem kit_list_int : kitB "list" "int" = some false := by decide +kernel
theorem kit_list_str : kitB "list" "str" = some false := by decide +kernel
theorem kit_list_tuple : kitB "list" "tuple" = some false := by decide +kernel
theorem kit_list_list : kitB "list" "list" = some true := by decide +kernel
theorem kit_list_dict : kitB "list" "dict" = some false := by decide +kernel
theorem sz_0 : (0 ≤ sizeLine) = True := eq_true (by decide)
theorem sz_1 : (1 ≤ sizeLine) = True := eq_true (by decide)
theorem sz_2 : (2 ≤ sizeLine) = True := eq_true (by decide)
theorem sz_3 : (3 ≤ sizeLine) = True := eq_true (by decide)
theorem sz_4 : (4 ≤ sizeLine) = True := eq_true (by decide)
theorem sz_5 : (5 ≤ sizeLine) = True := eq_true (by decide)
theorem sz_6 : (6 ≤ sizeLine) = True := eq_true (by decide)
theorem sz_7 : (7 ≤ sizeLine) = True := eq_true (by decide)
theorem sz_8 : (8 ≤ sizeLine) = True := eq_true (by decide)
theorem sz_9 : (9 ≤ sizeLine) = True := eq_true (by decide)
theorem sz_10 : (10 ≤ sizeLine) = True := eq_true (by decide)
theorem sz_11 : (11 ≤ sizeLine) = True := eq_true (by decide)
theorem sz_12 : (12 ≤ sizeLine) = True := eq_true (by decide)
theorem sz_13 : (13 ≤ sizeLine) = True := eq_true (by decide)
theorem sz_14 : (14 ≤ sizeLine) = True := eq_true (by decide)
theorem sz_15 : (15 ≤ sizeLine) = True := eq_true (by decide)
theorem sz_16 : (16 ≤ sizeLine) = True := eq_true (by decide)
theorem sz_17 : (17 ≤ sizeLine) = True := eq_true (by decide)
theorem sz_18 : (18 ≤ sizeLine) = True := eq_true (by decide)
theorem sz_19 : (19 ≤ sizeLine) = True := eq_true (by decide)
theorem sz_20 : (20 ≤ sizeLine) = True := eq_true (by decide)
theorem sz_21 : (21 ≤ sizeLine) = True := eq_true (by decide)
theorem sz_22 : (22 ≤ sizeLine) = True := eq_true (by decide)
theorem sz_23 : (23 ≤ sizeLine) = True := eq_true (by decide)
theorem sz_24 : (24 ≤ sizeLine) = True := eq_true (by decide)
theorem sz_25 : (25 ≤ sizeLine) = True := eq_true (by decide)
theorem sz_26 : (26 ≤ sizeLine) = True := eq_true (by decide)
theorem ixN50 : ixN 5 0 = some 0 := rfl
theorem ixN51 : ixN 5 1 = some 1 := rfl
theorem ixN52 : ixN 5 2 = some 2 := rfl
theorem ixN53 : ixN 5 3 = some 3 := rfl
theorem ixN54 : ixN 5 4 = some 4 := rfl
end DL
set_option linter.all false
set_option maxRecDepth 100000
namespace K18
open PySem L2 DL
/-! what each def tells, over data -/
abbrev Box := List (Int × Int)
def boxD (b : Box) : DV := .tup (b.map fun e => .tup [.int e.1, .int e.2])
def areaD (a : List Box) : DV := .tup (a.map boxD)
def placeD (p : List Int) : DV := .tup (p.map DV.int)
inductive Wish where
  | never (a : List Box) | within (a : List Box) (k : Nat) | answered (a b : List Box) (k : Nat) | ahead (a b : List Box) | again (a : List Box) (k : Nat)
def wishD : Wish → DV
  | .never a => .tup [.str "never", areaD a]
  | .within a k => .tup [.str "within", areaD a, .int k]
  | .answered a b k => .tup [.str "answered", areaD a, areaD b, .int k]
  | .ahead a b => .tup [.str "ahead", areaD a, areaD b]
  | .again a k => .tup [.str "again", areaD a, .int k]
structure AreaOk (n : Nat) (a : List Box) : Prop where
  few : a.length ≤ 1000
  ax : ∀ b ∈ a, b.length = n
def WishOk (n : Nat) : Wish → Prop
  | .never a => AreaOk n a
  | .within a k => AreaOk n a ∧ 1 ≤ k
  | .answered a b k => AreaOk n a ∧ AreaOk n b ∧ 1 ≤ k
  | .ahead a b => AreaOk n a ∧ AreaOk n b
  | .again a k => AreaOk n a ∧ 1 ≤ k
def inB (e : Int × Int) (x : Int) : Bool := decide (e.1 ≤ x) && decide (x ≤ e.2)
def inBox : Box → List Int → Bool
  | e :: b, x :: p => inB e x && inBox b p
  | _, _ => true
def inArea (a : List Box) (p : List Int) : Bool := a.any fun b => inBox b p
abbrev Cnt := Option Int
def cntD : Cnt → DV
  | none => .non
  | some i => .int i
def b2n (b : Bool) : Int := if b then 1 else 0
def begunOne : Wish → List Int → Cnt
  | .never a, p => if inArea a p then none else some 0
  | .within a _, p => some (if inArea a p then -1 else 0)
  | .answered a b _, p => some (b2n (inArea a p && !inArea b p))
  | .ahead a b, p => if !inArea a p && inArea b p then none else some (b2n (inArea a p))
  | .again a _, p => some (b2n (!inArea a p))
def waitedF (b : List Box) (k : Nat) (c : Int) (p : List Int) (t : Bool) : Cnt := if inArea b p then some 0 else if c = 0 then some (b2n t) else if c = k then none else some (c + 1)
def countedOne : Wish → Cnt → List Int → Cnt
  | _, none, _ => none
  | .never a, some _, p => if inArea a p then none else some 0
  | .within a k, some c, p => if (decide (c = -1) || inArea a p) = true then some (-1) else if c + 1 = k then none else some (c + 1)
  | .answered a b k, some c, p => waitedF b k c p (inArea a p)
  | .ahead a b, some c, p => if (decide (c = 1) || inArea a p) = true then some 1 else if inArea b p then none else some 0
  | .again a k, some c, p => if inArea a p then some 0 else if c = k then none else some (c + 1)
/-- whether places are in an area, tick by tick up to at -/
def hereF (a : List Box) (ps : List (List Int)) (at_ : Nat) : List Bool := (ps.take (at_ + 1)).map (inArea a)
def breaksF (w : Wish) (ps : List (List Int)) (t : Nat) : Bool := match w with
  | .never a => (hereF a ps t).getD t false
  | .within a k => decide (t = k) && !(hereF a ps t).any id
  | .again a k => decide (k ≤ t) && !((hereF a ps t).drop (t - k)).any id
  | .ahead a b => (hereF b ps t).getD t false && !(hereF a ps t).any id
  | .answered a b k => decide (k ≤ t) && ((hereF a ps t).getD (t - k) false && !((hereF b ps t).drop (t - k)).any id)
/-- how many at the end are false -/
def trail (l : List Bool) : Nat := (l.reverse.takeWhile (! ·)).length
def countF (w : Wish) (ps : List (List Int)) (t : Nat) : Cnt :=
  if (List.range (t + 1)).any (breaksF w ps) then none else match w with
  | .never _ => some 0
  | .within a _ => some (if (hereF a ps t).any id then -1 else t)
  | .ahead a _ => some (b2n ((hereF a ps t).any id))
  | .again a _ => some (trail (hereF a ps t))
  | .answered a b _ => match (List.range (t + 1)).filter (fun s => (hereF a ps t).getD s false && !((hereF b ps t).drop s).any id) with
    | [] => some 0
    | s :: _ => some (t - s + 1)
structure PlacesOk (n : Nat) (ps : List (List Int)) : Prop where
  few : ps.length ≤ 1000
  ax : ∀ p ∈ ps, p.length = n
def lstI (ns : List Int) : DV := .lst (ns.map DV.int)
def placesD (ps : List (List Int)) : DV := .lst (ps.map placeD)
def wishesD (ws : List Wish) : DV := .tup (ws.map wishD)
def cntsD (cs : List Cnt) : DV := .tup (cs.map cntD)

def s_in_box : DSp := fun ds μ P => ∃ b p, ds = [boxD b, placeD p] ∧ b.length = p.length ∧ p.length ≤ 1000 ∧ P (.bl (inBox b p)) μ
def s_lies_in : DSp := fun ds μ P => ∃ n a p, ds = [areaD a, placeD p] ∧ AreaOk n a ∧ p.length = n ∧ n ≤ 1000 ∧ P (.bl (inArea a p)) μ
def s_u_law_in : DSp := fun ds μ P => ∃ n a p, ds = [areaD a, placeD p] ∧ AreaOk n a ∧ p.length = n ∧ n ≤ 1000 ∧ P (.bl (inArea a p)) μ
def s_begun_one : DSp := fun ds μ P => ∃ n w p, ds = [wishD w, placeD p] ∧ WishOk n w ∧ p.length = n ∧ n ≤ 1000 ∧ P (cntD (begunOne w p)) μ
def s_waited : DSp := fun ds μ P => ∃ n a b k c p t, ds = [wishD (.answered a b k), .int c, placeD p, .bl t] ∧ AreaOk n b ∧ p.length = n ∧ n ≤ 1000 ∧ P (cntD (waitedF b k c p t)) μ
def s_counted_one : DSp := fun ds μ P => ∃ n w c p, ds = [wishD w, cntD c, placeD p] ∧ WishOk n w ∧ p.length = n ∧ n ≤ 1000 ∧ P (cntD (countedOne w c p)) μ
def s_begun : DSp := fun ds μ P => ∃ n ws p, ds = [wishesD ws, placeD p] ∧ ws.length ≤ 1000 ∧ (∀ w ∈ ws, WishOk n w) ∧ p.length = n ∧ n ≤ 1000 ∧ P (cntsD (ws.map fun w => begunOne w p)) μ
def s_counted : DSp := fun ds μ P => ∃ n ws cs p, ds = [wishesD ws, cntsD cs, placeD p] ∧ ws.length ≤ 1000 ∧ cs.length = ws.length ∧ (∀ w ∈ ws, WishOk n w) ∧ p.length = n ∧ n ≤ 1000 ∧
  P (cntsD (List.zipWith (fun w c => countedOne w c p) ws cs)) μ
def s_u_law_breaks : DSp := fun ds μ P => ∃ n w ps t, ds = [wishD w, placesD ps, .int ((t : Nat) : Int)] ∧ WishOk n w ∧ PlacesOk n ps ∧ n ≤ 1000 ∧ t < ps.length ∧ P (.bl (breaksF w ps t)) μ
def s_u_law_count : DSp := fun ds μ P => ∃ n w ps t, ds = [wishD w, placesD ps, .int ((t : Nat) : Int)] ∧ WishOk n w ∧ PlacesOk n ps ∧ n ≤ 1000 ∧ t < ps.length ∧ P (cntD (countF w ps t)) μ
def s_u_law_is : DSp := fun ds μ P => ∃ cs : List Cnt, ds = [cntsD cs, cntsD cs] ∧ cs.length ≤ 1000 ∧ P (.bl true) μ
def s_u_law_is_walk_right : DSp := fun ds μ P => ∃ n ws ps, ds = [wishesD ws, placesD ps] ∧ ws.length ≤ 1000 ∧ (∀ w ∈ ws, WishOk n w) ∧ PlacesOk n ps ∧ n ≤ 1000 ∧ 0 < ps.length ∧ P (.bl true) μ
def s_u_law_are_known_right : DSp := fun ds μ P => ds = [] ∧ P (.bl true) μ
/-- what stands in the hand -/
def HandOk (l : List DV) : Prop := ∃ (cells : List Int) (i left mix cnt : Int), l = [lstI cells, .int i, .int left, .int mix, .int cnt] ∧ (∀ c ∈ cells, 0 ≤ c) ∧ cells.length ≤ 63 ∧ 0 ≤ i ∧ 0 ≤ left ∧ 0 ≤ mix ∧ 0 ≤ cnt
def s_u_law_hand : DSp := fun ds μ P => ∃ ns : List Int, ds = [lstI ns] ∧ ns.length ≤ 63 ∧ ∀ p l, μ p = none → HandOk l → P (.obj p) (Mu.set μ p l)
def s_u_law_draw : DSp := fun ds μ P => ∃ p m l, ds = [.obj p, .int m] ∧ μ p = some l ∧ HandOk l ∧ 0 < m ∧ m < 1000000000 ∧ ∀ d l', HandOk l' → 0 ≤ d → d < m → P (.int d) (Mu.set μ p l')
def s_u_law_some : DSp := fun ds μ P => ∃ p xs l, ds = [.obj p, .lst xs] ∧ μ p = some l ∧ HandOk l ∧ 0 < xs.length ∧ xs.length < 1000 ∧ ∀ d l', d ∈ xs → HandOk l' → P d (Mu.set μ p l')
def s_u_law_box : DSp := fun ds μ P => ∃ p n l, ds = [.obj p, .int ((n : Nat) : Int)] ∧ μ p = some l ∧ HandOk l ∧ n ≤ 1000 ∧ ∀ b l', b.length = n → HandOk l' → P (boxD b) (Mu.set μ p l')
def s_u_law_area : DSp := fun ds μ P => ∃ p n l, ds = [.obj p, .int ((n : Nat) : Int)] ∧ μ p = some l ∧ HandOk l ∧ n ≤ 1000 ∧ ∀ a l', AreaOk n a → HandOk l' → P (areaD a) (Mu.set μ p l')
def s_u_law_wish : DSp := fun ds μ P => ∃ p n l, ds = [.obj p, .int ((n : Nat) : Int)] ∧ μ p = some l ∧ HandOk l ∧ n ≤ 1000 ∧ ∀ w l', WishOk n w → HandOk l' → P (wishD w) (Mu.set μ p l')
def s_u_law_places : DSp := fun ds μ P => ∃ p n m l, ds = [.obj p, .int ((n : Nat) : Int), .int ((m : Nat) : Int)] ∧ μ p = some l ∧ HandOk l ∧ n ≤ 1000 ∧ m ≤ 100 ∧
  ∀ ps l', ps.length = m + 1 → PlacesOk n ps → HandOk l' → P (placesD ps) (Mu.set μ p l')
def s_law : DSp := fun ds μ P => ∃ ns : List Int, ds = [lstI ns] ∧ ns.length ≤ 63 ∧ (∀ p, μ p = none) ∧ ∀ μ', P (.bl true) μ'

theorem len_in_box : ∀ ds μ Q, s_in_box ds μ Q → ds.length = 2 := fun _ _ _ ⟨_, _, e, _⟩ => by rw [e] <;> rfl
theorem len_lies_in : ∀ ds μ Q, s_lies_in ds μ Q → ds.length = 2 := fun _ _ _ ⟨_, _, _, e, _⟩ => by rw [e] <;> rfl
theorem len_u_law_in : ∀ ds μ Q, s_u_law_in ds μ Q → ds.length = 2 := fun _ _ _ ⟨_, _, _, e, _⟩ => by rw [e] <;> rfl
theorem len_begun_one : ∀ ds μ Q, s_begun_one ds μ Q → ds.length = 2 := fun _ _ _ ⟨_, _, _, e, _⟩ => by rw [e] <;> rfl
theorem len_waited : ∀ ds μ Q, s_waited ds μ Q → ds.length = 4 := fun _ _ _ ⟨_, _, _, _, _, _, _, e, _⟩ => by rw [e] <;> rfl
theorem len_counted_one : ∀ ds μ Q, s_counted_one ds μ Q → ds.length = 3 := fun _ _ _ ⟨_, _, _, _, e, _⟩ => by rw [e] <;> rfl
theorem len_begun : ∀ ds μ Q, s_begun ds μ Q → ds.length = 2 := fun _ _ _ ⟨_, _, _, e, _⟩ => by rw [e] <;> rfl
theorem len_counted : ∀ ds μ Q, s_counted ds μ Q → ds.length = 3 := fun _ _ _ ⟨_, _, _, _, e, _⟩ => by rw [e] <;> rfl
theorem len_u_law_breaks : ∀ ds μ Q, s_u_law_breaks ds μ Q → ds.length = 3 := fun _ _ _ ⟨_, _, _, _, e, _⟩ => by rw [e] <;> rfl
theorem len_u_law_count : ∀ ds μ Q, s_u_law_count ds μ Q → ds.length = 3 := fun _ _ _ ⟨_, _, _, _, e, _⟩ => by rw [e] <;> rfl
theorem len_u_law_is : ∀ ds μ Q, s_u_law_is ds μ Q → ds.length = 2 := fun _ _ _ ⟨_, e, _⟩ => by rw [e] <;> rfl
theorem len_u_law_is_walk_right : ∀ ds μ Q, s_u_law_is_walk_right ds μ Q → ds.length = 2 := fun _ _ _ ⟨_, _, _, e, _⟩ => by rw [e] <;> rfl
theorem len_u_law_are_known_right : ∀ ds μ Q, s_u_law_are_known_right ds μ Q → ds.length = 0 := fun _ _ _ ⟨e, _⟩ => by rw [e] <;> rfl
theorem len_u_law_hand : ∀ ds μ Q, s_u_law_hand ds μ Q → ds.length = 1 := fun _ _ _ ⟨_, e, _⟩ => by rw [e] <;> rfl
theorem len_u_law_draw : ∀ ds μ Q, s_u_law_draw ds μ Q → ds.length = 2 := fun _ _ _ ⟨_, _, _, e, _⟩ => by rw [e] <;> rfl
theorem len_u_law_some : ∀ ds μ Q, s_u_law_some ds μ Q → ds.length = 2 := fun _ _ _ ⟨_, _, _, e, _⟩ => by rw [e] <;> rfl
theorem len_u_law_box : ∀ ds μ Q, s_u_law_box ds μ Q → ds.length = 2 := fun _ _ _ ⟨_, _, _, e, _⟩ => by rw [e] <;> rfl
theorem len_u_law_area : ∀ ds μ Q, s_u_law_area ds μ Q → ds.length = 2 := fun _ _ _ ⟨_, _, _, e, _⟩ => by rw [e] <;> rfl
theorem len_u_law_wish : ∀ ds μ Q, s_u_law_wish ds μ Q → ds.length = 2 := fun _ _ _ ⟨_, _, _, e, _⟩ => by rw [e] <;> rfl
theorem len_u_law_places : ∀ ds μ Q, s_u_law_places ds μ Q → ds.length = 3 := fun _ _ _ ⟨_, _, _, _, e, _⟩ => by rw [e] <;> rfl
theorem len_law : ∀ ds μ Q, s_law ds μ Q → ds.length = 1 := fun _ _ _ ⟨_, e, _⟩ => by rw [e] <;> rfl
end K18
set_option linter.all false
set_option maxRecDepth 100000
set_option maxHeartbeats 1000000
namespace K18
open PySem L2 DL
/-! the fact of counts -/
def H (x : Nat → Bool) (t : Nat) : List Bool := (List.range (t + 1)).map x
theorem H_len (x : Nat → Bool) (t : Nat) : (H x t).length = t + 1 := by simp [H]
theorem H_succ (x : Nat → Bool) (t : Nat) : H x (t + 1) = H x t ++ [x (t + 1)] := by
  unfold H
  rw [List.range_succ, List.map_append]
  rfl
theorem H_get {x : Nat → Bool} {t s : Nat} (h : s ≤ t) : (H x t).getD s false = x s := by
  unfold H
  rw [List.getD_eq_getElem?_getD, List.getElem?_map, List.getElem?_range (by omega)]
  rfl
theorem H_here {a : List Box} {ps : List (List Int)} {t : Nat} (h : t < ps.length) : hereF a ps t = H (fun s => inArea a (ps.getD s [])) t := by
  unfold hereF H
  apply List.ext_getElem?
  intro i
  rw [List.getElem?_map, List.getElem?_map, List.getElem?_take]
  by_cases hi : i < t + 1
  · rw [if_pos hi, List.getElem?_range hi, List.getElem?_eq_getElem (by omega)]
    show some (inArea a ps[i]) = some (inArea a (ps.getD i []))
    rw [List.getD_eq_getElem?_getD, List.getElem?_eq_getElem (by omega)]
    rfl
  · rw [if_neg hi, List.getElem?_eq_none (by simpa using hi)]
    rfl
theorem any_drop {y : Nat → Bool} {t s : Nat} : ((H y t).drop s).any id = true ↔ ∃ j, s ≤ j ∧ j ≤ t ∧ y j = true := by
  rw [List.any_eq_true]
  constructor
  · rintro ⟨b, hb, e⟩
    obtain ⟨i, hi⟩ := List.mem_iff_getElem?.mp hb
    rw [List.getElem?_drop] at hi
    unfold H at hi
    rw [List.getElem?_map] at hi
    obtain ⟨j, hj, rfl⟩ := Option.map_eq_some_iff.mp hi
    have hlt := (List.getElem?_eq_some_iff.mp hj).1
    rw [List.length_range] at hlt
    rw [List.getElem?_range hlt] at hj
    cases hj
    exact ⟨s + i, by omega, by omega, e⟩
  · rintro ⟨j, h1, h2, e⟩
    refine ⟨y j, List.mem_iff_getElem?.mpr ⟨j - s, ?_⟩, e⟩
    rw [List.getElem?_drop]
    unfold H
    rw [List.getElem?_map, List.getElem?_range (by omega)]
    show some _ = some _
    rw [show s + (j - s) = j by omega]
theorem any_all {y : Nat → Bool} {t : Nat} : (H y t).any id = true ↔ ∃ j, j ≤ t ∧ y j = true := by
  have h := any_drop (y := y) (t := t) (s := 0)
  rw [List.drop_zero] at h
  rw [h]
  exact ⟨fun ⟨j, _, h2, e⟩ => ⟨j, h2, e⟩, fun ⟨j, h2, e⟩ => ⟨j, Nat.zero_le _, h2, e⟩⟩
theorem trail_app (l : List Bool) (b : Bool) : trail (l ++ [b]) = if b then 0 else trail l + 1 := by
  unfold trail
  rw [List.reverse_append]
  show (List.takeWhile (! ·) (b :: l.reverse)).length = _
  cases b <;> simp
theorem trail_le (l : List Bool) : trail l ≤ l.length := by
  unfold trail
  have h := (List.takeWhile_sublist (! ·) (l := l.reverse)).length_le
  rw [List.length_reverse] at h
  exact h
/-- from j on all is false: as many at the end -/
theorem trail_drop (x : Nat → Bool) : ∀ (t j : Nat), j ≤ t + 1 → (((H x t).drop j).any id = false ↔ t + 1 - j ≤ trail (H x t))
  | 0, j, hj => by
    have e : H x 0 = [x 0] := rfl
    rw [e]
    rcases (show j = 0 ∨ j = 1 by omega) with rfl | rfl
    · cases h : x 0 <;> simp [trail]
    · simp
  | t + 1, j, hj => by
    rw [H_succ, trail_app]
    by_cases he : j = t + 2
    · subst he
      rw [List.drop_eq_nil_of_le (by rw [List.length_append, H_len]; simp)]
      simp
    · rw [List.drop_append_of_le_length (by rw [H_len]; omega), List.any_append]
      have ih := trail_drop x t j (by omega)
      cases hx : x (t + 1) with
      | true =>
        simp
        omega
      | false =>
        simp only [List.any_cons, List.any_nil, id, Bool.or_false, Bool.false_eq_true, if_false]
        rw [ih]
        omega

/-- over the ticks' flags: what breaks, what is counted -/
structure Kind where
  brk : Nat → Bool
  val : Nat → Int
def cnt (q : Kind) (t : Nat) : Cnt := if (List.range (t + 1)).any q.brk then none else some (q.val t)
theorem cnt_zero (q : Kind) : cnt q 0 = if q.brk 0 then none else some (q.val 0) := by
  unfold cnt
  simp [List.range_succ]
theorem cnt_succ (q : Kind) (t : Nat) (h : (List.range (t + 1)).any q.brk = false) : cnt q (t + 1) = if q.brk (t + 1) then none else some (q.val (t + 1)) := by
  unfold cnt
  rw [List.range_succ, List.any_append, h]
  simp
theorem cnt_none (q : Kind) (t : Nat) (h : (List.range (t + 1)).any q.brk = true) : cnt q (t + 1) = none := by
  unfold cnt
  rw [List.range_succ, List.any_append, h]
  simp
def kNever (x : Nat → Bool) : Kind := ⟨x, fun _ => 0⟩
def kWithin (x : Nat → Bool) (k : Nat) : Kind := ⟨fun t => decide (t = k) && !(H x t).any id, fun t => if (H x t).any id then -1 else t⟩
def kAgain (x : Nat → Bool) (k : Nat) : Kind := ⟨fun t => decide (k ≤ t) && !((H x t).drop (t - k)).any id, fun t => trail (H x t)⟩
def kAhead (x y : Nat → Bool) : Kind := ⟨fun t => y t && !(H x t).any id, fun t => b2n ((H x t).any id)⟩
def kAnswered (x y : Nat → Bool) (k : Nat) : Kind := ⟨fun t => decide (k ≤ t) && (x (t - k) && !((H y t).drop (t - k)).any id),
  fun t => match (List.range (t + 1)).filter (fun s => (H x t).getD s false && !((H y t).drop s).any id) with
    | [] => 0
    | s :: _ => t - s + 1⟩
theorem any_succ (x : Nat → Bool) (t : Nat) : (H x (t + 1)).any id = ((H x t).any id || x (t + 1)) := by
  rw [H_succ, List.any_append]
  simp
/-- what each kind's next count is -/
def nextK (c : Cnt) (f : Int → Cnt) : Cnt := match c with
  | none => none
  | some i => f i
theorem step_of (q : Kind) (f : Int → Cnt) (t : Nat) (h : (List.range (t + 1)).any q.brk = false → f (q.val t) = if q.brk (t + 1) then none else some (q.val (t + 1))) : nextK (cnt q t) f = cnt q (t + 1) := by
  cases e : (List.range (t + 1)).any q.brk with
  | true =>
    rw [cnt_none q t e]
    unfold cnt
    rw [e]
    rfl
  | false =>
    rw [cnt_succ q t e, ← h e]
    unfold cnt
    rw [e]
    rfl
theorem within_step (x : Nat → Bool) (k t : Nat) : nextK (cnt (kWithin x k) t) (fun c => if (decide (c = -1) || x (t + 1)) = true then some (-1) else if c + 1 = k then none else some (c + 1)) = cnt (kWithin x k) (t + 1) := by
  refine step_of _ _ _ fun _ => ?_
  show (if (decide ((if (H x t).any id = true then (-1 : Int) else t) = -1) || x (t + 1)) = true then some (-1) else if (if (H x t).any id = true then (-1 : Int) else t) + 1 = k then none else some ((if (H x t).any id = true then (-1 : Int) else t) + 1)) = if (decide (t + 1 = k) && !(H x (t + 1)).any id) = true then none else some (if (H x (t + 1)).any id = true then -1 else ((t + 1 : Nat) : Int))
  rw [any_succ]
  cases h1 : (H x t).any id with
  | true => simp
  | false =>
    cases h2 : x (t + 1) with
    | true => simp
    | false =>
      have e : ¬ ((t : Nat) : Int) = -1 := by omega
      simp only [Bool.false_eq_true, if_false, decide_eq_false e, Bool.or_false]
      by_cases hk : t + 1 = k
      · have hk' : ((t : Nat) : Int) + 1 = k := by omega
        rw [if_pos hk', decide_eq_true hk]
        rfl
      · have hk' : ¬ ((t : Nat) : Int) + 1 = k := by omega
        rw [if_neg hk', decide_eq_false hk]
        simp
theorem ahead_step (x y : Nat → Bool) (t : Nat) : nextK (cnt (kAhead x y) t) (fun c => if (decide (c = 1) || x (t + 1)) = true then some 1 else if y (t + 1) then none else some 0) = cnt (kAhead x y) (t + 1) := by
  refine step_of _ _ _ fun _ => ?_
  show (if (decide (b2n ((H x t).any id) = 1) || x (t + 1)) = true then some 1 else _) = if (y (t + 1) && !(H x (t + 1)).any id) = true then none else some (b2n ((H x (t + 1)).any id))
  rw [any_succ]
  cases h1 : (H x t).any id <;> cases h2 : x (t + 1) <;> cases h3 : y (t + 1) <;> simp [b2n]
theorem never_step (x : Nat → Bool) (t : Nat) : nextK (cnt (kNever x) t) (fun _ => if x (t + 1) then none else some 0) = cnt (kNever x) (t + 1) := by
  refine step_of _ _ _ fun _ => ?_
  rfl
theorem not_brk {q : Kind} {t s : Nat} (h : (List.range (t + 1)).any q.brk = false) (hs : s ≤ t) : q.brk s = false := by
  rw [List.any_eq_false] at h
  have z := h s (List.mem_range.mpr (by omega))
  simpa using z
theorem again_step (x : Nat → Bool) (k t : Nat) : nextK (cnt (kAgain x k) t) (fun c => if x (t + 1) then some 0 else if c = k then none else some (c + 1)) = cnt (kAgain x k) (t + 1) := by
  refine step_of _ _ _ fun hb => ?_
  have nb : (decide (k ≤ t) && !((H x t).drop (t - k)).any id) = false := not_brk (q := kAgain x k) hb (Nat.le_refl t)
  show (if x (t + 1) then some 0 else if ((trail (H x t) : Nat) : Int) = k then none else some (((trail (H x t) : Nat) : Int) + 1)) = if (decide (k ≤ t + 1) && !((H x (t + 1)).drop (t + 1 - k)).any id) = true then none else some ((trail (H x (t + 1)) : Nat) : Int)
  have hT : trail (H x t) ≤ t + 1 := by
    have z := trail_le (H x t)
    rw [H_len] at z
    exact z
  have hd := trail_drop x (t + 1) (t + 1 - k) (by omega)
  have hd0 := trail_drop x t (t - k) (by omega)
  have ht : trail (H x (t + 1)) = if x (t + 1) then 0 else trail (H x t) + 1 := by rw [H_succ, trail_app]
  cases hx : x (t + 1) with
  | true =>
    rw [hx] at ht
    simp only [if_true] at ht ⊢
    have e : ((H x (t + 1)).drop (t + 1 - k)).any id = true := by
      cases z : ((H x (t + 1)).drop (t + 1 - k)).any id with
      | true => rfl
      | false =>
        have := hd.mp z
        omega
    rw [e, ht]
    simp
  | false =>
    rw [hx] at ht
    simp only [Bool.false_eq_true, if_false] at ht ⊢
    by_cases hc : trail (H x t) = k
    · rw [if_pos (by omega)]
      have e : ((H x (t + 1)).drop (t + 1 - k)).any id = false := hd.mpr (by omega)
      rw [e, decide_eq_true (by omega)]
      rfl
    · rw [if_neg (by omega)]
      have e : (decide (k ≤ t + 1) && !((H x (t + 1)).drop (t + 1 - k)).any id) = false := by
        cases z : ((H x (t + 1)).drop (t + 1 - k)).any id with
        | true => simp
        | false =>
          have h1 := hd.mp z
          by_cases hk : k ≤ t + 1
          · exfalso
            have h2 : k ≤ trail (H x t) := by omega
            have h3 : k ≤ t := by omega
            have h4 : ((H x t).drop (t - k)).any id = false := hd0.mpr (by omega)
            rw [h4, decide_eq_true h3] at nb
            cases nb
          · rw [decide_eq_false hk]
            rfl
      rw [e, ht]
      simp
/-- still waited for -/
def pend (x y : Nat → Bool) (t s : Nat) : Bool := x s && !((H y t).drop s).any id
theorem pend_iff {x y : Nat → Bool} {t s : Nat} : pend x y t s = true ↔ x s = true ∧ ∀ j, s ≤ j → j ≤ t → y j = false := by
  unfold pend
  rw [Bool.and_eq_true, Bool.not_eq_true']
  constructor
  · rintro ⟨h1, h2⟩
    refine ⟨h1, fun j h3 h4 => ?_⟩
    cases z : y j with
    | false => rfl
    | true =>
      rw [any_drop.mpr ⟨j, h3, h4, z⟩] at h2
      cases h2
  · rintro ⟨h1, h2⟩
    refine ⟨h1, ?_⟩
    cases z : ((H y t).drop s).any id with
    | false => rfl
    | true =>
      obtain ⟨j, h3, h4, h5⟩ := any_drop.mp z
      rw [h2 j h3 h4] at h5
      cases h5
def firsts (x y : Nat → Bool) (t : Nat) : List Nat := (List.range (t + 1)).filter (pend x y t)
theorem firsts_eq (x y : Nat → Bool) (t : Nat) : (List.range (t + 1)).filter (fun s => (H x t).getD s false && !((H y t).drop s).any id) = firsts x y t := by
  unfold firsts
  refine List.filter_congr fun s hs => ?_
  rw [H_get (by have := List.mem_range.mp hs; omega)]
  rfl
theorem firsts_succ (x y : Nat → Bool) (t : Nat) : firsts x y (t + 1) = if y (t + 1) then [] else firsts x y t ++ (if x (t + 1) then [t + 1] else []) := by
  unfold firsts
  cases hy : y (t + 1) with
  | true =>
    simp only [if_true]
    rw [List.filter_eq_nil_iff]
    intro s hs hp
    have := (pend_iff.mp hp).2 (t + 1) (by have := List.mem_range.mp hs; omega) (Nat.le_refl _)
    rw [hy] at this
    cases this
  | false =>
    simp only [Bool.false_eq_true, if_false]
    rw [List.range_succ, List.filter_append]
    congr 1
    · refine List.filter_congr fun s hs => ?_
      rw [Bool.eq_iff_iff, pend_iff, pend_iff]
      have hs' := List.mem_range.mp hs
      constructor
      · rintro ⟨h1, h2⟩
        exact ⟨h1, fun j h3 h4 => h2 j h3 (by omega)⟩
      · rintro ⟨h1, h2⟩
        refine ⟨h1, fun j h3 h4 => ?_⟩
        by_cases e : j = t + 1
        · rw [e]
          exact hy
        · exact h2 j h3 (by omega)
    · have e : pend x y (t + 1) (t + 1) = x (t + 1) := by
        rw [Bool.eq_iff_iff, pend_iff]
        constructor
        · rintro ⟨h1, _⟩
          exact h1
        · intro h1
          refine ⟨h1, fun j h3 h4 => ?_⟩
          rw [show j = t + 1 by omega]
          exact hy
      show List.filter (pend x y (t + 1)) [t + 1] = _
      cases hx : x (t + 1) <;> simp [List.filter, e, hx]
theorem firsts_head {x y : Nat → Bool} {t s : Nat} {r : List Nat} (h : firsts x y t = s :: r) : s ≤ t ∧ pend x y t s = true ∧ ∀ j, j ≤ t → pend x y t j = true → s ≤ j := by
  have hm : s ∈ firsts x y t := by
    rw [h]
    exact List.mem_cons_self
  unfold firsts at hm
  obtain ⟨h1, h2⟩ := List.mem_filter.mp hm
  refine ⟨by have := List.mem_range.mp h1; omega, h2, fun j hj hp => ?_⟩
  have hmj : j ∈ firsts x y t := by
    unfold firsts
    exact List.mem_filter.mpr ⟨List.mem_range.mpr (by omega), hp⟩
  have hs : (firsts x y t).Pairwise (· < ·) := by
    unfold firsts
    exact List.Pairwise.filter _ List.pairwise_lt_range
  rw [h] at hmj hs
  rcases List.mem_cons.mp hmj with e | e
  · omega
  · have := (List.pairwise_cons.mp hs).1 j e
    omega
theorem firsts_nil {x y : Nat → Bool} {t : Nat} (h : firsts x y t = []) : ∀ j, j ≤ t → pend x y t j = false := fun j hj => by
  cases z : pend x y t j with
  | false => rfl
  | true =>
    have hm : j ∈ firsts x y t := by
      unfold firsts
      exact List.mem_filter.mpr ⟨List.mem_range.mpr (by omega), z⟩
    rw [h] at hm
    cases hm
theorem answered_step (x y : Nat → Bool) (k t : Nat) (hk : 1 ≤ k) : nextK (cnt (kAnswered x y k) t) (fun c => if y (t + 1) then some 0 else if c = 0 then some (b2n (x (t + 1))) else if c = k then none else some (c + 1)) = cnt (kAnswered x y k) (t + 1) := by
  refine step_of _ _ _ fun hb => ?_
  have hv : ∀ u, (kAnswered x y k).val u = match firsts x y u with
    | [] => (0 : Int)
    | s :: _ => u - s + 1 := fun u => by
    show (match (List.range (u + 1)).filter (fun s => (H x u).getD s false && !((H y u).drop s).any id) with
      | [] => (0 : Int)
      | s :: _ => u - s + 1) = _
    rw [firsts_eq]
  have hbk : ∀ u, (kAnswered x y k).brk u = (decide (k ≤ u) && pend x y u (u - k)) := fun _ => rfl
  rw [hv, hv, hbk, firsts_succ]
  cases hy : y (t + 1) with
  | true =>
    have e : pend x y (t + 1) (t + 1 - k) = false := by
      cases z : pend x y (t + 1) (t + 1 - k) with
      | false => rfl
      | true =>
        have := (pend_iff.mp z).2 (t + 1) (by omega) (Nat.le_refl _)
        rw [hy] at this
        cases this
    rw [e]
    simp
  | false =>
    simp only [Bool.false_eq_true, if_false]
    have hp : ∀ s, s ≤ t → pend x y (t + 1) s = pend x y t s := fun s hs => by
      rw [Bool.eq_iff_iff, pend_iff, pend_iff]
      constructor
      · rintro ⟨h1, h2⟩
        exact ⟨h1, fun j h3 h4 => h2 j h3 (by omega)⟩
      · rintro ⟨h1, h2⟩
        refine ⟨h1, fun j h3 h4 => ?_⟩
        by_cases e : j = t + 1
        · rw [e]
          exact hy
        · exact h2 j h3 (by omega)
    cases hf : firsts x y t with
    | nil =>
      have e : (decide (k ≤ t + 1) && pend x y (t + 1) (t + 1 - k)) = false := by
        by_cases h : k ≤ t + 1
        · rw [hp _ (by omega), firsts_nil hf _ (by omega)]
          simp
        · rw [decide_eq_false h]
          rfl
      rw [e]
      cases hx : x (t + 1) <;> simp [b2n] <;> omega
    | cons s r =>
      obtain ⟨h1, h2, h3⟩ := firsts_head hf
      have c0 : ¬ ((t : Int) - s + 1 = 0) := by omega
      show (if (t : Int) - s + 1 = 0 then _ else if (t : Int) - s + 1 = k then none else some ((t : Int) - s + 1 + 1)) = if (decide (k ≤ t + 1) && pend x y (t + 1) (t + 1 - k)) = true then none else some (((t + 1 : Nat) : Int) - s + 1)
      rw [if_neg c0]
      by_cases hc : (t : Int) - s + 1 = k
      · rw [if_pos hc, decide_eq_true (by omega), hp _ (by omega), show t + 1 - k = s by omega, h2]
        rfl
      · rw [if_neg hc]
        have e : (decide (k ≤ t + 1) && pend x y (t + 1) (t + 1 - k)) = false := by
          cases z : (decide (k ≤ t + 1) && pend x y (t + 1) (t + 1 - k)) with
          | false => rfl
          | true =>
            exfalso
            rw [Bool.and_eq_true, decide_eq_true_eq] at z
            obtain ⟨z1, z2⟩ := z
            rw [hp _ (by omega)] at z2
            have h4 := h3 _ (by omega) z2
            have nb : (decide (k ≤ s + k) && pend x y (s + k) (s + k - k)) = false := not_brk (q := kAnswered x y k) hb (s := s + k) (by omega)
            have pp : pend x y (s + k) s = true := pend_iff.mpr ⟨(pend_iff.mp h2).1, fun j h5 h6 => (pend_iff.mp h2).2 j h5 (by omega)⟩
            rw [decide_eq_true (by omega), show s + k - k = s by omega, pp] at nb
            cases nb
        rw [e]
        simp
        omega
/-! the kinds are the wishes -/
theorem any_congr {n : Nat} {f g : Nat → Bool} (h : ∀ s, s < n → f s = g s) : (List.range n).any f = (List.range n).any g := by
  rw [Bool.eq_iff_iff, List.any_eq_true, List.any_eq_true]
  constructor
  · rintro ⟨s, h1, h2⟩
    exact ⟨s, h1, by rw [← h s (List.mem_range.mp h1)]; exact h2⟩
  · rintro ⟨s, h1, h2⟩
    exact ⟨s, h1, by rw [h s (List.mem_range.mp h1)]; exact h2⟩
def xOf (a : List Box) (ps : List (List Int)) : Nat → Bool := fun s => inArea a (ps.getD s [])
def kindOf (ps : List (List Int)) : Wish → Kind
  | .never a => kNever (xOf a ps)
  | .within a k => kWithin (xOf a ps) k
  | .answered a b k => kAnswered (xOf a ps) (xOf b ps) k
  | .ahead a b => kAhead (xOf a ps) (xOf b ps)
  | .again a k => kAgain (xOf a ps) k
theorem breaks_kind {w : Wish} {ps : List (List Int)} {t : Nat} (h : t < ps.length) : breaksF w ps t = (kindOf ps w).brk t := by
  cases w with
  | never a =>
    show (hereF a ps t).getD t false = _
    rw [H_here h, H_get (Nat.le_refl _)]
    rfl
  | within a k =>
    show (decide (t = k) && !(hereF a ps t).any id) = _
    rw [H_here h]
    rfl
  | again a k =>
    show (decide (k ≤ t) && !((hereF a ps t).drop (t - k)).any id) = _
    rw [H_here h]
    rfl
  | ahead a b =>
    show ((hereF b ps t).getD t false && !(hereF a ps t).any id) = _
    rw [H_here h, H_here h, H_get (Nat.le_refl _)]
    rfl
  | answered a b k =>
    show (decide (k ≤ t) && ((hereF a ps t).getD (t - k) false && !((hereF b ps t).drop (t - k)).any id)) = _
    rw [H_here h, H_here h, H_get (Nat.sub_le _ _)]
    rfl
theorem count_kind {w : Wish} {ps : List (List Int)} {t : Nat} (h : t < ps.length) : countF w ps t = cnt (kindOf ps w) t := by
  unfold countF cnt
  rw [any_congr (g := (kindOf ps w).brk) fun s hs => breaks_kind (by omega)]
  cases w with
  | never a => rfl
  | within a k =>
    dsimp only
    rw [H_here h]
    rfl
  | again a k =>
    dsimp only
    rw [H_here h]
    rfl
  | ahead a b =>
    dsimp only
    rw [H_here h]
    rfl
  | answered a b k =>
    dsimp only
    rw [H_here h, H_here h]
    show (if _ then none else match (List.range (t + 1)).filter (fun s => (H (xOf a ps) t).getD s false && !((H (xOf b ps) t).drop s).any id) with
      | [] => some 0
      | s :: _ => some ((t : Int) - s + 1)) = if _ then none else some (match (List.range (t + 1)).filter (fun s => (H (xOf a ps) t).getD s false && !((H (xOf b ps) t).drop s).any id) with
      | [] => (0 : Int)
      | s :: _ => t - s + 1)
    rw [firsts_eq]
    cases firsts (xOf a ps) (xOf b ps) t <;> rfl
theorem fact_zero {n : Nat} {w : Wish} {ps : List (List Int)} (hw : WishOk n w) (h : 0 < ps.length) : begunOne w (ps.getD 0 []) = countF w ps 0 := by
  rw [count_kind h, cnt_zero]
  cases w with
  | never a => rfl
  | within a k =>
    have e : ((kindOf ps (.within a k)).brk 0) = false := by
      show (decide (0 = k) && _) = false
      rw [decide_eq_false (by have := hw.2; omega)]
      rfl
    rw [e]
    show some (if inArea a (ps.getD 0 []) = true then (-1 : Int) else 0) = some (if (H (xOf a ps) 0).any id = true then (-1 : Int) else ((0 : Nat) : Int))
    show some (if xOf a ps 0 = true then (-1 : Int) else 0) = some (if ([xOf a ps 0].any id) = true then (-1 : Int) else 0)
    cases xOf a ps 0 <;> rfl
  | again a k =>
    have e : ((kindOf ps (.again a k)).brk 0) = false := by
      show (decide (k ≤ 0) && _) = false
      rw [decide_eq_false (by have := hw.2; omega)]
      rfl
    rw [e]
    show some (b2n (!xOf a ps 0)) = some ((trail [xOf a ps 0] : Nat) : Int)
    cases xOf a ps 0 <;> rfl
  | ahead a b =>
    show (if (!xOf a ps 0 && xOf b ps 0) = true then none else some (b2n (xOf a ps 0))) = if (xOf b ps 0 && !([xOf a ps 0].any id)) = true then none else some (b2n ([xOf a ps 0].any id))
    cases xOf a ps 0 <;> cases xOf b ps 0 <;> rfl
  | answered a b k =>
    have e : ((kindOf ps (.answered a b k)).brk 0) = false := by
      show (decide (k ≤ 0) && _) = false
      rw [decide_eq_false (by have := hw.2.2; omega)]
      rfl
    rw [e]
    show some (b2n (xOf a ps 0 && !xOf b ps 0)) = some (match (List.range 1).filter (fun s => (H (xOf a ps) 0).getD s false && !((H (xOf b ps) 0).drop s).any id) with
      | [] => (0 : Int)
      | s :: _ => ((0 : Nat) : Int) - s + 1)
    show _ = some (match [0].filter (fun s => ([xOf a ps 0]).getD s false && !(([xOf b ps 0]).drop s).any id) with
      | [] => (0 : Int)
      | s :: _ => ((0 : Nat) : Int) - s + 1)
    cases xOf a ps 0 <;> cases xOf b ps 0 <;> rfl
theorem fact_succ {n : Nat} {w : Wish} {ps : List (List Int)} {t : Nat} (hw : WishOk n w) (h : t + 1 < ps.length) : countedOne w (countF w ps t) (ps.getD (t + 1) []) = countF w ps (t + 1) := by
  rw [count_kind h, count_kind (by omega)]
  cases w with
  | never a =>
    show _ = cnt (kNever (xOf a ps)) (t + 1)
    rw [← never_step]
    show countedOne (.never a) (cnt (kNever (xOf a ps)) t) _ = _
    cases cnt (kNever (xOf a ps)) t <;> rfl
  | within a k =>
    show _ = cnt (kWithin (xOf a ps) k) (t + 1)
    rw [← within_step]
    show countedOne (.within a k) (cnt (kWithin (xOf a ps) k) t) _ = _
    cases cnt (kWithin (xOf a ps) k) t <;> rfl
  | again a k =>
    show _ = cnt (kAgain (xOf a ps) k) (t + 1)
    rw [← again_step]
    show countedOne (.again a k) (cnt (kAgain (xOf a ps) k) t) _ = _
    cases cnt (kAgain (xOf a ps) k) t <;> rfl
  | ahead a b =>
    show _ = cnt (kAhead (xOf a ps) (xOf b ps)) (t + 1)
    rw [← ahead_step]
    show countedOne (.ahead a b) (cnt (kAhead (xOf a ps) (xOf b ps)) t) _ = _
    cases cnt (kAhead (xOf a ps) (xOf b ps)) t <;> rfl
  | answered a b k =>
    show _ = cnt (kAnswered (xOf a ps) (xOf b ps) k) (t + 1)
    rw [← answered_step _ _ _ _ hw.2.2]
    show countedOne (.answered a b k) (cnt (kAnswered (xOf a ps) (xOf b ps) k) t) _ = _
    cases cnt (kAnswered (xOf a ps) (xOf b ps) k) t <;> rfl
end K18
set_option Elab.async false
set_option linter.all false
set_option maxRecDepth 100000
set_option synthInstance.maxHeartbeats 2000000
set_option synthInstance.maxSize 100000
set_option maxHeartbeats 4000000
namespace K18
open PySem PySem.Spec L2 DL

def t_in_box (K : PySem.W.Frag) : TS := (tRet (tCB (rAll K) (tCons (tLc (iEnumT K (tCons (tVar 0) tNil)) (gTup K 2 (gCons (gName 2) (gCons (gName 3) gNil))) tYes (tChain (rI0 fun i j => .bl (decide (i ≤ j))) (rI0 fun i j => .bl (decide (i ≤ j))) (tOp (rIx K) (tVar 3) (tC (.int 0))) (tOp (rIx K) (tVar 1) (tVar 2)) (tOp (rIx K) (tVar 3) (tC (.int 1)))) [2, 3]) tNil)))
def w_in_box : DS := (wRet (wCB wAll (wCons (wLc (idEnumT (wCons (wVar 0) wNil)) (gdTup 2 (gdCons (gdName 2) (gdCons (gdName 3) gdNil))) wYes (wChain (wI0 fun i j => .bl (decide (i ≤ j))) (wI0 fun i j => .bl (decide (i ≤ j))) (wOp wIx (wVar 3) (wC (.int 0))) (wOp wIx (wVar 1) (wVar 2)) (wOp wIx (wVar 3) (wC (.int 1)))) [2, 3]) wNil)))
theorem e_in_box (K : PySem.W.Frag) : EvS K (t_in_box K) w_in_box := by
  unfold t_in_box w_in_box 
  infer_instance
def t_lies_in (K : PySem.W.Frag) : TS := (tRet (tCB (rAny K) (tCons (tLc (iTup K (tVar 0)) (gName 2) tYes (tCall (lift K s_in_box) [] L2.E0 (tCons (tVar 2) (tCons (tVar 1) tNil))) [2]) tNil)))
def w_lies_in : DS := (wRet (wCB wAny (wCons (wLc (idTup (wVar 0)) (gdName 2) wYes (wCall s_in_box (wCons (wVar 2) (wCons (wVar 1) wNil))) [2]) wNil)))
theorem e_lies_in (K : PySem.W.Frag) : EvS K (t_lies_in K) w_lies_in := by
  unfold t_lies_in w_lies_in 
  infer_instance
def t_begun_one (K : PySem.W.Frag) : TS := (tSeq (tAsg (tOp (rIx K) (tVar 0) (tC (.int 0))) (gName 2))
  (tSeq (tAsg (tCall (lift K s_lies_in) [] L2.E0 (tCons (tOp (rIx K) (tVar 0) (tC (.int 1))) (tCons (tVar 1) tNil))) (gName 3))
  (tSeq (tIfS (tTest (tOp rEq (tVar 2) (tC (.str "never")))) (tRet (tIf (tB (tVar 3)) (tC .non) (tC (.int 0)))) tNext)
  (tSeq (tIfS (tTest (tOp rEq (tVar 2) (tC (.str "within")))) (tRet (tIf (tB (tVar 3)) (tC (.int (-1))) (tC (.int 0)))) tNext)
  (tSeq (tIfS (tTest (tOp rEq (tVar 2) (tC (.str "answered")))) (tRet (tCB rIntD (tCons (tAndV (tVar 3) (tNotV (tCall (lift K s_lies_in) [] L2.E0 (tCons (tOp (rIx K) (tVar 0) (tC (.int 2))) (tCons (tVar 1) tNil))))) tNil))) tNext)
  (tSeq (tIfS (tTest (tOp rEq (tVar 2) (tC (.str "ahead")))) (tSeq (tIfS (tAnd (tNot (tB (tVar 3))) (tB (tCall (lift K s_lies_in) [] L2.E0 (tCons (tOp (rIx K) (tVar 0) (tC (.int 2))) (tCons (tVar 1) tNil))))) (tRet (tC .non)) tNext)
  (tRet (tCB rIntD (tCons (tVar 3) tNil)))) tNext)
  (tRet (tCB rIntD (tCons (tNotV (tVar 3)) tNil)))))))))
def w_begun_one : DS := (wSeq (wAsg (wOp wIx (wVar 0) (wC (.int 0))) (gdName 2))
  (wSeq (wAsg (wCall s_lies_in (wCons (wOp wIx (wVar 0) (wC (.int 1))) (wCons (wVar 1) wNil))) (gdName 3))
  (wSeq (wIfS (wTest (wOp wEq (wVar 2) (wC (.str "never")))) (wRet (wIf (wTest (wVar 3)) (wC .non) (wC (.int 0)))) wNext)
  (wSeq (wIfS (wTest (wOp wEq (wVar 2) (wC (.str "within")))) (wRet (wIf (wTest (wVar 3)) (wC (.int (-1))) (wC (.int 0)))) wNext)
  (wSeq (wIfS (wTest (wOp wEq (wVar 2) (wC (.str "answered")))) (wRet (wCB wInt (wCons (wAndV (wVar 3) (wNotV (wCall s_lies_in (wCons (wOp wIx (wVar 0) (wC (.int 2))) (wCons (wVar 1) wNil))))) wNil))) wNext)
  (wSeq (wIfS (wTest (wOp wEq (wVar 2) (wC (.str "ahead")))) (wSeq (wIfS (wAnd (wNot (wTest (wVar 3))) (wTest (wCall s_lies_in (wCons (wOp wIx (wVar 0) (wC (.int 2))) (wCons (wVar 1) wNil))))) (wRet (wC .non)) wNext)
  (wRet (wCB wInt (wCons (wVar 3) wNil)))) wNext)
  (wRet (wCB wInt (wCons (wNotV (wVar 3)) wNil)))))))))
theorem e_begun_one (K : PySem.W.Frag) : EvS K (t_begun_one K) w_begun_one := by
  unfold t_begun_one w_begun_one 
  infer_instance
def t_waited (K : PySem.W.Frag) : TS := (tSeq (tIfS (tB (tCall (lift K s_lies_in) [] L2.E0 (tCons (tOp (rIx K) (tVar 0) (tC (.int 2))) (tCons (tVar 2) tNil)))) (tRet (tC (.int 0))) tNext)
  (tSeq (tIfS (tTest (tOp rEq (tVar 1) (tC (.int 0)))) (tRet (tCB rIntD (tCons (tVar 3) tNil))) tNext)
  (tRet (tIf (tTest (tOp rEq (tVar 1) (tOp (rIx K) (tVar 0) (tC (.int 3))))) (tC .non) (tOp (rI0 fun i j => .int (i + j)) (tVar 1) (tC (.int 1)))))))
def w_waited : DS := (wSeq (wIfS (wTest (wCall s_lies_in (wCons (wOp wIx (wVar 0) (wC (.int 2))) (wCons (wVar 2) wNil)))) (wRet (wC (.int 0))) wNext)
  (wSeq (wIfS (wTest (wOp wEq (wVar 1) (wC (.int 0)))) (wRet (wCB wInt (wCons (wVar 3) wNil))) wNext)
  (wRet (wIf (wTest (wOp wEq (wVar 1) (wOp wIx (wVar 0) (wC (.int 3))))) (wC .non) (wOp (wI0 fun i j => .int (i + j)) (wVar 1) (wC (.int 1)))))))
theorem e_waited (K : PySem.W.Frag) : EvS K (t_waited K) w_waited := by
  unfold t_waited w_waited 
  infer_instance
def t_counted_one (K : PySem.W.Frag) : TS := (tSeq (tIfS (tTest (tOp rIsNo (tVar 1) (tC .non))) (tRet (tC .non)) tNext)
  (tSeq (tAsg (tOp (rIx K) (tVar 0) (tC (.int 0))) (gName 3))
  (tSeq (tAsg (tCall (lift K s_lies_in) [] L2.E0 (tCons (tOp (rIx K) (tVar 0) (tC (.int 1))) (tCons (tVar 2) tNil))) (gName 4))
  (tSeq (tIfS (tTest (tOp rEq (tVar 3) (tC (.str "never")))) (tRet (tIf (tB (tVar 4)) (tC .non) (tC (.int 0)))) tNext)
  (tSeq (tIfS (tTest (tOp rEq (tVar 3) (tC (.str "within")))) (tSeq (tIfS (tOr (tTest (tOp rEq (tVar 1) (tC (.int (-1))))) (tB (tVar 4))) (tRet (tC (.int (-1)))) tNext)
  (tRet (tIf (tTest (tOp rEq (tOp (rI0 fun i j => .int (i + j)) (tVar 1) (tC (.int 1))) (tOp (rIx K) (tVar 0) (tC (.int 2))))) (tC .non) (tOp (rI0 fun i j => .int (i + j)) (tVar 1) (tC (.int 1)))))) tNext)
  (tSeq (tIfS (tTest (tOp rEq (tVar 3) (tC (.str "answered")))) (tRet (tCall (lift K s_waited) [] L2.E0 (tCons (tVar 0) (tCons (tVar 1) (tCons (tVar 2) (tCons (tVar 4) tNil)))))) tNext)
  (tSeq (tIfS (tTest (tOp rEq (tVar 3) (tC (.str "ahead")))) (tSeq (tIfS (tOr (tTest (tOp rEq (tVar 1) (tC (.int 1)))) (tB (tVar 4))) (tRet (tC (.int 1))) tNext)
  (tRet (tIf (tB (tCall (lift K s_lies_in) [] L2.E0 (tCons (tOp (rIx K) (tVar 0) (tC (.int 2))) (tCons (tVar 2) tNil)))) (tC .non) (tC (.int 0))))) tNext)
  (tSeq (tIfS (tB (tVar 4)) (tRet (tC (.int 0))) tNext)
  (tRet (tIf (tTest (tOp rEq (tVar 1) (tOp (rIx K) (tVar 0) (tC (.int 2))))) (tC .non) (tOp (rI0 fun i j => .int (i + j)) (tVar 1) (tC (.int 1)))))))))))))
def w_counted_one : DS := (wSeq (wIfS (wTest (wOp wIsN (wVar 1) (wC .non))) (wRet (wC .non)) wNext)
  (wSeq (wAsg (wOp wIx (wVar 0) (wC (.int 0))) (gdName 3))
  (wSeq (wAsg (wCall s_lies_in (wCons (wOp wIx (wVar 0) (wC (.int 1))) (wCons (wVar 2) wNil))) (gdName 4))
  (wSeq (wIfS (wTest (wOp wEq (wVar 3) (wC (.str "never")))) (wRet (wIf (wTest (wVar 4)) (wC .non) (wC (.int 0)))) wNext)
  (wSeq (wIfS (wTest (wOp wEq (wVar 3) (wC (.str "within")))) (wSeq (wIfS (wOr (wTest (wOp wEq (wVar 1) (wC (.int (-1))))) (wTest (wVar 4))) (wRet (wC (.int (-1)))) wNext)
  (wRet (wIf (wTest (wOp wEq (wOp (wI0 fun i j => .int (i + j)) (wVar 1) (wC (.int 1))) (wOp wIx (wVar 0) (wC (.int 2))))) (wC .non) (wOp (wI0 fun i j => .int (i + j)) (wVar 1) (wC (.int 1)))))) wNext)
  (wSeq (wIfS (wTest (wOp wEq (wVar 3) (wC (.str "answered")))) (wRet (wCall s_waited (wCons (wVar 0) (wCons (wVar 1) (wCons (wVar 2) (wCons (wVar 4) wNil)))))) wNext)
  (wSeq (wIfS (wTest (wOp wEq (wVar 3) (wC (.str "ahead")))) (wSeq (wIfS (wOr (wTest (wOp wEq (wVar 1) (wC (.int 1)))) (wTest (wVar 4))) (wRet (wC (.int 1))) wNext)
  (wRet (wIf (wTest (wCall s_lies_in (wCons (wOp wIx (wVar 0) (wC (.int 2))) (wCons (wVar 2) wNil)))) (wC .non) (wC (.int 0))))) wNext)
  (wSeq (wIfS (wTest (wVar 4)) (wRet (wC (.int 0))) wNext)
  (wRet (wIf (wTest (wOp wEq (wVar 1) (wOp wIx (wVar 0) (wC (.int 2))))) (wC .non) (wOp (wI0 fun i j => .int (i + j)) (wVar 1) (wC (.int 1)))))))))))))
theorem e_counted_one (K : PySem.W.Frag) : EvS K (t_counted_one K) w_counted_one := by
  unfold t_counted_one w_counted_one 
  infer_instance
def t_begun (K : PySem.W.Frag) : TS := (tRet (tCB (rTupD K) (tCons (tLc (iTup K (tVar 0)) (gName 2) tYes (tCall (lift K s_begun_one) [] L2.E0 (tCons (tVar 2) (tCons (tVar 1) tNil))) [2]) tNil)))
def w_begun : DS := (wRet (wCB wTupOf (wCons (wLc (idTup (wVar 0)) (gdName 2) wYes (wCall s_begun_one (wCons (wVar 2) (wCons (wVar 1) wNil))) [2]) wNil)))
theorem e_begun (K : PySem.W.Frag) : EvS K (t_begun K) w_begun := by
  unfold t_begun w_begun 
  infer_instance
def t_counted (K : PySem.W.Frag) : TS := (tRet (tCB (rTupD K) (tCons (tLc (iEnumT K (tCons (tVar 0) tNil)) (gTup K 2 (gCons (gName 3) (gCons (gName 4) gNil))) tYes (tCall (lift K s_counted_one) [] L2.E0 (tCons (tVar 4) (tCons (tOp (rIx K) (tVar 1) (tVar 3)) (tCons (tVar 2) tNil)))) [3, 4]) tNil)))
def w_counted : DS := (wRet (wCB wTupOf (wCons (wLc (idEnumT (wCons (wVar 0) wNil)) (gdTup 2 (gdCons (gdName 3) (gdCons (gdName 4) gdNil))) wYes (wCall s_counted_one (wCons (wVar 4) (wCons (wOp wIx (wVar 1) (wVar 3)) (wCons (wVar 2) wNil)))) [3, 4]) wNil)))
theorem e_counted (K : PySem.W.Frag) : EvS K (t_counted K) w_counted := by
  unfold t_counted w_counted 
  infer_instance
def t_u_law_hand (K : PySem.W.Frag) : TS := (tSeq (tAsg (tLc (iList K (tSl (rSlL K) (tVar 0) tNoPart (tPart (tC (.int 63))))) (gName 2) tYes (tCB rAbsD (tCons (tCB rIntD (tCons (tVar 2) tNil)) tNil)) [2]) (gName 1))
  (tRet (tLstM (tCons (tVar 1) (tCons (tC (.int 0)) (tCons (tC (.int 0)) (tCons (tOp (rI0 fun i j => .int (i + j)) (tC (.int 181)) (tOp (rI CMul fun i j => .int (i * j)) (tC (.int 7)) (tCB (rLenD K) (tCons (tVar 1) tNil)))) (tCons (tC (.int 0)) tNil))))))))
def w_u_law_hand : DS := (wSeq (wAsg (wLc (idLst (wSl (wVar 0) wNoPart (wPart (wC (.int 63))))) (gdName 2) wYes (wCB wAbs (wCons (wCB wInt (wCons (wVar 2) wNil)) wNil)) [2]) (gdName 1))
  (wRet (wLstM (wCons (wVar 1) (wCons (wC (.int 0)) (wCons (wC (.int 0)) (wCons (wOp (wI0 fun i j => .int (i + j)) (wC (.int 181)) (wOp (wI CMul fun i j => .int (i * j)) (wC (.int 7)) (wCB wLen (wCons (wVar 1) wNil)))) (wCons (wC (.int 0)) wNil))))))))
theorem e_u_law_hand (K : PySem.W.Frag) : EvS K (t_u_law_hand K) w_u_law_hand := by
  unfold t_u_law_hand w_u_law_hand 
  infer_instance
def t_u_law_draw (K : PySem.W.Frag) : TS := (tSeq (tIfS (tAnd (tTest (tOp rEq (tOp (rIx K) (tVar 0) (tC (.int 2))) (tC (.int 0)))) (tTest (tOp (rI0 fun i j => .bl (decide (i < j))) (tOp (rIx K) (tVar 0) (tC (.int 1))) (tCB (rLenD K) (tCons (tOp (rIx K) (tVar 0) (tC (.int 0))) tNil))))) (tSeq (tAsg (tOp (rIx K) (tOp (rIx K) (tVar 0) (tC (.int 0))) (tOp (rIx K) (tVar 0) (tC (.int 1)))) (gName 2))
  (tSeq (tAsg (tOp (rI0 fun i j => .int (i + j)) (tOp (rIx K) (tVar 0) (tC (.int 1))) (tC (.int 1))) (gSub (tVar 0) (tC (.int 1)) rSetL))
  (tSeq (tAsg (tOp (rI (fun _ j => 0 < j) fun i j => .int (i % j)) (tCB rIntD (tCons (tOp (rI0 fun i j => .int (i + j)) (tOp (rI0 fun i j => .int (i + j)) (tOp (rI CMul fun i j => .int (i * j)) (tOp (rIx K) (tVar 0) (tC (.int 3))) (tC (.int 69621))) (tVar 2)) (tC (.int 97))) tNil)) (tC (.int 2147483629))) (gSub (tVar 0) (tC (.int 3)) rSetL))
  (tIfS (tTest (tOp (rI0 fun i j => .bl (decide (j ≤ i))) (tVar 2) (tOp (rI CPow fun i j => .int (i ^ j.toNat)) (tC (.int 10)) (tC (.int 18))))) (tAsg (tVar 2) (gSub (tVar 0) (tC (.int 2)) rSetL)) tNext)))) tNext)
  (tSeq (tIfS (tTest (tOp (rI0 fun i j => .bl (decide (j < i))) (tOp (rIx K) (tVar 0) (tC (.int 2))) (tC (.int 0)))) (tSeq (tAsg (tOp (rI (fun _ j => 0 < j) fun i j => .int (i % j)) (tCB rIntD (tCons (tOp (rIx K) (tVar 0) (tC (.int 2))) tNil)) (tVar 1)) (gName 3))
  (tSeq (tAsg (tOp (rI CDiv fun i j => .int (i / j)) (tOp (rIx K) (tVar 0) (tC (.int 2))) (tVar 1)) (gSub (tVar 0) (tC (.int 2)) rSetL))
  (tRet (tVar 3)))) tNext)
  (tSeq (tAsg (tOp (rI0 fun i j => .int (i + j)) (tOp (rIx K) (tVar 0) (tC (.int 4))) (tC (.int 1))) (gSub (tVar 0) (tC (.int 4)) rSetL))
  (tSeq (tAsg (tOp (rI (fun _ j => 0 < j) fun i j => .int (i % j)) (tCB rIntD (tCons (tOp (rI CMul fun i j => .int (i * j)) (tCB rIntD (tCons (tOp (rI0 fun i j => .int (i + j)) (tOp (rIx K) (tVar 0) (tC (.int 3))) (tOp (rI CMul fun i j => .int (i * j)) (tC (.int 7919)) (tOp (rIx K) (tVar 0) (tC (.int 4))))) tNil)) (tC (.int 48271))) tNil)) (tC (.int 2147483647))) (gName 4))
  (tSeq (tAsg (tOp (rI (fun _ j => 0 < j) fun i j => .int (i % j)) (tCB rIntD (tCons (tOp (rI CMul fun i j => .int (i * j)) (tVar 4) (tOp (rI0 fun i j => .int (i + j)) (tOp (rI CDiv fun i j => .int (i / j)) (tVar 4) (tC (.int 1009))) (tC (.int 69621)))) tNil)) (tC (.int 2147483647))) (gName 4))
  (tSeq (tAsg (tOp (rI (fun _ j => 0 < j) fun i j => .int (i % j)) (tCB rIntD (tCons (tOp (rI CMul fun i j => .int (i * j)) (tVar 4) (tOp (rI0 fun i j => .int (i + j)) (tOp (rI CDiv fun i j => .int (i / j)) (tVar 4) (tC (.int 2003))) (tC (.int 40692)))) tNil)) (tC (.int 2147483399))) (gName 4))
  (tRet (tOp (rI (fun _ j => 0 < j) fun i j => .int (i % j)) (tCB rIntD (tCons (tOp (rI CDiv fun i j => .int (i / j)) (tVar 4) (tC (.int 16))) tNil)) (tVar 1)))))))))
def w_u_law_draw_0 : DS := (wIfS (wAnd (wTest (wOp wEq (wOp wIx (wVar 0) (wC (.int 2))) (wC (.int 0)))) (wTest (wOp (wI0 fun i j => .bl (decide (i < j))) (wOp wIx (wVar 0) (wC (.int 1))) (wCB wLen (wCons (wOp wIx (wVar 0) (wC (.int 0))) wNil))))) (wSeq (wAsg (wOp wIx (wOp wIx (wVar 0) (wC (.int 0))) (wOp wIx (wVar 0) (wC (.int 1)))) (gdName 2))
  (wSeq (wAsg (wOp (wI0 fun i j => .int (i + j)) (wOp wIx (wVar 0) (wC (.int 1))) (wC (.int 1))) (gdSub (wVar 0) (wC (.int 1))))
  (wSeq (wAsg (wOp (wI (fun _ j => 0 < j) fun i j => .int (i % j)) (wCB wInt (wCons (wOp (wI0 fun i j => .int (i + j)) (wOp (wI0 fun i j => .int (i + j)) (wOp (wI CMul fun i j => .int (i * j)) (wOp wIx (wVar 0) (wC (.int 3))) (wC (.int 69621))) (wVar 2)) (wC (.int 97))) wNil)) (wC (.int 2147483629))) (gdSub (wVar 0) (wC (.int 3))))
  (wIfS (wTest (wOp (wI0 fun i j => .bl (decide (j ≤ i))) (wVar 2) (wOp (wI CPow fun i j => .int (i ^ j.toNat)) (wC (.int 10)) (wC (.int 18))))) (wAsg (wVar 2) (gdSub (wVar 0) (wC (.int 2)))) wNext)))) wNext)
def w_u_law_draw_1 : DS := (wIfS (wTest (wOp (wI0 fun i j => .bl (decide (j < i))) (wOp wIx (wVar 0) (wC (.int 2))) (wC (.int 0)))) (wSeq (wAsg (wOp (wI (fun _ j => 0 < j) fun i j => .int (i % j)) (wCB wInt (wCons (wOp wIx (wVar 0) (wC (.int 2))) wNil)) (wVar 1)) (gdName 3))
  (wSeq (wAsg (wOp (wI CDiv fun i j => .int (i / j)) (wOp wIx (wVar 0) (wC (.int 2))) (wVar 1)) (gdSub (wVar 0) (wC (.int 2))))
  (wRet (wVar 3)))) wNext)
def w_u_law_draw_2 : DS := (wAsg (wOp (wI0 fun i j => .int (i + j)) (wOp wIx (wVar 0) (wC (.int 4))) (wC (.int 1))) (gdSub (wVar 0) (wC (.int 4))))
def w_u_law_draw_3 : DS := (wAsg (wOp (wI (fun _ j => 0 < j) fun i j => .int (i % j)) (wCB wInt (wCons (wOp (wI CMul fun i j => .int (i * j)) (wCB wInt (wCons (wOp (wI0 fun i j => .int (i + j)) (wOp wIx (wVar 0) (wC (.int 3))) (wOp (wI CMul fun i j => .int (i * j)) (wC (.int 7919)) (wOp wIx (wVar 0) (wC (.int 4))))) wNil)) (wC (.int 48271))) wNil)) (wC (.int 2147483647))) (gdName 4))
def w_u_law_draw_4 : DS := (wAsg (wOp (wI (fun _ j => 0 < j) fun i j => .int (i % j)) (wCB wInt (wCons (wOp (wI CMul fun i j => .int (i * j)) (wVar 4) (wOp (wI0 fun i j => .int (i + j)) (wOp (wI CDiv fun i j => .int (i / j)) (wVar 4) (wC (.int 1009))) (wC (.int 69621)))) wNil)) (wC (.int 2147483647))) (gdName 4))
def w_u_law_draw_5 : DS := (wAsg (wOp (wI (fun _ j => 0 < j) fun i j => .int (i % j)) (wCB wInt (wCons (wOp (wI CMul fun i j => .int (i * j)) (wVar 4) (wOp (wI0 fun i j => .int (i + j)) (wOp (wI CDiv fun i j => .int (i / j)) (wVar 4) (wC (.int 2003))) (wC (.int 40692)))) wNil)) (wC (.int 2147483399))) (gdName 4))
def w_u_law_draw_6 : DS := (wRet (wOp (wI (fun _ j => 0 < j) fun i j => .int (i % j)) (wCB wInt (wCons (wOp (wI CDiv fun i j => .int (i / j)) (wVar 4) (wC (.int 16))) wNil)) (wVar 1)))
def w_u_law_draw : DS := (wSeq w_u_law_draw_0 (wSeq w_u_law_draw_1 (wSeq w_u_law_draw_2 (wSeq w_u_law_draw_3 (wSeq w_u_law_draw_4 (wSeq w_u_law_draw_5 w_u_law_draw_6))))))
theorem e_u_law_draw (K : PySem.W.Frag) : EvS K (t_u_law_draw K) w_u_law_draw := by
  unfold t_u_law_draw w_u_law_draw w_u_law_draw_0 w_u_law_draw_1 w_u_law_draw_2 w_u_law_draw_3 w_u_law_draw_4 w_u_law_draw_5 w_u_law_draw_6
  infer_instance
def t_u_law_some (K : PySem.W.Frag) : TS := (tRet (tOp (rIx K) (tVar 1) (tCall (lift K s_u_law_draw) [] L2.E0 (tCons (tVar 0) (tCons (tCB (rLenD K) (tCons (tVar 1) tNil)) tNil)))))
def w_u_law_some : DS := (wRet (wOp wIx (wVar 1) (wCall s_u_law_draw (wCons (wVar 0) (wCons (wCB wLen (wCons (wVar 1) wNil)) wNil)))))
theorem e_u_law_some (K : PySem.W.Frag) : EvS K (t_u_law_some K) w_u_law_some := by
  unfold t_u_law_some w_u_law_some 
  infer_instance
def t_u_law_in (K : PySem.W.Frag) : TS := (tRet (tCB (rAny K) (tCons (tLc (iTup K (tVar 0)) (gName 5) tYes (tCB (rAll K) (tCons (tLc (RZ.iZipA K (tCons (tVar 1) (tCons (tVar 5) tNil))) (gTup K 2 (gCons (gName 2) (gCons (gTup K 2 (gCons (gName 3) (gCons (gName 4) gNil))) gNil))) tYes (tChain (rI0 fun i j => .bl (decide (i ≤ j))) (rI0 fun i j => .bl (decide (i ≤ j))) (tVar 3) (tVar 2) (tVar 4)) [2, 3, 4]) tNil)) [5]) tNil)))
def w_u_law_in : DS := (wRet (wCB wAny (wCons (wLc (idTup (wVar 0)) (gdName 5) wYes (wCB wAll (wCons (wLc (idZip (wCons (wVar 1) (wCons (wVar 5) wNil))) (gdTup 2 (gdCons (gdName 2) (gdCons (gdTup 2 (gdCons (gdName 3) (gdCons (gdName 4) gdNil))) gdNil))) wYes (wChain (wI0 fun i j => .bl (decide (i ≤ j))) (wI0 fun i j => .bl (decide (i ≤ j))) (wVar 3) (wVar 2) (wVar 4)) [2, 3, 4]) wNil)) [5]) wNil)))
theorem e_u_law_in (K : PySem.W.Frag) : EvS K (t_u_law_in K) w_u_law_in := by
  unfold t_u_law_in w_u_law_in 
  infer_instance
def t_u_law_breaks (K : PySem.W.Frag) : TS := (tSeq (tPar 3 4 (tCons (tOp (rIx K) (tVar 0) (tC (.int 0))) (tCons (tLc (iList K (tSl (rSlL K) (tVar 1) tNoPart (tPart (tOp (rI0 fun i j => .int (i + j)) (tVar 2) (tC (.int 1)))))) (gName 6) tYes (tCall (lift K s_u_law_in) [] L2.E0 (tCons (tOp (rIx K) (tVar 0) (tC (.int 1))) (tCons (tVar 6) tNil))) [6]) tNil)))
  (tSeq (tIfS (tTest (tOp rEq (tVar 3) (tC (.str "never")))) (tRet (tOp (rIx K) (tVar 4) (tVar 2))) tNext)
  (tSeq (tIfS (tTest (tOp rEq (tVar 3) (tC (.str "within")))) (tRet (tAndV (tOp rEq (tVar 2) (tOp (rIx K) (tVar 0) (tC (.int 2)))) (tNotV (tCB (rAny K) (tCons (tVar 4) tNil))))) tNext)
  (tSeq (tIfS (tTest (tOp rEq (tVar 3) (tC (.str "again")))) (tRet (tAndV (tOp (rI0 fun i j => .bl (decide (j ≤ i))) (tVar 2) (tOp (rIx K) (tVar 0) (tC (.int 2)))) (tNotV (tCB (rAny K) (tCons (tSl (rSlL K) (tVar 4) (tPart (tOp (rI0 fun i j => .int (i - j)) (tVar 2) (tOp (rIx K) (tVar 0) (tC (.int 2))))) tNoPart) tNil))))) tNext)
  (tSeq (tAsg (tLc (iList K (tSl (rSlL K) (tVar 1) tNoPart (tPart (tOp (rI0 fun i j => .int (i + j)) (tVar 2) (tC (.int 1)))))) (gName 6) tYes (tCall (lift K s_u_law_in) [] L2.E0 (tCons (tOp (rIx K) (tVar 0) (tC (.int 2))) (tCons (tVar 6) tNil))) [6]) (gName 5))
  (tSeq (tIfS (tTest (tOp rEq (tVar 3) (tC (.str "ahead")))) (tRet (tAndV (tOp (rIx K) (tVar 5) (tVar 2)) (tNotV (tCB (rAny K) (tCons (tVar 4) tNil))))) tNext)
  (tRet (tAndV (tOp (rI0 fun i j => .bl (decide (j ≤ i))) (tVar 2) (tOp (rIx K) (tVar 0) (tC (.int 3)))) (tAndV (tOp (rIx K) (tVar 4) (tOp (rI0 fun i j => .int (i - j)) (tVar 2) (tOp (rIx K) (tVar 0) (tC (.int 3))))) (tNotV (tCB (rAny K) (tCons (tSl (rSlL K) (tVar 5) (tPart (tOp (rI0 fun i j => .int (i - j)) (tVar 2) (tOp (rIx K) (tVar 0) (tC (.int 3))))) tNoPart) tNil))))))))))))
def w_u_law_breaks : DS := (wSeq (wPar 3 4 (wCons (wOp wIx (wVar 0) (wC (.int 0))) (wCons (wLc (idLst (wSl (wVar 1) wNoPart (wPart (wOp (wI0 fun i j => .int (i + j)) (wVar 2) (wC (.int 1)))))) (gdName 6) wYes (wCall s_u_law_in (wCons (wOp wIx (wVar 0) (wC (.int 1))) (wCons (wVar 6) wNil))) [6]) wNil)))
  (wSeq (wIfS (wTest (wOp wEq (wVar 3) (wC (.str "never")))) (wRet (wOp wIx (wVar 4) (wVar 2))) wNext)
  (wSeq (wIfS (wTest (wOp wEq (wVar 3) (wC (.str "within")))) (wRet (wAndV (wOp wEq (wVar 2) (wOp wIx (wVar 0) (wC (.int 2)))) (wNotV (wCB wAny (wCons (wVar 4) wNil))))) wNext)
  (wSeq (wIfS (wTest (wOp wEq (wVar 3) (wC (.str "again")))) (wRet (wAndV (wOp (wI0 fun i j => .bl (decide (j ≤ i))) (wVar 2) (wOp wIx (wVar 0) (wC (.int 2)))) (wNotV (wCB wAny (wCons (wSl (wVar 4) (wPart (wOp (wI0 fun i j => .int (i - j)) (wVar 2) (wOp wIx (wVar 0) (wC (.int 2))))) wNoPart) wNil))))) wNext)
  (wSeq (wAsg (wLc (idLst (wSl (wVar 1) wNoPart (wPart (wOp (wI0 fun i j => .int (i + j)) (wVar 2) (wC (.int 1)))))) (gdName 6) wYes (wCall s_u_law_in (wCons (wOp wIx (wVar 0) (wC (.int 2))) (wCons (wVar 6) wNil))) [6]) (gdName 5))
  (wSeq (wIfS (wTest (wOp wEq (wVar 3) (wC (.str "ahead")))) (wRet (wAndV (wOp wIx (wVar 5) (wVar 2)) (wNotV (wCB wAny (wCons (wVar 4) wNil))))) wNext)
  (wRet (wAndV (wOp (wI0 fun i j => .bl (decide (j ≤ i))) (wVar 2) (wOp wIx (wVar 0) (wC (.int 3)))) (wAndV (wOp wIx (wVar 4) (wOp (wI0 fun i j => .int (i - j)) (wVar 2) (wOp wIx (wVar 0) (wC (.int 3))))) (wNotV (wCB wAny (wCons (wSl (wVar 5) (wPart (wOp (wI0 fun i j => .int (i - j)) (wVar 2) (wOp wIx (wVar 0) (wC (.int 3))))) wNoPart) wNil))))))))))))
theorem e_u_law_breaks (K : PySem.W.Frag) : EvS K (t_u_law_breaks K) w_u_law_breaks := by
  unfold t_u_law_breaks w_u_law_breaks 
  infer_instance
def t_u_law_box (K : PySem.W.Frag) : TS := (tSeq (tAsg (tLstM tNil) (gName 2))
  (tSeq (tFor (iRng1 (tCons (tVar 1) tNil)) (gName 3) (tSeq (tAsg (tCall (lift K s_u_law_draw) [] L2.E0 (tCons (tVar 0) (tCons (tC (.int 5)) tNil))) (gName 4))
  (tDrop (tBM K "list" rAppend (tVar 2) (tCons (tTup (tCons (tVar 4) (tCons (tOp (rI0 fun i j => .int (i + j)) (tVar 4) (tCall (lift K s_u_law_some) [] L2.E0 (tCons (tVar 0) (tCons (tLst (tCons (tC (.int 0)) (tCons (tC (.int 0)) (tCons (tC (.int 0)) (tCons (tC (.int 1)) (tCons (tC (.int 2)) tNil)))))) tNil)))) tNil))) tNil)))))
  (tRet (tCB (rTupD K) (tCons (tVar 2) tNil)))))
def w_u_law_box_0 : DS := (wAsg (wLstM wNil) (gdName 2))
def w_u_law_box_1 : DS := (wFor (idRng1 (wCons (wVar 1) wNil)) (gdName 3) (wSeq (wAsg (wCall s_u_law_draw (wCons (wVar 0) (wCons (wC (.int 5)) wNil))) (gdName 4))
  (wDrop (wAppend (wVar 2) (wCons (wTup (wCons (wVar 4) (wCons (wOp (wI0 fun i j => .int (i + j)) (wVar 4) (wCall s_u_law_some (wCons (wVar 0) (wCons (wLst (wCons (wC (.int 0)) (wCons (wC (.int 0)) (wCons (wC (.int 0)) (wCons (wC (.int 1)) (wCons (wC (.int 2)) wNil)))))) wNil)))) wNil))) wNil)))))
def w_u_law_box_2 : DS := (wRet (wCB wTupOf (wCons (wVar 2) wNil)))
def w_u_law_box : DS := (wSeq w_u_law_box_0 (wSeq w_u_law_box_1 w_u_law_box_2))
theorem e_u_law_box (K : PySem.W.Frag) : EvS K (t_u_law_box K) w_u_law_box := by
  unfold t_u_law_box w_u_law_box w_u_law_box_0 w_u_law_box_1 w_u_law_box_2
  infer_instance
def t_u_law_area (K : PySem.W.Frag) : TS := (tRet (tCB (rTupD K) (tCons (tLc (iRng1 (tCons (tCall (lift K s_u_law_some) [] L2.E0 (tCons (tVar 0) (tCons (tLst (tCons (tC (.int 1)) (tCons (tC (.int 1)) (tCons (tC (.int 1)) (tCons (tC (.int 2)) (tCons (tC (.int 3)) (tCons (tC (.int 6)) (tCons (tC (.int 0)) tNil)))))))) tNil))) tNil)) (gName 2) tYes (tCall (lift K s_u_law_box) [] L2.E0 (tCons (tVar 0) (tCons (tVar 1) tNil))) [2]) tNil)))
def w_u_law_area : DS := (wRet (wCB wTupOf (wCons (wLc (idRng1 (wCons (wCall s_u_law_some (wCons (wVar 0) (wCons (wLst (wCons (wC (.int 1)) (wCons (wC (.int 1)) (wCons (wC (.int 1)) (wCons (wC (.int 2)) (wCons (wC (.int 3)) (wCons (wC (.int 6)) (wCons (wC (.int 0)) wNil)))))))) wNil))) wNil)) (gdName 2) wYes (wCall s_u_law_box (wCons (wVar 0) (wCons (wVar 1) wNil))) [2]) wNil)))
theorem e_u_law_area (K : PySem.W.Frag) : EvS K (t_u_law_area K) w_u_law_area := by
  unfold t_u_law_area w_u_law_area 
  infer_instance
def t_u_law_wish (K : PySem.W.Frag) : TS := (tSeq (tPar3 2 3 4 (tCons (tCall (lift K s_u_law_area) [] L2.E0 (tCons (tVar 0) (tCons (tVar 1) tNil))) (tCons (tCall (lift K s_u_law_area) [] L2.E0 (tCons (tVar 0) (tCons (tVar 1) tNil))) (tCons (tCall (lift K s_u_law_some) [] L2.E0 (tCons (tVar 0) (tCons (tLst (tCons (tC (.int 1)) (tCons (tC (.int 1)) (tCons (tC (.int 2)) (tCons (tC (.int 2)) (tCons (tC (.int 3)) (tCons (tC (.int 4)) (tCons (tC (.int 7)) (tCons (tC (.int 30)) tNil))))))))) tNil))) tNil))))
  (tSeq (tAsg (tLst (tCons (tTup (tCons (tC (.str "never")) (tCons (tVar 2) tNil))) (tCons (tTup (tCons (tC (.str "within")) (tCons (tVar 2) (tCons (tVar 4) tNil)))) (tCons (tTup (tCons (tC (.str "answered")) (tCons (tVar 2) (tCons (tVar 3) (tCons (tVar 4) tNil))))) (tCons (tTup (tCons (tC (.str "ahead")) (tCons (tVar 2) (tCons (tVar 3) tNil)))) (tCons (tTup (tCons (tC (.str "again")) (tCons (tVar 2) (tCons (tVar 4) tNil)))) tNil)))))) (gName 5))
  (tRet (tCall (lift K s_u_law_some) [] L2.E0 (tCons (tVar 0) (tCons (tVar 5) tNil))))))
def w_u_law_wish_0 : DS := (wPar3 2 3 4 (wCons (wCall s_u_law_area (wCons (wVar 0) (wCons (wVar 1) wNil))) (wCons (wCall s_u_law_area (wCons (wVar 0) (wCons (wVar 1) wNil))) (wCons (wCall s_u_law_some (wCons (wVar 0) (wCons (wLst (wCons (wC (.int 1)) (wCons (wC (.int 1)) (wCons (wC (.int 2)) (wCons (wC (.int 2)) (wCons (wC (.int 3)) (wCons (wC (.int 4)) (wCons (wC (.int 7)) (wCons (wC (.int 30)) wNil))))))))) wNil))) wNil))))
def w_u_law_wish_1 : DS := (wAsg (wLst (wCons (wTup (wCons (wC (.str "never")) (wCons (wVar 2) wNil))) (wCons (wTup (wCons (wC (.str "within")) (wCons (wVar 2) (wCons (wVar 4) wNil)))) (wCons (wTup (wCons (wC (.str "answered")) (wCons (wVar 2) (wCons (wVar 3) (wCons (wVar 4) wNil))))) (wCons (wTup (wCons (wC (.str "ahead")) (wCons (wVar 2) (wCons (wVar 3) wNil)))) (wCons (wTup (wCons (wC (.str "again")) (wCons (wVar 2) (wCons (wVar 4) wNil)))) wNil)))))) (gdName 5))
def w_u_law_wish_2 : DS := (wRet (wCall s_u_law_some (wCons (wVar 0) (wCons (wVar 5) wNil))))
def w_u_law_wish : DS := (wSeq w_u_law_wish_0 (wSeq w_u_law_wish_1 w_u_law_wish_2))
theorem e_u_law_wish (K : PySem.W.Frag) : EvS K (t_u_law_wish K) w_u_law_wish := by
  unfold t_u_law_wish w_u_law_wish w_u_law_wish_0 w_u_law_wish_1 w_u_law_wish_2
  infer_instance
def t_u_law_places (K : PySem.W.Frag) : TS := (tSeq (tAsg (tCB (rTupD K) (tCons (tLc (iRng1 (tCons (tVar 1) tNil)) (gName 6) tYes (tCall (lift K s_u_law_draw) [] L2.E0 (tCons (tVar 0) (tCons (tC (.int 6)) tNil))) [6]) tNil)) (gName 3))
  (tSeq (tAsg (tLstM (tCons (tVar 3) tNil)) (gName 4))
  (tSeq (tFor (iRng1 (tCons (tVar 2) tNil)) (gName 5) (tSeq (tIfS (tTest (tOp (rI0 fun i j => .bl (decide (j < i))) (tCall (lift K s_u_law_draw) [] L2.E0 (tCons (tVar 0) (tCons (tC (.int 3)) tNil))) (tC (.int 0)))) (tAsg (tCB (rTupD K) (tCons (tLc (iTup K (tVar 3)) (gName 7) tYes (tCB rMaxD (tCons (tC (.int 0)) (tCons (tCB rMinD (tCons (tC (.int 6)) (tCons (tOp (rI0 fun i j => .int (i - j)) (tOp (rI0 fun i j => .int (i + j)) (tVar 7) (tCall (lift K s_u_law_draw) [] L2.E0 (tCons (tVar 0) (tCons (tC (.int 3)) tNil)))) (tC (.int 1))) tNil))) tNil))) [7]) tNil)) (gName 3)) tNext)
  (tDrop (tBM K "list" rAppend (tVar 4) (tCons (tVar 3) tNil)))))
  (tRet (tVar 4)))))
def w_u_law_places_0 : DS := (wAsg (wCB wTupOf (wCons (wLc (idRng1 (wCons (wVar 1) wNil)) (gdName 6) wYes (wCall s_u_law_draw (wCons (wVar 0) (wCons (wC (.int 6)) wNil))) [6]) wNil)) (gdName 3))
def w_u_law_places_1 : DS := (wAsg (wLstM (wCons (wVar 3) wNil)) (gdName 4))
def w_u_law_places_2 : DS := (wFor (idRng1 (wCons (wVar 2) wNil)) (gdName 5) (wSeq (wIfS (wTest (wOp (wI0 fun i j => .bl (decide (j < i))) (wCall s_u_law_draw (wCons (wVar 0) (wCons (wC (.int 3)) wNil))) (wC (.int 0)))) (wAsg (wCB wTupOf (wCons (wLc (idTup (wVar 3)) (gdName 7) wYes (wCB wMax2 (wCons (wC (.int 0)) (wCons (wCB wMin2 (wCons (wC (.int 6)) (wCons (wOp (wI0 fun i j => .int (i - j)) (wOp (wI0 fun i j => .int (i + j)) (wVar 7) (wCall s_u_law_draw (wCons (wVar 0) (wCons (wC (.int 3)) wNil)))) (wC (.int 1))) wNil))) wNil))) [7]) wNil)) (gdName 3)) wNext)
  (wDrop (wAppend (wVar 4) (wCons (wVar 3) wNil)))))
def w_u_law_places_3 : DS := (wRet (wVar 4))
def w_u_law_places : DS := (wSeq w_u_law_places_0 (wSeq w_u_law_places_1 (wSeq w_u_law_places_2 w_u_law_places_3)))
theorem e_u_law_places (K : PySem.W.Frag) : EvS K (t_u_law_places K) w_u_law_places := by
  unfold t_u_law_places w_u_law_places w_u_law_places_0 w_u_law_places_1 w_u_law_places_2 w_u_law_places_3
  infer_instance
def t_u_law_count (K : PySem.W.Frag) : TS := (tSeq (tIfS (tB (tCB (rAny K) (tCons (tLc (iRng1 (tCons (tOp (rI0 fun i j => .int (i + j)) (tVar 2) (tC (.int 1))) tNil)) (gName 8) tYes (tCall (lift K s_u_law_breaks) [] L2.E0 (tCons (tVar 0) (tCons (tVar 1) (tCons (tVar 8) tNil)))) [8]) tNil))) (tRet (tC .non)) tNext)
  (tSeq (tAsg (tTup (tCons (tOp (rIx K) (tVar 0) (tC (.int 0))) (tCons (tLc (iList K (tSl (rSlL K) (tVar 1) tNoPart (tPart (tOp (rI0 fun i j => .int (i + j)) (tVar 2) (tC (.int 1)))))) (gName 9) tYes (tCall (lift K s_u_law_in) [] L2.E0 (tCons (tOp (rIx K) (tVar 0) (tC (.int 1))) (tCons (tVar 9) tNil))) [9]) tNil))) (gTup K 2 (gCons (gName 3) (gCons (gName 4) gNil))))
  (tSeq (tIfS (tTest (tOp rEq (tVar 3) (tC (.str "never")))) (tRet (tC (.int 0))) tNext)
  (tSeq (tIfS (tTest (tOp rEq (tVar 3) (tC (.str "within")))) (tRet (tIf (tB (tCB (rAny K) (tCons (tVar 4) tNil))) (tUn (rU fun i => .int (-i)) (tC (.int 1))) (tVar 2))) tNext)
  (tSeq (tIfS (tTest (tOp rEq (tVar 3) (tC (.str "ahead")))) (tRet (tCB rIntD (tCons (tCB (rAny K) (tCons (tVar 4) tNil)) tNil))) tNext)
  (tSeq (tIfS (tTest (tOp rEq (tVar 3) (tC (.str "again")))) (tSeq (tAsg (tC (.int 0)) (gName 5))
  (tSeq (tWhile (tAnd (tTest (tOp (rI0 fun i j => .bl (decide (i ≤ j))) (tVar 5) (tVar 2))) (tNot (tB (tOp (rIx K) (tVar 4) (tOp (rI0 fun i j => .int (i - j)) (tVar 2) (tVar 5)))))) (tAsg (tOp (rI0 fun i j => .int (i + j)) (tVar 5) (tC (.int 1))) (gName 5)))
  (tRet (tVar 5)))) tNext)
  (tSeq (tAsg (tLc (iList K (tSl (rSlL K) (tVar 1) tNoPart (tPart (tOp (rI0 fun i j => .int (i + j)) (tVar 2) (tC (.int 1)))))) (gName 9) tYes (tCall (lift K s_u_law_in) [] L2.E0 (tCons (tOp (rIx K) (tVar 0) (tC (.int 2))) (tCons (tVar 9) tNil))) [9]) (gName 6))
  (tSeq (tAsg (tLc (iRng1 (tCons (tOp (rI0 fun i j => .int (i + j)) (tVar 2) (tC (.int 1))) tNil)) (gName 8) (tAnd (tB (tOp (rIx K) (tVar 4) (tVar 8))) (tNot (tB (tCB (rAny K) (tCons (tSl (rSlL K) (tVar 6) (tPart (tVar 8)) tNoPart) tNil))))) (tVar 8) [8]) (gName 7))
  (tRet (tIf (tTest (tOp (rI0 fun i j => .bl (decide (j < i))) (tCB (rLenD K) (tCons (tVar 7) tNil)) (tC (.int 0)))) (tOp (rI0 fun i j => .int (i + j)) (tOp (rI0 fun i j => .int (i - j)) (tVar 2) (tOp (rIx K) (tVar 7) (tC (.int 0)))) (tC (.int 1))) (tC (.int 0))))))))))))
def w_u_law_count : DS := (wSeq (wIfS (wTest (wCB wAny (wCons (wLc (idRng1 (wCons (wOp (wI0 fun i j => .int (i + j)) (wVar 2) (wC (.int 1))) wNil)) (gdName 8) wYes (wCall s_u_law_breaks (wCons (wVar 0) (wCons (wVar 1) (wCons (wVar 8) wNil)))) [8]) wNil))) (wRet (wC .non)) wNext)
  (wSeq (wAsg (wTup (wCons (wOp wIx (wVar 0) (wC (.int 0))) (wCons (wLc (idLst (wSl (wVar 1) wNoPart (wPart (wOp (wI0 fun i j => .int (i + j)) (wVar 2) (wC (.int 1)))))) (gdName 9) wYes (wCall s_u_law_in (wCons (wOp wIx (wVar 0) (wC (.int 1))) (wCons (wVar 9) wNil))) [9]) wNil))) (gdTup 2 (gdCons (gdName 3) (gdCons (gdName 4) gdNil))))
  (wSeq (wIfS (wTest (wOp wEq (wVar 3) (wC (.str "never")))) (wRet (wC (.int 0))) wNext)
  (wSeq (wIfS (wTest (wOp wEq (wVar 3) (wC (.str "within")))) (wRet (wIf (wTest (wCB wAny (wCons (wVar 4) wNil))) (wUn (wU fun i => .int (-i)) (wC (.int 1))) (wVar 2))) wNext)
  (wSeq (wIfS (wTest (wOp wEq (wVar 3) (wC (.str "ahead")))) (wRet (wCB wInt (wCons (wCB wAny (wCons (wVar 4) wNil)) wNil))) wNext)
  (wSeq (wIfS (wTest (wOp wEq (wVar 3) (wC (.str "again")))) (wSeq (wAsg (wC (.int 0)) (gdName 5))
  (wSeq (wWhile (wAnd (wTest (wOp (wI0 fun i j => .bl (decide (i ≤ j))) (wVar 5) (wVar 2))) (wNot (wTest (wOp wIx (wVar 4) (wOp (wI0 fun i j => .int (i - j)) (wVar 2) (wVar 5)))))) (wAsg (wOp (wI0 fun i j => .int (i + j)) (wVar 5) (wC (.int 1))) (gdName 5)))
  (wRet (wVar 5)))) wNext)
  (wSeq (wAsg (wLc (idLst (wSl (wVar 1) wNoPart (wPart (wOp (wI0 fun i j => .int (i + j)) (wVar 2) (wC (.int 1)))))) (gdName 9) wYes (wCall s_u_law_in (wCons (wOp wIx (wVar 0) (wC (.int 2))) (wCons (wVar 9) wNil))) [9]) (gdName 6))
  (wSeq (wAsg (wLc (idRng1 (wCons (wOp (wI0 fun i j => .int (i + j)) (wVar 2) (wC (.int 1))) wNil)) (gdName 8) (wAnd (wTest (wOp wIx (wVar 4) (wVar 8))) (wNot (wTest (wCB wAny (wCons (wSl (wVar 6) (wPart (wVar 8)) wNoPart) wNil))))) (wVar 8) [8]) (gdName 7))
  (wRet (wIf (wTest (wOp (wI0 fun i j => .bl (decide (j < i))) (wCB wLen (wCons (wVar 7) wNil)) (wC (.int 0)))) (wOp (wI0 fun i j => .int (i + j)) (wOp (wI0 fun i j => .int (i - j)) (wVar 2) (wOp wIx (wVar 7) (wC (.int 0)))) (wC (.int 1))) (wC (.int 0))))))))))))
theorem e_u_law_count (K : PySem.W.Frag) : EvS K (t_u_law_count K) w_u_law_count := by
  unfold t_u_law_count w_u_law_count 
  infer_instance
def t_u_law_is (K : PySem.W.Frag) : TS := (tSeq (tIfS (tOr (tNot (tB (tCB (rIsi K) (tCons (tVar 0) (tCons (tC (.ty "tuple")) tNil))))) (tTest (tOp rNe (tCB (rLenD K) (tCons (tVar 0) tNil)) (tCB (rLenD K) (tCons (tVar 1) tNil))))) (tRet (tC (.bl false))) tNext)
  (tSeq (tFor (RZ.iZipA K (tCons (tVar 0) (tCons (tVar 1) tNil))) (gTup K 2 (gCons (gName 2) (gCons (gName 3) gNil))) (tIfS (tOr (tTest (tOp rIsNo (tVar 2) (tC .non))) (tTest (tOp rIsNo (tVar 3) (tC .non)))) (tIfS (tOr (tTest (tOp rNotNo (tVar 2) (tC .non))) (tTest (tOp rNotNo (tVar 3) (tC .non)))) (tRet (tC (.bl false))) tNext) (tIfS (tOr (tB (tCB (rIsi K) (tCons (tVar 2) (tCons (tC (.ty "bool")) tNil)))) (tOr (tNot (tB (tCB (rIsi K) (tCons (tVar 2) (tCons (tC (.ty "int")) tNil))))) (tTest (tOp rNe (tVar 2) (tVar 3))))) (tRet (tC (.bl false))) tNext)))
  (tRet (tC (.bl true)))))
def w_u_law_is : DS := (wSeq (wIfS (wOr (wNot (wTest (wCB wIsi (wCons (wVar 0) (wCons (wC (.ty "tuple")) wNil))))) (wTest (wOp wNe (wCB wLen (wCons (wVar 0) wNil)) (wCB wLen (wCons (wVar 1) wNil))))) (wRet (wC (.bl false))) wNext)
  (wSeq (wFor (idZip (wCons (wVar 0) (wCons (wVar 1) wNil))) (gdTup 2 (gdCons (gdName 2) (gdCons (gdName 3) gdNil))) (wIfS (wOr (wTest (wOp wIsN (wVar 2) (wC .non))) (wTest (wOp wIsN (wVar 3) (wC .non)))) (wIfS (wOr (wTest (wOp wNotN (wVar 2) (wC .non))) (wTest (wOp wNotN (wVar 3) (wC .non)))) (wRet (wC (.bl false))) wNext) (wIfS (wOr (wTest (wCB wIsi (wCons (wVar 2) (wCons (wC (.ty "bool")) wNil)))) (wOr (wNot (wTest (wCB wIsi (wCons (wVar 2) (wCons (wC (.ty "int")) wNil))))) (wTest (wOp wNe (wVar 2) (wVar 3))))) (wRet (wC (.bl false))) wNext)))
  (wRet (wC (.bl true)))))
theorem e_u_law_is (K : PySem.W.Frag) : EvS K (t_u_law_is K) w_u_law_is := by
  unfold t_u_law_is w_u_law_is 
  infer_instance
def t_u_law_is_walk_right (K : PySem.W.Frag) : TS := (tSeq (tAsg (tLc (iRng1 (tCons (tCB (rLenD K) (tCons (tVar 1) tNil)) tNil)) (gName 2) tYes (tCB (rTupD K) (tCons (tLc (iTup K (tVar 0)) (gName 4) tYes (tCall (lift K s_u_law_count) [] L2.E0 (tCons (tVar 4) (tCons (tVar 1) (tCons (tVar 2) tNil)))) [4]) tNil)) [2]) (gName 3))
  (tSeq (tIfS (tNot (tB (tCall (lift K s_u_law_is) [] L2.E0 (tCons (tCall (lift K s_begun) [] L2.E0 (tCons (tVar 0) (tCons (tOp (rIx K) (tVar 1) (tC (.int 0))) tNil))) (tCons (tOp (rIx K) (tVar 3) (tC (.int 0))) tNil))))) (tRet (tC (.bl false))) tNext)
  (tSeq (tFor (iRng2 (tCons (tC (.int 1)) (tCons (tCB (rLenD K) (tCons (tVar 1) tNil)) tNil))) (gName 2) (tIfS (tNot (tB (tCall (lift K s_u_law_is) [] L2.E0 (tCons (tCall (lift K s_counted) [] L2.E0 (tCons (tVar 0) (tCons (tOp (rIx K) (tVar 3) (tOp (rI0 fun i j => .int (i - j)) (tVar 2) (tC (.int 1)))) (tCons (tOp (rIx K) (tVar 1) (tVar 2)) tNil)))) (tCons (tOp (rIx K) (tVar 3) (tVar 2)) tNil))))) (tRet (tC (.bl false))) tNext))
  (tRet (tC (.bl true))))))
def w_u_law_is_walk_right : DS := (wSeq (wAsg (wLc (idRng1 (wCons (wCB wLen (wCons (wVar 1) wNil)) wNil)) (gdName 2) wYes (wCB wTupOf (wCons (wLc (idTup (wVar 0)) (gdName 4) wYes (wCall s_u_law_count (wCons (wVar 4) (wCons (wVar 1) (wCons (wVar 2) wNil)))) [4]) wNil)) [2]) (gdName 3))
  (wSeq (wIfS (wNot (wTest (wCall s_u_law_is (wCons (wCall s_begun (wCons (wVar 0) (wCons (wOp wIx (wVar 1) (wC (.int 0))) wNil))) (wCons (wOp wIx (wVar 3) (wC (.int 0))) wNil))))) (wRet (wC (.bl false))) wNext)
  (wSeq (wFor (idRng2 (wCons (wC (.int 1)) (wCons (wCB wLen (wCons (wVar 1) wNil)) wNil))) (gdName 2) (wIfS (wNot (wTest (wCall s_u_law_is (wCons (wCall s_counted (wCons (wVar 0) (wCons (wOp wIx (wVar 3) (wOp (wI0 fun i j => .int (i - j)) (wVar 2) (wC (.int 1)))) (wCons (wOp wIx (wVar 1) (wVar 2)) wNil)))) (wCons (wOp wIx (wVar 3) (wVar 2)) wNil))))) (wRet (wC (.bl false))) wNext))
  (wRet (wC (.bl true))))))
theorem e_u_law_is_walk_right (K : PySem.W.Frag) : EvS K (t_u_law_is_walk_right K) w_u_law_is_walk_right := by
  unfold t_u_law_is_walk_right w_u_law_is_walk_right 
  infer_instance
def t_u_law_are_known_right (K : PySem.W.Frag) : TS := (tSeq (tAsg (tLst (tCons (tTup (tCons (tC (.int 0)) tNil)) (tCons (tTup (tCons (tC (.int 1)) tNil)) (tCons (tTup (tCons (tC (.int 1)) tNil)) (tCons (tTup (tCons (tC (.int 2)) tNil)) (tCons (tTup (tCons (tC (.int 0)) tNil)) (tCons (tTup (tCons (tC (.int 1)) tNil)) (tCons (tTup (tCons (tC (.int 1)) tNil)) (tCons (tTup (tCons (tC (.int 1)) tNil)) tNil))))))))) (gName 0))
  (tSeq (tAsg (tTup (tCons (tTup (tCons (tTup (tCons (tTup (tCons (tC (.int 1)) (tCons (tC (.int 1)) tNil))) tNil)) tNil)) (tCons (tTup (tCons (tTup (tCons (tTup (tCons (tC (.int 2)) (tCons (tC (.int 2)) tNil))) tNil)) tNil)) tNil))) (gTup K 2 (gCons (gName 1) (gCons (gName 2) gNil))))
  (tSeq (tAsg (tTup (tCons (tTup (tCons (tC (.str "answered")) (tCons (tVar 1) (tCons (tVar 2) (tCons (tC (.int 2)) tNil))))) (tCons (tTup (tCons (tC (.str "answered")) (tCons (tVar 1) (tCons (tVar 2) (tCons (tC (.int 3)) tNil))))) (tCons (tTup (tCons (tC (.str "within")) (tCons (tVar 2) (tCons (tC (.int 3)) tNil)))) (tCons (tTup (tCons (tC (.str "again")) (tCons (tVar 2) (tCons (tC (.int 3)) tNil)))) tNil))))) (gName 3))
  (tSeq (tAsg (tTup (tCons (tTup (tCons (tC (.str "ahead")) (tCons (tVar 1) (tCons (tVar 2) tNil)))) (tCons (tTup (tCons (tC (.str "ahead")) (tCons (tVar 2) (tCons (tVar 1) tNil)))) (tCons (tTup (tCons (tC (.str "never")) (tCons (tTup (tCons (tTup (tCons (tTup (tCons (tC (.int 7)) (tCons (tC (.int 9)) tNil))) tNil)) tNil)) tNil))) (tCons (tTup (tCons (tC (.str "within")) (tCons (tTup (tCons (tTup (tCons (tTup (tCons (tC (.int 5)) (tCons (tC (.int 5)) tNil))) tNil)) tNil)) (tCons (tC (.int 30)) tNil)))) tNil))))) (gName 4))
  (tSeq (tIfS (tOr (tNot (tB (tCall (lift K s_u_law_is) [] L2.E0 (tCons (tCall (lift K s_begun) [] L2.E0 (tCons (tVar 3) (tCons (tTup (tCons (tC (.int 2)) tNil)) tNil))) (tCons (tTup (tCons (tC (.int 0)) (tCons (tC (.int 0)) (tCons (tUn (rU fun i => .int (-i)) (tC (.int 1))) (tCons (tC (.int 0)) tNil))))) tNil))))) (tNot (tB (tCall (lift K s_u_law_is) [] L2.E0 (tCons (tCall (lift K s_begun) [] L2.E0 (tCons (tVar 4) (tCons (tTup (tCons (tC (.int 2)) tNil)) tNil))) (tCons (tTup (tCons (tC .non) (tCons (tC (.int 1)) (tCons (tC (.int 0)) (tCons (tC (.int 0)) tNil))))) tNil)))))) (tRet (tC (.bl false))) tNext)
  (tRet (tAndV (tCall (lift K s_u_law_is_walk_right) [] L2.E0 (tCons (tVar 3) (tCons (tVar 0) tNil))) (tAndV (tCall (lift K s_u_law_is_walk_right) [] L2.E0 (tCons (tVar 4) (tCons (tVar 0) tNil))) (tCall (lift K s_u_law_is_walk_right) [] L2.E0 (tCons (tTup tNil) (tCons (tVar 0) tNil)))))))))))
def w_u_law_are_known_right_0 : DS := (wAsg (wLst (wCons (wTup (wCons (wC (.int 0)) wNil)) (wCons (wTup (wCons (wC (.int 1)) wNil)) (wCons (wTup (wCons (wC (.int 1)) wNil)) (wCons (wTup (wCons (wC (.int 2)) wNil)) (wCons (wTup (wCons (wC (.int 0)) wNil)) (wCons (wTup (wCons (wC (.int 1)) wNil)) (wCons (wTup (wCons (wC (.int 1)) wNil)) (wCons (wTup (wCons (wC (.int 1)) wNil)) wNil))))))))) (gdName 0))
def w_u_law_are_known_right_1 : DS := (wAsg (wTup (wCons (wTup (wCons (wTup (wCons (wTup (wCons (wC (.int 1)) (wCons (wC (.int 1)) wNil))) wNil)) wNil)) (wCons (wTup (wCons (wTup (wCons (wTup (wCons (wC (.int 2)) (wCons (wC (.int 2)) wNil))) wNil)) wNil)) wNil))) (gdTup 2 (gdCons (gdName 1) (gdCons (gdName 2) gdNil))))
def w_u_law_are_known_right_2 : DS := (wAsg (wTup (wCons (wTup (wCons (wC (.str "answered")) (wCons (wVar 1) (wCons (wVar 2) (wCons (wC (.int 2)) wNil))))) (wCons (wTup (wCons (wC (.str "answered")) (wCons (wVar 1) (wCons (wVar 2) (wCons (wC (.int 3)) wNil))))) (wCons (wTup (wCons (wC (.str "within")) (wCons (wVar 2) (wCons (wC (.int 3)) wNil)))) (wCons (wTup (wCons (wC (.str "again")) (wCons (wVar 2) (wCons (wC (.int 3)) wNil)))) wNil))))) (gdName 3))
def w_u_law_are_known_right_3 : DS := (wAsg (wTup (wCons (wTup (wCons (wC (.str "ahead")) (wCons (wVar 1) (wCons (wVar 2) wNil)))) (wCons (wTup (wCons (wC (.str "ahead")) (wCons (wVar 2) (wCons (wVar 1) wNil)))) (wCons (wTup (wCons (wC (.str "never")) (wCons (wTup (wCons (wTup (wCons (wTup (wCons (wC (.int 7)) (wCons (wC (.int 9)) wNil))) wNil)) wNil)) wNil))) (wCons (wTup (wCons (wC (.str "within")) (wCons (wTup (wCons (wTup (wCons (wTup (wCons (wC (.int 5)) (wCons (wC (.int 5)) wNil))) wNil)) wNil)) (wCons (wC (.int 30)) wNil)))) wNil))))) (gdName 4))
def w_u_law_are_known_right_4 : DS := (wIfS (wOr (wNot (wTest (wCall s_u_law_is (wCons (wCall s_begun (wCons (wVar 3) (wCons (wTup (wCons (wC (.int 2)) wNil)) wNil))) (wCons (wTup (wCons (wC (.int 0)) (wCons (wC (.int 0)) (wCons (wUn (wU fun i => .int (-i)) (wC (.int 1))) (wCons (wC (.int 0)) wNil))))) wNil))))) (wNot (wTest (wCall s_u_law_is (wCons (wCall s_begun (wCons (wVar 4) (wCons (wTup (wCons (wC (.int 2)) wNil)) wNil))) (wCons (wTup (wCons (wC .non) (wCons (wC (.int 1)) (wCons (wC (.int 0)) (wCons (wC (.int 0)) wNil))))) wNil)))))) (wRet (wC (.bl false))) wNext)
def w_u_law_are_known_right_5 : DS := (wRet (wAndV (wCall s_u_law_is_walk_right (wCons (wVar 3) (wCons (wVar 0) wNil))) (wAndV (wCall s_u_law_is_walk_right (wCons (wVar 4) (wCons (wVar 0) wNil))) (wCall s_u_law_is_walk_right (wCons (wTup wNil) (wCons (wVar 0) wNil))))))
def w_u_law_are_known_right : DS := (wSeq w_u_law_are_known_right_0 (wSeq w_u_law_are_known_right_1 (wSeq w_u_law_are_known_right_2 (wSeq w_u_law_are_known_right_3 (wSeq w_u_law_are_known_right_4 w_u_law_are_known_right_5)))))
theorem e_u_law_are_known_right (K : PySem.W.Frag) : EvS K (t_u_law_are_known_right K) w_u_law_are_known_right := by
  unfold t_u_law_are_known_right w_u_law_are_known_right w_u_law_are_known_right_0 w_u_law_are_known_right_1 w_u_law_are_known_right_2 w_u_law_are_known_right_3 w_u_law_are_known_right_4 w_u_law_are_known_right_5
  infer_instance
def t_law (K : PySem.W.Frag) : TS := (tSeq (tAsg (tCall (lift K s_u_law_hand) [] L2.E0 (tCons (tVar 0) tNil)) (gName 1))
  (tSeq (tIfS (tNot (tB (tCall (lift K s_u_law_are_known_right) [] L2.E0 tNil))) (tRet (tC (.bl false))) tNext)
  (tSeq (tFor (iRng1 (tCons (tC (.int 4)) tNil)) (gName 2) (tSeq (tAsg (tOp (rI0 fun i j => .int (i + j)) (tC (.int 1)) (tCall (lift K s_u_law_draw) [] L2.E0 (tCons (tVar 1) (tCons (tC (.int 3)) tNil)))) (gName 3))
  (tSeq (tAsg (tCB (rTupD K) (tCons (tLc (iRng1 (tCons (tCall (lift K s_u_law_some) [] L2.E0 (tCons (tVar 1) (tCons (tLst (tCons (tC (.int 1)) (tCons (tC (.int 2)) (tCons (tC (.int 4)) tNil)))) tNil))) tNil)) (gName 5) tYes (tCall (lift K s_u_law_wish) [] L2.E0 (tCons (tVar 1) (tCons (tVar 3) tNil))) [5]) tNil)) (gName 4))
  (tIfS (tNot (tB (tCall (lift K s_u_law_is_walk_right) [] L2.E0 (tCons (tVar 4) (tCons (tCall (lift K s_u_law_places) [] L2.E0 (tCons (tVar 1) (tCons (tVar 3) (tCons (tCall (lift K s_u_law_some) [] L2.E0 (tCons (tVar 1) (tCons (tLst (tCons (tC (.int 0)) (tCons (tC (.int 3)) (tCons (tC (.int 9)) (tCons (tC (.int 18)) tNil))))) tNil))) tNil)))) tNil))))) (tRet (tC (.bl false))) tNext))))
  (tRet (tC (.bl true))))))
def w_law_0 : DS := (wAsg (wCall s_u_law_hand (wCons (wVar 0) wNil)) (gdName 1))
def w_law_1 : DS := (wIfS (wNot (wTest (wCall s_u_law_are_known_right wNil))) (wRet (wC (.bl false))) wNext)
def w_law_2 : DS := (wFor (idRng1 (wCons (wC (.int 4)) wNil)) (gdName 2) (wSeq (wAsg (wOp (wI0 fun i j => .int (i + j)) (wC (.int 1)) (wCall s_u_law_draw (wCons (wVar 1) (wCons (wC (.int 3)) wNil)))) (gdName 3))
  (wSeq (wAsg (wCB wTupOf (wCons (wLc (idRng1 (wCons (wCall s_u_law_some (wCons (wVar 1) (wCons (wLst (wCons (wC (.int 1)) (wCons (wC (.int 2)) (wCons (wC (.int 4)) wNil)))) wNil))) wNil)) (gdName 5) wYes (wCall s_u_law_wish (wCons (wVar 1) (wCons (wVar 3) wNil))) [5]) wNil)) (gdName 4))
  (wIfS (wNot (wTest (wCall s_u_law_is_walk_right (wCons (wVar 4) (wCons (wCall s_u_law_places (wCons (wVar 1) (wCons (wVar 3) (wCons (wCall s_u_law_some (wCons (wVar 1) (wCons (wLst (wCons (wC (.int 0)) (wCons (wC (.int 3)) (wCons (wC (.int 9)) (wCons (wC (.int 18)) wNil))))) wNil))) wNil)))) wNil))))) (wRet (wC (.bl false))) wNext))))
def w_law_3 : DS := (wRet (wC (.bl true)))
def w_law : DS := (wSeq w_law_0 (wSeq w_law_1 (wSeq w_law_2 w_law_3)))
theorem e_law (K : PySem.W.Frag) : EvS K (t_law K) w_law := by
  unfold t_law w_law w_law_0 w_law_1 w_law_2 w_law_3
  infer_instance
end K18
set_option linter.all false
set_option maxRecDepth 100000
set_option maxHeartbeats 4000000
namespace K18
open PySem L2 DL
/-! each def's body, over data, keeps what was told of it -/
theorem cntD_n : cntD none = .non := rfl
theorem cntD_s (i : Int) : cntD (some i) = .int i := rfl
theorem w_nw : decide ((Str.ofString "never" : Str) = Str.ofString "within") = false := by decide +kernel
theorem w_na : decide ((Str.ofString "never" : Str) = Str.ofString "answered") = false := by decide +kernel
theorem w_nh : decide ((Str.ofString "never" : Str) = Str.ofString "ahead") = false := by decide +kernel
theorem w_ng : decide ((Str.ofString "never" : Str) = Str.ofString "again") = false := by decide +kernel
theorem w_wn : decide ((Str.ofString "within" : Str) = Str.ofString "never") = false := by decide +kernel
theorem w_wa : decide ((Str.ofString "within" : Str) = Str.ofString "answered") = false := by decide +kernel
theorem w_wh : decide ((Str.ofString "within" : Str) = Str.ofString "ahead") = false := by decide +kernel
theorem w_wg : decide ((Str.ofString "within" : Str) = Str.ofString "again") = false := by decide +kernel
theorem w_an : decide ((Str.ofString "answered" : Str) = Str.ofString "never") = false := by decide +kernel
theorem w_aw : decide ((Str.ofString "answered" : Str) = Str.ofString "within") = false := by decide +kernel
theorem w_ah : decide ((Str.ofString "answered" : Str) = Str.ofString "ahead") = false := by decide +kernel
theorem w_ag : decide ((Str.ofString "answered" : Str) = Str.ofString "again") = false := by decide +kernel
theorem w_hn : decide ((Str.ofString "ahead" : Str) = Str.ofString "never") = false := by decide +kernel
theorem w_hw : decide ((Str.ofString "ahead" : Str) = Str.ofString "within") = false := by decide +kernel
theorem w_ha : decide ((Str.ofString "ahead" : Str) = Str.ofString "answered") = false := by decide +kernel
theorem w_hg : decide ((Str.ofString "ahead" : Str) = Str.ofString "again") = false := by decide +kernel
theorem w_gn : decide ((Str.ofString "again" : Str) = Str.ofString "never") = false := by decide +kernel
theorem w_gw : decide ((Str.ofString "again" : Str) = Str.ofString "within") = false := by decide +kernel
theorem w_ga : decide ((Str.ofString "again" : Str) = Str.ofString "answered") = false := by decide +kernel
theorem w_gh : decide ((Str.ofString "again" : Str) = Str.ofString "ahead") = false := by decide +kernel
theorem w_self (s : Str) : decide (s = s) = true := decide_eq_true rfl

theorem r_begun_one : ∀ ds μ Q, s_begun_one ds μ Q → w_begun_one (endD Q) (startD 4 ds) μ := by
  rintro ds μ Q ⟨n, w, p, rfl, hw, hp, hn, q⟩
  unfold w_begun_one
  cases w with
  | never a =>
    simp only [DL.wSeq, DL.wAsg, DL.wOp, DL.wVar, DL.wC, DL.wIx, DL.gdName, DL.startD, wishD, DL.pv_, DL.wIfS, DL.wTest, DL.wRet, DL.wIf, DL.wCall, DL.wCons, DL.wNil, DL.wNext, DL.wEq, DL.wNe, DL.wIsN, DL.wNotN, DL.isNonD, DL.onBl, DL.wAndV, DL.wOrV, DL.wNotV, DL.wAnd, DL.wOr, DL.wNot, DL.wCB, DL.wLen, DL.wInt, DL.wAbs, DL.wMax2, DL.wMin2, DL.wTupOf, DL.wUn, DL.wU, DL.wI0, DL.wI, DL.wTup, DL.wLst, DL.wPar, DL.wPar3, DL.wDrop, DL.wSl, DL.wSlL, DL.wPart, DL.wNoPart, DL.endD, DL.wLc, DL.lcStep, DL.wipeD, DL.wYes, DL.gdTup, DL.gdCons, DL.gdNil, DL.idTup, DL.idLst, DL.idEnumL, DL.idEnumT, DL.idZip, DL.idRng1, DL.idRng2, DL.wAny, DL.wAll, DL.wChain, DL.wFor, DL.wWhile, DL.wAppend, DL.wLstM, DL.gdSub, DL.wIsi, DL.tyD, true_and, DL.sz_0, DL.sz_1, DL.sz_2, DL.sz_3, DL.sz_4, DL.sz_5, DL.sz_6, DL.sz_7, DL.sz_8, DL.sz_9, DL.sz_10, DL.sz_11, DL.sz_12, DL.sz_13, DL.sz_14, DL.sz_15, DL.sz_16, DL.sz_17, DL.sz_18, DL.sz_19, DL.sz_20, DL.sz_21, DL.sz_22, DL.sz_23, DL.sz_24, DL.sz_25, DL.sz_26, DL.ixN50, DL.ixN51, DL.ixN52, DL.ixN53, DL.ixN54, DL.Mu.set_same, DL.Mu.set_set, eq_self, decide_true, Bool.not_true, Bool.not_false, Bool.or_false, Bool.or_true, Bool.true_or, Bool.false_or, DL.kit_NoneType_bool, DL.kit_NoneType_int, DL.kit_NoneType_str, DL.kit_NoneType_tuple, DL.kit_NoneType_list, DL.kit_NoneType_dict, DL.kit_bool_bool, DL.kit_bool_int, DL.kit_bool_str, DL.kit_bool_tuple, DL.kit_bool_list, DL.kit_bool_dict, DL.kit_int_bool, DL.kit_int_int, DL.kit_int_str, DL.kit_int_tuple, DL.kit_int_list, DL.kit_int_dict, DL.kit_str_bool, DL.kit_str_int, DL.kit_str_str, DL.kit_str_tuple, DL.kit_str_list, DL.kit_str_dict, DL.kit_tuple_bool, DL.kit_tuple_int, DL.kit_tuple_str, DL.kit_tuple_tuple, DL.kit_tuple_list, DL.kit_tuple_dict, DL.kit_list_bool, DL.kit_list_int, DL.kit_list_str, DL.kit_list_tuple, DL.kit_list_list, DL.kit_list_dict, reduceIte, cntD_n, cntD_s, List.map_cons, List.map_nil, List.length_cons, List.length_nil, List.replicate, List.cons_append, List.nil_append, List.getElem?_cons_zero, List.getElem?_cons_succ, List.set_cons_zero, List.set_cons_succ, onSome, atI_0, atI_1, atI_2, atI_3, atI_4, w_nw, w_na, w_nh, w_ng, w_wn, w_wa, w_wh, w_wg, w_an, w_aw, w_ah, w_ag, w_hn, w_hw, w_ha, w_hg, w_gn, w_gw, w_ga, w_gh, w_self, Bool.false_eq_true, if_false, if_true, Nat.reduceAdd, Nat.reduceSub]
    refine ⟨n, a, p, rfl, hw, hp, hn, ?_⟩
    simp only [DL.wSeq, DL.wAsg, DL.wOp, DL.wVar, DL.wC, DL.wIx, DL.gdName, DL.startD, wishD, DL.pv_, DL.wIfS, DL.wTest, DL.wRet, DL.wIf, DL.wCall, DL.wCons, DL.wNil, DL.wNext, DL.wEq, DL.wNe, DL.wIsN, DL.wNotN, DL.isNonD, DL.onBl, DL.wAndV, DL.wOrV, DL.wNotV, DL.wAnd, DL.wOr, DL.wNot, DL.wCB, DL.wLen, DL.wInt, DL.wAbs, DL.wMax2, DL.wMin2, DL.wTupOf, DL.wUn, DL.wU, DL.wI0, DL.wI, DL.wTup, DL.wLst, DL.wPar, DL.wPar3, DL.wDrop, DL.wSl, DL.wSlL, DL.wPart, DL.wNoPart, DL.endD, DL.wLc, DL.lcStep, DL.wipeD, DL.wYes, DL.gdTup, DL.gdCons, DL.gdNil, DL.idTup, DL.idLst, DL.idEnumL, DL.idEnumT, DL.idZip, DL.idRng1, DL.idRng2, DL.wAny, DL.wAll, DL.wChain, DL.wFor, DL.wWhile, DL.wAppend, DL.wLstM, DL.gdSub, DL.wIsi, DL.tyD, true_and, DL.sz_0, DL.sz_1, DL.sz_2, DL.sz_3, DL.sz_4, DL.sz_5, DL.sz_6, DL.sz_7, DL.sz_8, DL.sz_9, DL.sz_10, DL.sz_11, DL.sz_12, DL.sz_13, DL.sz_14, DL.sz_15, DL.sz_16, DL.sz_17, DL.sz_18, DL.sz_19, DL.sz_20, DL.sz_21, DL.sz_22, DL.sz_23, DL.sz_24, DL.sz_25, DL.sz_26, DL.ixN50, DL.ixN51, DL.ixN52, DL.ixN53, DL.ixN54, DL.Mu.set_same, DL.Mu.set_set, eq_self, decide_true, Bool.not_true, Bool.not_false, Bool.or_false, Bool.or_true, Bool.true_or, Bool.false_or, DL.kit_NoneType_bool, DL.kit_NoneType_int, DL.kit_NoneType_str, DL.kit_NoneType_tuple, DL.kit_NoneType_list, DL.kit_NoneType_dict, DL.kit_bool_bool, DL.kit_bool_int, DL.kit_bool_str, DL.kit_bool_tuple, DL.kit_bool_list, DL.kit_bool_dict, DL.kit_int_bool, DL.kit_int_int, DL.kit_int_str, DL.kit_int_tuple, DL.kit_int_list, DL.kit_int_dict, DL.kit_str_bool, DL.kit_str_int, DL.kit_str_str, DL.kit_str_tuple, DL.kit_str_list, DL.kit_str_dict, DL.kit_tuple_bool, DL.kit_tuple_int, DL.kit_tuple_str, DL.kit_tuple_tuple, DL.kit_tuple_list, DL.kit_tuple_dict, DL.kit_list_bool, DL.kit_list_int, DL.kit_list_str, DL.kit_list_tuple, DL.kit_list_list, DL.kit_list_dict, reduceIte, cntD_n, cntD_s, List.map_cons, List.map_nil, List.length_cons, List.length_nil, List.replicate, List.cons_append, List.nil_append, List.getElem?_cons_zero, List.getElem?_cons_succ, List.set_cons_zero, List.set_cons_succ, onSome, atI_0, atI_1, atI_2, atI_3, atI_4, w_nw, w_na, w_nh, w_ng, w_wn, w_wa, w_wh, w_wg, w_an, w_aw, w_ah, w_ag, w_hn, w_hw, w_ha, w_hg, w_gn, w_gw, w_ga, w_gh, w_self, Bool.false_eq_true, if_false, if_true, Nat.reduceAdd, Nat.reduceSub]
    cases h : inArea a p <;> simp only [begunOne, cntD, h, Bool.false_eq_true, if_false, if_true] at q ⊢ <;> exact rt_D q
  | within a k =>
    simp only [DL.wSeq, DL.wAsg, DL.wOp, DL.wVar, DL.wC, DL.wIx, DL.gdName, DL.startD, wishD, DL.pv_, DL.wIfS, DL.wTest, DL.wRet, DL.wIf, DL.wCall, DL.wCons, DL.wNil, DL.wNext, DL.wEq, DL.wNe, DL.wIsN, DL.wNotN, DL.isNonD, DL.onBl, DL.wAndV, DL.wOrV, DL.wNotV, DL.wAnd, DL.wOr, DL.wNot, DL.wCB, DL.wLen, DL.wInt, DL.wAbs, DL.wMax2, DL.wMin2, DL.wTupOf, DL.wUn, DL.wU, DL.wI0, DL.wI, DL.wTup, DL.wLst, DL.wPar, DL.wPar3, DL.wDrop, DL.wSl, DL.wSlL, DL.wPart, DL.wNoPart, DL.endD, DL.wLc, DL.lcStep, DL.wipeD, DL.wYes, DL.gdTup, DL.gdCons, DL.gdNil, DL.idTup, DL.idLst, DL.idEnumL, DL.idEnumT, DL.idZip, DL.idRng1, DL.idRng2, DL.wAny, DL.wAll, DL.wChain, DL.wFor, DL.wWhile, DL.wAppend, DL.wLstM, DL.gdSub, DL.wIsi, DL.tyD, true_and, DL.sz_0, DL.sz_1, DL.sz_2, DL.sz_3, DL.sz_4, DL.sz_5, DL.sz_6, DL.sz_7, DL.sz_8, DL.sz_9, DL.sz_10, DL.sz_11, DL.sz_12, DL.sz_13, DL.sz_14, DL.sz_15, DL.sz_16, DL.sz_17, DL.sz_18, DL.sz_19, DL.sz_20, DL.sz_21, DL.sz_22, DL.sz_23, DL.sz_24, DL.sz_25, DL.sz_26, DL.ixN50, DL.ixN51, DL.ixN52, DL.ixN53, DL.ixN54, DL.Mu.set_same, DL.Mu.set_set, eq_self, decide_true, Bool.not_true, Bool.not_false, Bool.or_false, Bool.or_true, Bool.true_or, Bool.false_or, DL.kit_NoneType_bool, DL.kit_NoneType_int, DL.kit_NoneType_str, DL.kit_NoneType_tuple, DL.kit_NoneType_list, DL.kit_NoneType_dict, DL.kit_bool_bool, DL.kit_bool_int, DL.kit_bool_str, DL.kit_bool_tuple, DL.kit_bool_list, DL.kit_bool_dict, DL.kit_int_bool, DL.kit_int_int, DL.kit_int_str, DL.kit_int_tuple, DL.kit_int_list, DL.kit_int_dict, DL.kit_str_bool, DL.kit_str_int, DL.kit_str_str, DL.kit_str_tuple, DL.kit_str_list, DL.kit_str_dict, DL.kit_tuple_bool, DL.kit_tuple_int, DL.kit_tuple_str, DL.kit_tuple_tuple, DL.kit_tuple_list, DL.kit_tuple_dict, DL.kit_list_bool, DL.kit_list_int, DL.kit_list_str, DL.kit_list_tuple, DL.kit_list_list, DL.kit_list_dict, reduceIte, cntD_n, cntD_s, List.map_cons, List.map_nil, List.length_cons, List.length_nil, List.replicate, List.cons_append, List.nil_append, List.getElem?_cons_zero, List.getElem?_cons_succ, List.set_cons_zero, List.set_cons_succ, onSome, atI_0, atI_1, atI_2, atI_3, atI_4, w_nw, w_na, w_nh, w_ng, w_wn, w_wa, w_wh, w_wg, w_an, w_aw, w_ah, w_ag, w_hn, w_hw, w_ha, w_hg, w_gn, w_gw, w_ga, w_gh, w_self, Bool.false_eq_true, if_false, if_true, Nat.reduceAdd, Nat.reduceSub]
    refine ⟨n, a, p, rfl, hw.1, hp, hn, ?_⟩
    simp only [DL.wSeq, DL.wAsg, DL.wOp, DL.wVar, DL.wC, DL.wIx, DL.gdName, DL.startD, wishD, DL.pv_, DL.wIfS, DL.wTest, DL.wRet, DL.wIf, DL.wCall, DL.wCons, DL.wNil, DL.wNext, DL.wEq, DL.wNe, DL.wIsN, DL.wNotN, DL.isNonD, DL.onBl, DL.wAndV, DL.wOrV, DL.wNotV, DL.wAnd, DL.wOr, DL.wNot, DL.wCB, DL.wLen, DL.wInt, DL.wAbs, DL.wMax2, DL.wMin2, DL.wTupOf, DL.wUn, DL.wU, DL.wI0, DL.wI, DL.wTup, DL.wLst, DL.wPar, DL.wPar3, DL.wDrop, DL.wSl, DL.wSlL, DL.wPart, DL.wNoPart, DL.endD, DL.wLc, DL.lcStep, DL.wipeD, DL.wYes, DL.gdTup, DL.gdCons, DL.gdNil, DL.idTup, DL.idLst, DL.idEnumL, DL.idEnumT, DL.idZip, DL.idRng1, DL.idRng2, DL.wAny, DL.wAll, DL.wChain, DL.wFor, DL.wWhile, DL.wAppend, DL.wLstM, DL.gdSub, DL.wIsi, DL.tyD, true_and, DL.sz_0, DL.sz_1, DL.sz_2, DL.sz_3, DL.sz_4, DL.sz_5, DL.sz_6, DL.sz_7, DL.sz_8, DL.sz_9, DL.sz_10, DL.sz_11, DL.sz_12, DL.sz_13, DL.sz_14, DL.sz_15, DL.sz_16, DL.sz_17, DL.sz_18, DL.sz_19, DL.sz_20, DL.sz_21, DL.sz_22, DL.sz_23, DL.sz_24, DL.sz_25, DL.sz_26, DL.ixN50, DL.ixN51, DL.ixN52, DL.ixN53, DL.ixN54, DL.Mu.set_same, DL.Mu.set_set, eq_self, decide_true, Bool.not_true, Bool.not_false, Bool.or_false, Bool.or_true, Bool.true_or, Bool.false_or, DL.kit_NoneType_bool, DL.kit_NoneType_int, DL.kit_NoneType_str, DL.kit_NoneType_tuple, DL.kit_NoneType_list, DL.kit_NoneType_dict, DL.kit_bool_bool, DL.kit_bool_int, DL.kit_bool_str, DL.kit_bool_tuple, DL.kit_bool_list, DL.kit_bool_dict, DL.kit_int_bool, DL.kit_int_int, DL.kit_int_str, DL.kit_int_tuple, DL.kit_int_list, DL.kit_int_dict, DL.kit_str_bool, DL.kit_str_int, DL.kit_str_str, DL.kit_str_tuple, DL.kit_str_list, DL.kit_str_dict, DL.kit_tuple_bool, DL.kit_tuple_int, DL.kit_tuple_str, DL.kit_tuple_tuple, DL.kit_tuple_list, DL.kit_tuple_dict, DL.kit_list_bool, DL.kit_list_int, DL.kit_list_str, DL.kit_list_tuple, DL.kit_list_list, DL.kit_list_dict, reduceIte, cntD_n, cntD_s, List.map_cons, List.map_nil, List.length_cons, List.length_nil, List.replicate, List.cons_append, List.nil_append, List.getElem?_cons_zero, List.getElem?_cons_succ, List.set_cons_zero, List.set_cons_succ, onSome, atI_0, atI_1, atI_2, atI_3, atI_4, w_nw, w_na, w_nh, w_ng, w_wn, w_wa, w_wh, w_wg, w_an, w_aw, w_ah, w_ag, w_hn, w_hw, w_ha, w_hg, w_gn, w_gw, w_ga, w_gh, w_self, Bool.false_eq_true, if_false, if_true, Nat.reduceAdd, Nat.reduceSub]
    cases h : inArea a p <;> simp only [begunOne, cntD, h, Bool.false_eq_true, if_false, if_true] at q ⊢ <;> exact rt_D q
  | answered a b k =>
    simp only [DL.wSeq, DL.wAsg, DL.wOp, DL.wVar, DL.wC, DL.wIx, DL.gdName, DL.startD, wishD, DL.pv_, DL.wIfS, DL.wTest, DL.wRet, DL.wIf, DL.wCall, DL.wCons, DL.wNil, DL.wNext, DL.wEq, DL.wNe, DL.wIsN, DL.wNotN, DL.isNonD, DL.onBl, DL.wAndV, DL.wOrV, DL.wNotV, DL.wAnd, DL.wOr, DL.wNot, DL.wCB, DL.wLen, DL.wInt, DL.wAbs, DL.wMax2, DL.wMin2, DL.wTupOf, DL.wUn, DL.wU, DL.wI0, DL.wI, DL.wTup, DL.wLst, DL.wPar, DL.wPar3, DL.wDrop, DL.wSl, DL.wSlL, DL.wPart, DL.wNoPart, DL.endD, DL.wLc, DL.lcStep, DL.wipeD, DL.wYes, DL.gdTup, DL.gdCons, DL.gdNil, DL.idTup, DL.idLst, DL.idEnumL, DL.idEnumT, DL.idZip, DL.idRng1, DL.idRng2, DL.wAny, DL.wAll, DL.wChain, DL.wFor, DL.wWhile, DL.wAppend, DL.wLstM, DL.gdSub, DL.wIsi, DL.tyD, true_and, DL.sz_0, DL.sz_1, DL.sz_2, DL.sz_3, DL.sz_4, DL.sz_5, DL.sz_6, DL.sz_7, DL.sz_8, DL.sz_9, DL.sz_10, DL.sz_11, DL.sz_12, DL.sz_13, DL.sz_14, DL.sz_15, DL.sz_16, DL.sz_17, DL.sz_18, DL.sz_19, DL.sz_20, DL.sz_21, DL.sz_22, DL.sz_23, DL.sz_24, DL.sz_25, DL.sz_26, DL.ixN50, DL.ixN51, DL.ixN52, DL.ixN53, DL.ixN54, DL.Mu.set_same, DL.Mu.set_set, eq_self, decide_true, Bool.not_true, Bool.not_false, Bool.or_false, Bool.or_true, Bool.true_or, Bool.false_or, DL.kit_NoneType_bool, DL.kit_NoneType_int, DL.kit_NoneType_str, DL.kit_NoneType_tuple, DL.kit_NoneType_list, DL.kit_NoneType_dict, DL.kit_bool_bool, DL.kit_bool_int, DL.kit_bool_str, DL.kit_bool_tuple, DL.kit_bool_list, DL.kit_bool_dict, DL.kit_int_bool, DL.kit_int_int, DL.kit_int_str, DL.kit_int_tuple, DL.kit_int_list, DL.kit_int_dict, DL.kit_str_bool, DL.kit_str_int, DL.kit_str_str, DL.kit_str_tuple, DL.kit_str_list, DL.kit_str_dict, DL.kit_tuple_bool, DL.kit_tuple_int, DL.kit_tuple_str, DL.kit_tuple_tuple, DL.kit_tuple_list, DL.kit_tuple_dict, DL.kit_list_bool, DL.kit_list_int, DL.kit_list_str, DL.kit_list_tuple, DL.kit_list_list, DL.kit_list_dict, reduceIte, cntD_n, cntD_s, List.map_cons, List.map_nil, List.length_cons, List.length_nil, List.replicate, List.cons_append, List.nil_append, List.getElem?_cons_zero, List.getElem?_cons_succ, List.set_cons_zero, List.set_cons_succ, onSome, atI_0, atI_1, atI_2, atI_3, atI_4, w_nw, w_na, w_nh, w_ng, w_wn, w_wa, w_wh, w_wg, w_an, w_aw, w_ah, w_ag, w_hn, w_hw, w_ha, w_hg, w_gn, w_gw, w_ga, w_gh, w_self, Bool.false_eq_true, if_false, if_true, Nat.reduceAdd, Nat.reduceSub]
    refine ⟨n, a, p, rfl, hw.1, hp, hn, ?_⟩
    simp only [DL.wSeq, DL.wAsg, DL.wOp, DL.wVar, DL.wC, DL.wIx, DL.gdName, DL.startD, wishD, DL.pv_, DL.wIfS, DL.wTest, DL.wRet, DL.wIf, DL.wCall, DL.wCons, DL.wNil, DL.wNext, DL.wEq, DL.wNe, DL.wIsN, DL.wNotN, DL.isNonD, DL.onBl, DL.wAndV, DL.wOrV, DL.wNotV, DL.wAnd, DL.wOr, DL.wNot, DL.wCB, DL.wLen, DL.wInt, DL.wAbs, DL.wMax2, DL.wMin2, DL.wTupOf, DL.wUn, DL.wU, DL.wI0, DL.wI, DL.wTup, DL.wLst, DL.wPar, DL.wPar3, DL.wDrop, DL.wSl, DL.wSlL, DL.wPart, DL.wNoPart, DL.endD, DL.wLc, DL.lcStep, DL.wipeD, DL.wYes, DL.gdTup, DL.gdCons, DL.gdNil, DL.idTup, DL.idLst, DL.idEnumL, DL.idEnumT, DL.idZip, DL.idRng1, DL.idRng2, DL.wAny, DL.wAll, DL.wChain, DL.wFor, DL.wWhile, DL.wAppend, DL.wLstM, DL.gdSub, DL.wIsi, DL.tyD, true_and, DL.sz_0, DL.sz_1, DL.sz_2, DL.sz_3, DL.sz_4, DL.sz_5, DL.sz_6, DL.sz_7, DL.sz_8, DL.sz_9, DL.sz_10, DL.sz_11, DL.sz_12, DL.sz_13, DL.sz_14, DL.sz_15, DL.sz_16, DL.sz_17, DL.sz_18, DL.sz_19, DL.sz_20, DL.sz_21, DL.sz_22, DL.sz_23, DL.sz_24, DL.sz_25, DL.sz_26, DL.ixN50, DL.ixN51, DL.ixN52, DL.ixN53, DL.ixN54, DL.Mu.set_same, DL.Mu.set_set, eq_self, decide_true, Bool.not_true, Bool.not_false, Bool.or_false, Bool.or_true, Bool.true_or, Bool.false_or, DL.kit_NoneType_bool, DL.kit_NoneType_int, DL.kit_NoneType_str, DL.kit_NoneType_tuple, DL.kit_NoneType_list, DL.kit_NoneType_dict, DL.kit_bool_bool, DL.kit_bool_int, DL.kit_bool_str, DL.kit_bool_tuple, DL.kit_bool_list, DL.kit_bool_dict, DL.kit_int_bool, DL.kit_int_int, DL.kit_int_str, DL.kit_int_tuple, DL.kit_int_list, DL.kit_int_dict, DL.kit_str_bool, DL.kit_str_int, DL.kit_str_str, DL.kit_str_tuple, DL.kit_str_list, DL.kit_str_dict, DL.kit_tuple_bool, DL.kit_tuple_int, DL.kit_tuple_str, DL.kit_tuple_tuple, DL.kit_tuple_list, DL.kit_tuple_dict, DL.kit_list_bool, DL.kit_list_int, DL.kit_list_str, DL.kit_list_tuple, DL.kit_list_list, DL.kit_list_dict, reduceIte, cntD_n, cntD_s, List.map_cons, List.map_nil, List.length_cons, List.length_nil, List.replicate, List.cons_append, List.nil_append, List.getElem?_cons_zero, List.getElem?_cons_succ, List.set_cons_zero, List.set_cons_succ, onSome, atI_0, atI_1, atI_2, atI_3, atI_4, w_nw, w_na, w_nh, w_ng, w_wn, w_wa, w_wh, w_wg, w_an, w_aw, w_ah, w_ag, w_hn, w_hw, w_ha, w_hg, w_gn, w_gw, w_ga, w_gh, w_self, Bool.false_eq_true, if_false, if_true, Nat.reduceAdd, Nat.reduceSub]
    cases h : inArea a p
    · simp only [begunOne, cntD, h, b2n, Bool.false_and, Bool.false_eq_true, if_false, if_true] at q ⊢
      exact rt_D q
    · simp only [if_true]
      refine ⟨n, b, p, rfl, hw.2.1, hp, hn, ?_⟩
      cases h2 : inArea b p <;> simp only [begunOne, cntD, h, h2, b2n, Bool.true_and, Bool.not_true, Bool.not_false, Bool.false_eq_true, if_false, if_true] at q ⊢ <;> exact rt_D q
  | ahead a b =>
    simp only [DL.wSeq, DL.wAsg, DL.wOp, DL.wVar, DL.wC, DL.wIx, DL.gdName, DL.startD, wishD, DL.pv_, DL.wIfS, DL.wTest, DL.wRet, DL.wIf, DL.wCall, DL.wCons, DL.wNil, DL.wNext, DL.wEq, DL.wNe, DL.wIsN, DL.wNotN, DL.isNonD, DL.onBl, DL.wAndV, DL.wOrV, DL.wNotV, DL.wAnd, DL.wOr, DL.wNot, DL.wCB, DL.wLen, DL.wInt, DL.wAbs, DL.wMax2, DL.wMin2, DL.wTupOf, DL.wUn, DL.wU, DL.wI0, DL.wI, DL.wTup, DL.wLst, DL.wPar, DL.wPar3, DL.wDrop, DL.wSl, DL.wSlL, DL.wPart, DL.wNoPart, DL.endD, DL.wLc, DL.lcStep, DL.wipeD, DL.wYes, DL.gdTup, DL.gdCons, DL.gdNil, DL.idTup, DL.idLst, DL.idEnumL, DL.idEnumT, DL.idZip, DL.idRng1, DL.idRng2, DL.wAny, DL.wAll, DL.wChain, DL.wFor, DL.wWhile, DL.wAppend, DL.wLstM, DL.gdSub, DL.wIsi, DL.tyD, true_and, DL.sz_0, DL.sz_1, DL.sz_2, DL.sz_3, DL.sz_4, DL.sz_5, DL.sz_6, DL.sz_7, DL.sz_8, DL.sz_9, DL.sz_10, DL.sz_11, DL.sz_12, DL.sz_13, DL.sz_14, DL.sz_15, DL.sz_16, DL.sz_17, DL.sz_18, DL.sz_19, DL.sz_20, DL.sz_21, DL.sz_22, DL.sz_23, DL.sz_24, DL.sz_25, DL.sz_26, DL.ixN50, DL.ixN51, DL.ixN52, DL.ixN53, DL.ixN54, DL.Mu.set_same, DL.Mu.set_set, eq_self, decide_true, Bool.not_true, Bool.not_false, Bool.or_false, Bool.or_true, Bool.true_or, Bool.false_or, DL.kit_NoneType_bool, DL.kit_NoneType_int, DL.kit_NoneType_str, DL.kit_NoneType_tuple, DL.kit_NoneType_list, DL.kit_NoneType_dict, DL.kit_bool_bool, DL.kit_bool_int, DL.kit_bool_str, DL.kit_bool_tuple, DL.kit_bool_list, DL.kit_bool_dict, DL.kit_int_bool, DL.kit_int_int, DL.kit_int_str, DL.kit_int_tuple, DL.kit_int_list, DL.kit_int_dict, DL.kit_str_bool, DL.kit_str_int, DL.kit_str_str, DL.kit_str_tuple, DL.kit_str_list, DL.kit_str_dict, DL.kit_tuple_bool, DL.kit_tuple_int, DL.kit_tuple_str, DL.kit_tuple_tuple, DL.kit_tuple_list, DL.kit_tuple_dict, DL.kit_list_bool, DL.kit_list_int, DL.kit_list_str, DL.kit_list_tuple, DL.kit_list_list, DL.kit_list_dict, reduceIte, cntD_n, cntD_s, List.map_cons, List.map_nil, List.length_cons, List.length_nil, List.replicate, List.cons_append, List.nil_append, List.getElem?_cons_zero, List.getElem?_cons_succ, List.set_cons_zero, List.set_cons_succ, onSome, atI_0, atI_1, atI_2, atI_3, atI_4, w_nw, w_na, w_nh, w_ng, w_wn, w_wa, w_wh, w_wg, w_an, w_aw, w_ah, w_ag, w_hn, w_hw, w_ha, w_hg, w_gn, w_gw, w_ga, w_gh, w_self, Bool.false_eq_true, if_false, if_true, Nat.reduceAdd, Nat.reduceSub]
    refine ⟨n, a, p, rfl, hw.1, hp, hn, ?_⟩
    simp only [DL.wSeq, DL.wAsg, DL.wOp, DL.wVar, DL.wC, DL.wIx, DL.gdName, DL.startD, wishD, DL.pv_, DL.wIfS, DL.wTest, DL.wRet, DL.wIf, DL.wCall, DL.wCons, DL.wNil, DL.wNext, DL.wEq, DL.wNe, DL.wIsN, DL.wNotN, DL.isNonD, DL.onBl, DL.wAndV, DL.wOrV, DL.wNotV, DL.wAnd, DL.wOr, DL.wNot, DL.wCB, DL.wLen, DL.wInt, DL.wAbs, DL.wMax2, DL.wMin2, DL.wTupOf, DL.wUn, DL.wU, DL.wI0, DL.wI, DL.wTup, DL.wLst, DL.wPar, DL.wPar3, DL.wDrop, DL.wSl, DL.wSlL, DL.wPart, DL.wNoPart, DL.endD, DL.wLc, DL.lcStep, DL.wipeD, DL.wYes, DL.gdTup, DL.gdCons, DL.gdNil, DL.idTup, DL.idLst, DL.idEnumL, DL.idEnumT, DL.idZip, DL.idRng1, DL.idRng2, DL.wAny, DL.wAll, DL.wChain, DL.wFor, DL.wWhile, DL.wAppend, DL.wLstM, DL.gdSub, DL.wIsi, DL.tyD, true_and, DL.sz_0, DL.sz_1, DL.sz_2, DL.sz_3, DL.sz_4, DL.sz_5, DL.sz_6, DL.sz_7, DL.sz_8, DL.sz_9, DL.sz_10, DL.sz_11, DL.sz_12, DL.sz_13, DL.sz_14, DL.sz_15, DL.sz_16, DL.sz_17, DL.sz_18, DL.sz_19, DL.sz_20, DL.sz_21, DL.sz_22, DL.sz_23, DL.sz_24, DL.sz_25, DL.sz_26, DL.ixN50, DL.ixN51, DL.ixN52, DL.ixN53, DL.ixN54, DL.Mu.set_same, DL.Mu.set_set, eq_self, decide_true, Bool.not_true, Bool.not_false, Bool.or_false, Bool.or_true, Bool.true_or, Bool.false_or, DL.kit_NoneType_bool, DL.kit_NoneType_int, DL.kit_NoneType_str, DL.kit_NoneType_tuple, DL.kit_NoneType_list, DL.kit_NoneType_dict, DL.kit_bool_bool, DL.kit_bool_int, DL.kit_bool_str, DL.kit_bool_tuple, DL.kit_bool_list, DL.kit_bool_dict, DL.kit_int_bool, DL.kit_int_int, DL.kit_int_str, DL.kit_int_tuple, DL.kit_int_list, DL.kit_int_dict, DL.kit_str_bool, DL.kit_str_int, DL.kit_str_str, DL.kit_str_tuple, DL.kit_str_list, DL.kit_str_dict, DL.kit_tuple_bool, DL.kit_tuple_int, DL.kit_tuple_str, DL.kit_tuple_tuple, DL.kit_tuple_list, DL.kit_tuple_dict, DL.kit_list_bool, DL.kit_list_int, DL.kit_list_str, DL.kit_list_tuple, DL.kit_list_list, DL.kit_list_dict, reduceIte, cntD_n, cntD_s, List.map_cons, List.map_nil, List.length_cons, List.length_nil, List.replicate, List.cons_append, List.nil_append, List.getElem?_cons_zero, List.getElem?_cons_succ, List.set_cons_zero, List.set_cons_succ, onSome, atI_0, atI_1, atI_2, atI_3, atI_4, w_nw, w_na, w_nh, w_ng, w_wn, w_wa, w_wh, w_wg, w_an, w_aw, w_ah, w_ag, w_hn, w_hw, w_ha, w_hg, w_gn, w_gw, w_ga, w_gh, w_self, Bool.false_eq_true, if_false, if_true, Nat.reduceAdd, Nat.reduceSub]
    cases h : inArea a p
    · simp only [Bool.not_false, if_true]
      refine ⟨n, b, p, rfl, hw.2, hp, hn, ?_⟩
      cases h2 : inArea b p <;> simp only [begunOne, cntD, h, h2, b2n, Bool.true_and, Bool.and_true, Bool.and_false, Bool.not_true, Bool.not_false, Bool.false_eq_true, if_false, if_true] at q ⊢ <;> exact rt_D q
    · simp only [begunOne, cntD, h, b2n, Bool.false_and, Bool.not_true, Bool.false_eq_true, if_false, if_true] at q ⊢
      exact rt_D q
  | again a k =>
    simp only [DL.wSeq, DL.wAsg, DL.wOp, DL.wVar, DL.wC, DL.wIx, DL.gdName, DL.startD, wishD, DL.pv_, DL.wIfS, DL.wTest, DL.wRet, DL.wIf, DL.wCall, DL.wCons, DL.wNil, DL.wNext, DL.wEq, DL.wNe, DL.wIsN, DL.wNotN, DL.isNonD, DL.onBl, DL.wAndV, DL.wOrV, DL.wNotV, DL.wAnd, DL.wOr, DL.wNot, DL.wCB, DL.wLen, DL.wInt, DL.wAbs, DL.wMax2, DL.wMin2, DL.wTupOf, DL.wUn, DL.wU, DL.wI0, DL.wI, DL.wTup, DL.wLst, DL.wPar, DL.wPar3, DL.wDrop, DL.wSl, DL.wSlL, DL.wPart, DL.wNoPart, DL.endD, DL.wLc, DL.lcStep, DL.wipeD, DL.wYes, DL.gdTup, DL.gdCons, DL.gdNil, DL.idTup, DL.idLst, DL.idEnumL, DL.idEnumT, DL.idZip, DL.idRng1, DL.idRng2, DL.wAny, DL.wAll, DL.wChain, DL.wFor, DL.wWhile, DL.wAppend, DL.wLstM, DL.gdSub, DL.wIsi, DL.tyD, true_and, DL.sz_0, DL.sz_1, DL.sz_2, DL.sz_3, DL.sz_4, DL.sz_5, DL.sz_6, DL.sz_7, DL.sz_8, DL.sz_9, DL.sz_10, DL.sz_11, DL.sz_12, DL.sz_13, DL.sz_14, DL.sz_15, DL.sz_16, DL.sz_17, DL.sz_18, DL.sz_19, DL.sz_20, DL.sz_21, DL.sz_22, DL.sz_23, DL.sz_24, DL.sz_25, DL.sz_26, DL.ixN50, DL.ixN51, DL.ixN52, DL.ixN53, DL.ixN54, DL.Mu.set_same, DL.Mu.set_set, eq_self, decide_true, Bool.not_true, Bool.not_false, Bool.or_false, Bool.or_true, Bool.true_or, Bool.false_or, DL.kit_NoneType_bool, DL.kit_NoneType_int, DL.kit_NoneType_str, DL.kit_NoneType_tuple, DL.kit_NoneType_list, DL.kit_NoneType_dict, DL.kit_bool_bool, DL.kit_bool_int, DL.kit_bool_str, DL.kit_bool_tuple, DL.kit_bool_list, DL.kit_bool_dict, DL.kit_int_bool, DL.kit_int_int, DL.kit_int_str, DL.kit_int_tuple, DL.kit_int_list, DL.kit_int_dict, DL.kit_str_bool, DL.kit_str_int, DL.kit_str_str, DL.kit_str_tuple, DL.kit_str_list, DL.kit_str_dict, DL.kit_tuple_bool, DL.kit_tuple_int, DL.kit_tuple_str, DL.kit_tuple_tuple, DL.kit_tuple_list, DL.kit_tuple_dict, DL.kit_list_bool, DL.kit_list_int, DL.kit_list_str, DL.kit_list_tuple, DL.kit_list_list, DL.kit_list_dict, reduceIte, cntD_n, cntD_s, List.map_cons, List.map_nil, List.length_cons, List.length_nil, List.replicate, List.cons_append, List.nil_append, List.getElem?_cons_zero, List.getElem?_cons_succ, List.set_cons_zero, List.set_cons_succ, onSome, atI_0, atI_1, atI_2, atI_3, atI_4, w_nw, w_na, w_nh, w_ng, w_wn, w_wa, w_wh, w_wg, w_an, w_aw, w_ah, w_ag, w_hn, w_hw, w_ha, w_hg, w_gn, w_gw, w_ga, w_gh, w_self, Bool.false_eq_true, if_false, if_true, Nat.reduceAdd, Nat.reduceSub]
    refine ⟨n, a, p, rfl, hw.1, hp, hn, ?_⟩
    simp only [DL.wSeq, DL.wAsg, DL.wOp, DL.wVar, DL.wC, DL.wIx, DL.gdName, DL.startD, wishD, DL.pv_, DL.wIfS, DL.wTest, DL.wRet, DL.wIf, DL.wCall, DL.wCons, DL.wNil, DL.wNext, DL.wEq, DL.wNe, DL.wIsN, DL.wNotN, DL.isNonD, DL.onBl, DL.wAndV, DL.wOrV, DL.wNotV, DL.wAnd, DL.wOr, DL.wNot, DL.wCB, DL.wLen, DL.wInt, DL.wAbs, DL.wMax2, DL.wMin2, DL.wTupOf, DL.wUn, DL.wU, DL.wI0, DL.wI, DL.wTup, DL.wLst, DL.wPar, DL.wPar3, DL.wDrop, DL.wSl, DL.wSlL, DL.wPart, DL.wNoPart, DL.endD, DL.wLc, DL.lcStep, DL.wipeD, DL.wYes, DL.gdTup, DL.gdCons, DL.gdNil, DL.idTup, DL.idLst, DL.idEnumL, DL.idEnumT, DL.idZip, DL.idRng1, DL.idRng2, DL.wAny, DL.wAll, DL.wChain, DL.wFor, DL.wWhile, DL.wAppend, DL.wLstM, DL.gdSub, DL.wIsi, DL.tyD, true_and, DL.sz_0, DL.sz_1, DL.sz_2, DL.sz_3, DL.sz_4, DL.sz_5, DL.sz_6, DL.sz_7, DL.sz_8, DL.sz_9, DL.sz_10, DL.sz_11, DL.sz_12, DL.sz_13, DL.sz_14, DL.sz_15, DL.sz_16, DL.sz_17, DL.sz_18, DL.sz_19, DL.sz_20, DL.sz_21, DL.sz_22, DL.sz_23, DL.sz_24, DL.sz_25, DL.sz_26, DL.ixN50, DL.ixN51, DL.ixN52, DL.ixN53, DL.ixN54, DL.Mu.set_same, DL.Mu.set_set, eq_self, decide_true, Bool.not_true, Bool.not_false, Bool.or_false, Bool.or_true, Bool.true_or, Bool.false_or, DL.kit_NoneType_bool, DL.kit_NoneType_int, DL.kit_NoneType_str, DL.kit_NoneType_tuple, DL.kit_NoneType_list, DL.kit_NoneType_dict, DL.kit_bool_bool, DL.kit_bool_int, DL.kit_bool_str, DL.kit_bool_tuple, DL.kit_bool_list, DL.kit_bool_dict, DL.kit_int_bool, DL.kit_int_int, DL.kit_int_str, DL.kit_int_tuple, DL.kit_int_list, DL.kit_int_dict, DL.kit_str_bool, DL.kit_str_int, DL.kit_str_str, DL.kit_str_tuple, DL.kit_str_list, DL.kit_str_dict, DL.kit_tuple_bool, DL.kit_tuple_int, DL.kit_tuple_str, DL.kit_tuple_tuple, DL.kit_tuple_list, DL.kit_tuple_dict, DL.kit_list_bool, DL.kit_list_int, DL.kit_list_str, DL.kit_list_tuple, DL.kit_list_list, DL.kit_list_dict, reduceIte, cntD_n, cntD_s, List.map_cons, List.map_nil, List.length_cons, List.length_nil, List.replicate, List.cons_append, List.nil_append, List.getElem?_cons_zero, List.getElem?_cons_succ, List.set_cons_zero, List.set_cons_succ, onSome, atI_0, atI_1, atI_2, atI_3, atI_4, w_nw, w_na, w_nh, w_ng, w_wn, w_wa, w_wh, w_wg, w_an, w_aw, w_ah, w_ag, w_hn, w_hw, w_ha, w_hg, w_gn, w_gw, w_ga, w_gh, w_self, Bool.false_eq_true, if_false, if_true, Nat.reduceAdd, Nat.reduceSub]
    cases h : inArea a p <;> simp only [begunOne, cntD, h, b2n, Bool.not_true, Bool.not_false, Bool.false_eq_true, if_false, if_true] at q ⊢ <;> exact rt_D q

theorem r_waited : ∀ ds μ Q, s_waited ds μ Q → w_waited (endD Q) (startD 4 ds) μ := by
  rintro ds μ Q ⟨n, a, b, k, c, p, t, rfl, hb, hp, hn, q⟩
  unfold w_waited
  simp only [DL.wSeq, DL.wAsg, DL.wOp, DL.wVar, DL.wC, DL.wIx, DL.gdName, DL.startD, wishD, DL.pv_, DL.wIfS, DL.wTest, DL.wRet, DL.wIf, DL.wCall, DL.wCons, DL.wNil, DL.wNext, DL.wEq, DL.wNe, DL.wIsN, DL.wNotN, DL.isNonD, DL.onBl, DL.wAndV, DL.wOrV, DL.wNotV, DL.wAnd, DL.wOr, DL.wNot, DL.wCB, DL.wLen, DL.wInt, DL.wAbs, DL.wMax2, DL.wMin2, DL.wTupOf, DL.wUn, DL.wU, DL.wI0, DL.wI, DL.wTup, DL.wLst, DL.wPar, DL.wPar3, DL.wDrop, DL.wSl, DL.wSlL, DL.wPart, DL.wNoPart, DL.endD, DL.wLc, DL.lcStep, DL.wipeD, DL.wYes, DL.gdTup, DL.gdCons, DL.gdNil, DL.idTup, DL.idLst, DL.idEnumL, DL.idEnumT, DL.idZip, DL.idRng1, DL.idRng2, DL.wAny, DL.wAll, DL.wChain, DL.wFor, DL.wWhile, DL.wAppend, DL.wLstM, DL.gdSub, DL.wIsi, DL.tyD, true_and, DL.sz_0, DL.sz_1, DL.sz_2, DL.sz_3, DL.sz_4, DL.sz_5, DL.sz_6, DL.sz_7, DL.sz_8, DL.sz_9, DL.sz_10, DL.sz_11, DL.sz_12, DL.sz_13, DL.sz_14, DL.sz_15, DL.sz_16, DL.sz_17, DL.sz_18, DL.sz_19, DL.sz_20, DL.sz_21, DL.sz_22, DL.sz_23, DL.sz_24, DL.sz_25, DL.sz_26, DL.ixN50, DL.ixN51, DL.ixN52, DL.ixN53, DL.ixN54, DL.Mu.set_same, DL.Mu.set_set, eq_self, decide_true, Bool.not_true, Bool.not_false, Bool.or_false, Bool.or_true, Bool.true_or, Bool.false_or, DL.kit_NoneType_bool, DL.kit_NoneType_int, DL.kit_NoneType_str, DL.kit_NoneType_tuple, DL.kit_NoneType_list, DL.kit_NoneType_dict, DL.kit_bool_bool, DL.kit_bool_int, DL.kit_bool_str, DL.kit_bool_tuple, DL.kit_bool_list, DL.kit_bool_dict, DL.kit_int_bool, DL.kit_int_int, DL.kit_int_str, DL.kit_int_tuple, DL.kit_int_list, DL.kit_int_dict, DL.kit_str_bool, DL.kit_str_int, DL.kit_str_str, DL.kit_str_tuple, DL.kit_str_list, DL.kit_str_dict, DL.kit_tuple_bool, DL.kit_tuple_int, DL.kit_tuple_str, DL.kit_tuple_tuple, DL.kit_tuple_list, DL.kit_tuple_dict, DL.kit_list_bool, DL.kit_list_int, DL.kit_list_str, DL.kit_list_tuple, DL.kit_list_list, DL.kit_list_dict, reduceIte, cntD_n, cntD_s, List.map_cons, List.map_nil, List.length_cons, List.length_nil, List.replicate, List.cons_append, List.nil_append, List.getElem?_cons_zero, List.getElem?_cons_succ, List.set_cons_zero, List.set_cons_succ, onSome, atI_0, atI_1, atI_2, atI_3, atI_4, w_nw, w_na, w_nh, w_ng, w_wn, w_wa, w_wh, w_wg, w_an, w_aw, w_ah, w_ag, w_hn, w_hw, w_ha, w_hg, w_gn, w_gw, w_ga, w_gh, w_self, Bool.false_eq_true, if_false, if_true, Nat.reduceAdd, Nat.reduceSub]
  refine ⟨n, b, p, rfl, hb, hp, hn, ?_⟩
  unfold waitedF at q
  cases h : inArea b p
  · simp only [h, Bool.false_eq_true, if_false] at q ⊢
    by_cases h0 : c = 0
    · rw [if_pos h0] at q
      rw [decide_eq_true h0, if_pos rfl]
      cases t <;> exact rt_D q
    · rw [if_neg h0] at q
      rw [decide_eq_false h0, if_neg Bool.false_ne_true]
      by_cases hk : c = k
      · rw [if_pos hk] at q
        rw [decide_eq_true hk, if_pos rfl]
        exact rt_D q
      · rw [if_neg hk] at q
        rw [decide_eq_false hk, if_neg Bool.false_ne_true]
        exact rt_D q
  · simp only [h, if_true] at q ⊢
    exact rt_D q
theorem r_counted_one : ∀ ds μ Q, s_counted_one ds μ Q → w_counted_one (endD Q) (startD 5 ds) μ := by
  rintro ds μ Q ⟨n, w, c, p, rfl, hw, hp, hn, q⟩
  unfold w_counted_one
  cases c with
  | none =>
    have e : countedOne w none p = none := by cases w <;> rfl
    rw [e] at q
    simp only [DL.wSeq, DL.wAsg, DL.wOp, DL.wVar, DL.wC, DL.wIx, DL.gdName, DL.startD, wishD, DL.pv_, DL.wIfS, DL.wTest, DL.wRet, DL.wIf, DL.wCall, DL.wCons, DL.wNil, DL.wNext, DL.wEq, DL.wNe, DL.wIsN, DL.wNotN, DL.isNonD, DL.onBl, DL.wAndV, DL.wOrV, DL.wNotV, DL.wAnd, DL.wOr, DL.wNot, DL.wCB, DL.wLen, DL.wInt, DL.wAbs, DL.wMax2, DL.wMin2, DL.wTupOf, DL.wUn, DL.wU, DL.wI0, DL.wI, DL.wTup, DL.wLst, DL.wPar, DL.wPar3, DL.wDrop, DL.wSl, DL.wSlL, DL.wPart, DL.wNoPart, DL.endD, DL.wLc, DL.lcStep, DL.wipeD, DL.wYes, DL.gdTup, DL.gdCons, DL.gdNil, DL.idTup, DL.idLst, DL.idEnumL, DL.idEnumT, DL.idZip, DL.idRng1, DL.idRng2, DL.wAny, DL.wAll, DL.wChain, DL.wFor, DL.wWhile, DL.wAppend, DL.wLstM, DL.gdSub, DL.wIsi, DL.tyD, true_and, DL.sz_0, DL.sz_1, DL.sz_2, DL.sz_3, DL.sz_4, DL.sz_5, DL.sz_6, DL.sz_7, DL.sz_8, DL.sz_9, DL.sz_10, DL.sz_11, DL.sz_12, DL.sz_13, DL.sz_14, DL.sz_15, DL.sz_16, DL.sz_17, DL.sz_18, DL.sz_19, DL.sz_20, DL.sz_21, DL.sz_22, DL.sz_23, DL.sz_24, DL.sz_25, DL.sz_26, DL.ixN50, DL.ixN51, DL.ixN52, DL.ixN53, DL.ixN54, DL.Mu.set_same, DL.Mu.set_set, eq_self, decide_true, Bool.not_true, Bool.not_false, Bool.or_false, Bool.or_true, Bool.true_or, Bool.false_or, DL.kit_NoneType_bool, DL.kit_NoneType_int, DL.kit_NoneType_str, DL.kit_NoneType_tuple, DL.kit_NoneType_list, DL.kit_NoneType_dict, DL.kit_bool_bool, DL.kit_bool_int, DL.kit_bool_str, DL.kit_bool_tuple, DL.kit_bool_list, DL.kit_bool_dict, DL.kit_int_bool, DL.kit_int_int, DL.kit_int_str, DL.kit_int_tuple, DL.kit_int_list, DL.kit_int_dict, DL.kit_str_bool, DL.kit_str_int, DL.kit_str_str, DL.kit_str_tuple, DL.kit_str_list, DL.kit_str_dict, DL.kit_tuple_bool, DL.kit_tuple_int, DL.kit_tuple_str, DL.kit_tuple_tuple, DL.kit_tuple_list, DL.kit_tuple_dict, DL.kit_list_bool, DL.kit_list_int, DL.kit_list_str, DL.kit_list_tuple, DL.kit_list_list, DL.kit_list_dict, reduceIte, cntD_n, cntD_s, List.map_cons, List.map_nil, List.length_cons, List.length_nil, List.replicate, List.cons_append, List.nil_append, List.getElem?_cons_zero, List.getElem?_cons_succ, List.set_cons_zero, List.set_cons_succ, onSome, atI_0, atI_1, atI_2, atI_3, atI_4, w_nw, w_na, w_nh, w_ng, w_wn, w_wa, w_wh, w_wg, w_an, w_aw, w_ah, w_ag, w_hn, w_hw, w_ha, w_hg, w_gn, w_gw, w_ga, w_gh, w_self, Bool.false_eq_true, if_false, if_true, Nat.reduceAdd, Nat.reduceSub]
    exact rt_D q
  | some c =>
  cases w with
  | never a =>
    simp only [DL.wSeq, DL.wAsg, DL.wOp, DL.wVar, DL.wC, DL.wIx, DL.gdName, DL.startD, wishD, DL.pv_, DL.wIfS, DL.wTest, DL.wRet, DL.wIf, DL.wCall, DL.wCons, DL.wNil, DL.wNext, DL.wEq, DL.wNe, DL.wIsN, DL.wNotN, DL.isNonD, DL.onBl, DL.wAndV, DL.wOrV, DL.wNotV, DL.wAnd, DL.wOr, DL.wNot, DL.wCB, DL.wLen, DL.wInt, DL.wAbs, DL.wMax2, DL.wMin2, DL.wTupOf, DL.wUn, DL.wU, DL.wI0, DL.wI, DL.wTup, DL.wLst, DL.wPar, DL.wPar3, DL.wDrop, DL.wSl, DL.wSlL, DL.wPart, DL.wNoPart, DL.endD, DL.wLc, DL.lcStep, DL.wipeD, DL.wYes, DL.gdTup, DL.gdCons, DL.gdNil, DL.idTup, DL.idLst, DL.idEnumL, DL.idEnumT, DL.idZip, DL.idRng1, DL.idRng2, DL.wAny, DL.wAll, DL.wChain, DL.wFor, DL.wWhile, DL.wAppend, DL.wLstM, DL.gdSub, DL.wIsi, DL.tyD, true_and, DL.sz_0, DL.sz_1, DL.sz_2, DL.sz_3, DL.sz_4, DL.sz_5, DL.sz_6, DL.sz_7, DL.sz_8, DL.sz_9, DL.sz_10, DL.sz_11, DL.sz_12, DL.sz_13, DL.sz_14, DL.sz_15, DL.sz_16, DL.sz_17, DL.sz_18, DL.sz_19, DL.sz_20, DL.sz_21, DL.sz_22, DL.sz_23, DL.sz_24, DL.sz_25, DL.sz_26, DL.ixN50, DL.ixN51, DL.ixN52, DL.ixN53, DL.ixN54, DL.Mu.set_same, DL.Mu.set_set, eq_self, decide_true, Bool.not_true, Bool.not_false, Bool.or_false, Bool.or_true, Bool.true_or, Bool.false_or, DL.kit_NoneType_bool, DL.kit_NoneType_int, DL.kit_NoneType_str, DL.kit_NoneType_tuple, DL.kit_NoneType_list, DL.kit_NoneType_dict, DL.kit_bool_bool, DL.kit_bool_int, DL.kit_bool_str, DL.kit_bool_tuple, DL.kit_bool_list, DL.kit_bool_dict, DL.kit_int_bool, DL.kit_int_int, DL.kit_int_str, DL.kit_int_tuple, DL.kit_int_list, DL.kit_int_dict, DL.kit_str_bool, DL.kit_str_int, DL.kit_str_str, DL.kit_str_tuple, DL.kit_str_list, DL.kit_str_dict, DL.kit_tuple_bool, DL.kit_tuple_int, DL.kit_tuple_str, DL.kit_tuple_tuple, DL.kit_tuple_list, DL.kit_tuple_dict, DL.kit_list_bool, DL.kit_list_int, DL.kit_list_str, DL.kit_list_tuple, DL.kit_list_list, DL.kit_list_dict, reduceIte, cntD_n, cntD_s, List.map_cons, List.map_nil, List.length_cons, List.length_nil, List.replicate, List.cons_append, List.nil_append, List.getElem?_cons_zero, List.getElem?_cons_succ, List.set_cons_zero, List.set_cons_succ, onSome, atI_0, atI_1, atI_2, atI_3, atI_4, w_nw, w_na, w_nh, w_ng, w_wn, w_wa, w_wh, w_wg, w_an, w_aw, w_ah, w_ag, w_hn, w_hw, w_ha, w_hg, w_gn, w_gw, w_ga, w_gh, w_self, Bool.false_eq_true, if_false, if_true, Nat.reduceAdd, Nat.reduceSub]
    refine ⟨n, a, p, rfl, hw, hp, hn, ?_⟩
    cases h : inArea a p <;> simp only [countedOne, cntD, h, Bool.false_eq_true, if_false, if_true] at q ⊢ <;> exact rt_D q
  | within a k =>
    simp only [DL.wSeq, DL.wAsg, DL.wOp, DL.wVar, DL.wC, DL.wIx, DL.gdName, DL.startD, wishD, DL.pv_, DL.wIfS, DL.wTest, DL.wRet, DL.wIf, DL.wCall, DL.wCons, DL.wNil, DL.wNext, DL.wEq, DL.wNe, DL.wIsN, DL.wNotN, DL.isNonD, DL.onBl, DL.wAndV, DL.wOrV, DL.wNotV, DL.wAnd, DL.wOr, DL.wNot, DL.wCB, DL.wLen, DL.wInt, DL.wAbs, DL.wMax2, DL.wMin2, DL.wTupOf, DL.wUn, DL.wU, DL.wI0, DL.wI, DL.wTup, DL.wLst, DL.wPar, DL.wPar3, DL.wDrop, DL.wSl, DL.wSlL, DL.wPart, DL.wNoPart, DL.endD, DL.wLc, DL.lcStep, DL.wipeD, DL.wYes, DL.gdTup, DL.gdCons, DL.gdNil, DL.idTup, DL.idLst, DL.idEnumL, DL.idEnumT, DL.idZip, DL.idRng1, DL.idRng2, DL.wAny, DL.wAll, DL.wChain, DL.wFor, DL.wWhile, DL.wAppend, DL.wLstM, DL.gdSub, DL.wIsi, DL.tyD, true_and, DL.sz_0, DL.sz_1, DL.sz_2, DL.sz_3, DL.sz_4, DL.sz_5, DL.sz_6, DL.sz_7, DL.sz_8, DL.sz_9, DL.sz_10, DL.sz_11, DL.sz_12, DL.sz_13, DL.sz_14, DL.sz_15, DL.sz_16, DL.sz_17, DL.sz_18, DL.sz_19, DL.sz_20, DL.sz_21, DL.sz_22, DL.sz_23, DL.sz_24, DL.sz_25, DL.sz_26, DL.ixN50, DL.ixN51, DL.ixN52, DL.ixN53, DL.ixN54, DL.Mu.set_same, DL.Mu.set_set, eq_self, decide_true, Bool.not_true, Bool.not_false, Bool.or_false, Bool.or_true, Bool.true_or, Bool.false_or, DL.kit_NoneType_bool, DL.kit_NoneType_int, DL.kit_NoneType_str, DL.kit_NoneType_tuple, DL.kit_NoneType_list, DL.kit_NoneType_dict, DL.kit_bool_bool, DL.kit_bool_int, DL.kit_bool_str, DL.kit_bool_tuple, DL.kit_bool_list, DL.kit_bool_dict, DL.kit_int_bool, DL.kit_int_int, DL.kit_int_str, DL.kit_int_tuple, DL.kit_int_list, DL.kit_int_dict, DL.kit_str_bool, DL.kit_str_int, DL.kit_str_str, DL.kit_str_tuple, DL.kit_str_list, DL.kit_str_dict, DL.kit_tuple_bool, DL.kit_tuple_int, DL.kit_tuple_str, DL.kit_tuple_tuple, DL.kit_tuple_list, DL.kit_tuple_dict, DL.kit_list_bool, DL.kit_list_int, DL.kit_list_str, DL.kit_list_tuple, DL.kit_list_list, DL.kit_list_dict, reduceIte, cntD_n, cntD_s, List.map_cons, List.map_nil, List.length_cons, List.length_nil, List.replicate, List.cons_append, List.nil_append, List.getElem?_cons_zero, List.getElem?_cons_succ, List.set_cons_zero, List.set_cons_succ, onSome, atI_0, atI_1, atI_2, atI_3, atI_4, w_nw, w_na, w_nh, w_ng, w_wn, w_wa, w_wh, w_wg, w_an, w_aw, w_ah, w_ag, w_hn, w_hw, w_ha, w_hg, w_gn, w_gw, w_ga, w_gh, w_self, Bool.false_eq_true, if_false, if_true, Nat.reduceAdd, Nat.reduceSub]
    refine ⟨n, a, p, rfl, hw.1, hp, hn, ?_⟩
    simp only [countedOne] at q
    by_cases h1 : c = -1
    · rw [decide_eq_true h1] at q ⊢
      simp only [Bool.true_or, if_true] at q ⊢
      exact rt_D q
    · rw [decide_eq_false h1] at q ⊢
      cases h : inArea a p
      · simp only [h, Bool.or_false, Bool.false_eq_true, if_false, if_true] at q ⊢
        by_cases hk : c + 1 = k
        · rw [if_pos hk] at q
          rw [decide_eq_true hk, if_pos rfl]
          exact rt_D q
        · rw [if_neg hk] at q
          rw [decide_eq_false hk, if_neg Bool.false_ne_true]
          exact rt_D q
      · simp only [h, Bool.or_true, Bool.false_eq_true, if_false, if_true] at q ⊢
        exact rt_D q
  | answered a b k =>
    simp only [DL.wSeq, DL.wAsg, DL.wOp, DL.wVar, DL.wC, DL.wIx, DL.gdName, DL.startD, wishD, DL.pv_, DL.wIfS, DL.wTest, DL.wRet, DL.wIf, DL.wCall, DL.wCons, DL.wNil, DL.wNext, DL.wEq, DL.wNe, DL.wIsN, DL.wNotN, DL.isNonD, DL.onBl, DL.wAndV, DL.wOrV, DL.wNotV, DL.wAnd, DL.wOr, DL.wNot, DL.wCB, DL.wLen, DL.wInt, DL.wAbs, DL.wMax2, DL.wMin2, DL.wTupOf, DL.wUn, DL.wU, DL.wI0, DL.wI, DL.wTup, DL.wLst, DL.wPar, DL.wPar3, DL.wDrop, DL.wSl, DL.wSlL, DL.wPart, DL.wNoPart, DL.endD, DL.wLc, DL.lcStep, DL.wipeD, DL.wYes, DL.gdTup, DL.gdCons, DL.gdNil, DL.idTup, DL.idLst, DL.idEnumL, DL.idEnumT, DL.idZip, DL.idRng1, DL.idRng2, DL.wAny, DL.wAll, DL.wChain, DL.wFor, DL.wWhile, DL.wAppend, DL.wLstM, DL.gdSub, DL.wIsi, DL.tyD, true_and, DL.sz_0, DL.sz_1, DL.sz_2, DL.sz_3, DL.sz_4, DL.sz_5, DL.sz_6, DL.sz_7, DL.sz_8, DL.sz_9, DL.sz_10, DL.sz_11, DL.sz_12, DL.sz_13, DL.sz_14, DL.sz_15, DL.sz_16, DL.sz_17, DL.sz_18, DL.sz_19, DL.sz_20, DL.sz_21, DL.sz_22, DL.sz_23, DL.sz_24, DL.sz_25, DL.sz_26, DL.ixN50, DL.ixN51, DL.ixN52, DL.ixN53, DL.ixN54, DL.Mu.set_same, DL.Mu.set_set, eq_self, decide_true, Bool.not_true, Bool.not_false, Bool.or_false, Bool.or_true, Bool.true_or, Bool.false_or, DL.kit_NoneType_bool, DL.kit_NoneType_int, DL.kit_NoneType_str, DL.kit_NoneType_tuple, DL.kit_NoneType_list, DL.kit_NoneType_dict, DL.kit_bool_bool, DL.kit_bool_int, DL.kit_bool_str, DL.kit_bool_tuple, DL.kit_bool_list, DL.kit_bool_dict, DL.kit_int_bool, DL.kit_int_int, DL.kit_int_str, DL.kit_int_tuple, DL.kit_int_list, DL.kit_int_dict, DL.kit_str_bool, DL.kit_str_int, DL.kit_str_str, DL.kit_str_tuple, DL.kit_str_list, DL.kit_str_dict, DL.kit_tuple_bool, DL.kit_tuple_int, DL.kit_tuple_str, DL.kit_tuple_tuple, DL.kit_tuple_list, DL.kit_tuple_dict, DL.kit_list_bool, DL.kit_list_int, DL.kit_list_str, DL.kit_list_tuple, DL.kit_list_list, DL.kit_list_dict, reduceIte, cntD_n, cntD_s, List.map_cons, List.map_nil, List.length_cons, List.length_nil, List.replicate, List.cons_append, List.nil_append, List.getElem?_cons_zero, List.getElem?_cons_succ, List.set_cons_zero, List.set_cons_succ, onSome, atI_0, atI_1, atI_2, atI_3, atI_4, w_nw, w_na, w_nh, w_ng, w_wn, w_wa, w_wh, w_wg, w_an, w_aw, w_ah, w_ag, w_hn, w_hw, w_ha, w_hg, w_gn, w_gw, w_ga, w_gh, w_self, Bool.false_eq_true, if_false, if_true, Nat.reduceAdd, Nat.reduceSub]
    refine ⟨n, a, p, rfl, hw.1, hp, hn, ?_⟩
    exact ⟨n, a, b, k, c, p, inArea a p, rfl, hw.2.1, hp, hn, rt_D q⟩
  | ahead a b =>
    simp only [DL.wSeq, DL.wAsg, DL.wOp, DL.wVar, DL.wC, DL.wIx, DL.gdName, DL.startD, wishD, DL.pv_, DL.wIfS, DL.wTest, DL.wRet, DL.wIf, DL.wCall, DL.wCons, DL.wNil, DL.wNext, DL.wEq, DL.wNe, DL.wIsN, DL.wNotN, DL.isNonD, DL.onBl, DL.wAndV, DL.wOrV, DL.wNotV, DL.wAnd, DL.wOr, DL.wNot, DL.wCB, DL.wLen, DL.wInt, DL.wAbs, DL.wMax2, DL.wMin2, DL.wTupOf, DL.wUn, DL.wU, DL.wI0, DL.wI, DL.wTup, DL.wLst, DL.wPar, DL.wPar3, DL.wDrop, DL.wSl, DL.wSlL, DL.wPart, DL.wNoPart, DL.endD, DL.wLc, DL.lcStep, DL.wipeD, DL.wYes, DL.gdTup, DL.gdCons, DL.gdNil, DL.idTup, DL.idLst, DL.idEnumL, DL.idEnumT, DL.idZip, DL.idRng1, DL.idRng2, DL.wAny, DL.wAll, DL.wChain, DL.wFor, DL.wWhile, DL.wAppend, DL.wLstM, DL.gdSub, DL.wIsi, DL.tyD, true_and, DL.sz_0, DL.sz_1, DL.sz_2, DL.sz_3, DL.sz_4, DL.sz_5, DL.sz_6, DL.sz_7, DL.sz_8, DL.sz_9, DL.sz_10, DL.sz_11, DL.sz_12, DL.sz_13, DL.sz_14, DL.sz_15, DL.sz_16, DL.sz_17, DL.sz_18, DL.sz_19, DL.sz_20, DL.sz_21, DL.sz_22, DL.sz_23, DL.sz_24, DL.sz_25, DL.sz_26, DL.ixN50, DL.ixN51, DL.ixN52, DL.ixN53, DL.ixN54, DL.Mu.set_same, DL.Mu.set_set, eq_self, decide_true, Bool.not_true, Bool.not_false, Bool.or_false, Bool.or_true, Bool.true_or, Bool.false_or, DL.kit_NoneType_bool, DL.kit_NoneType_int, DL.kit_NoneType_str, DL.kit_NoneType_tuple, DL.kit_NoneType_list, DL.kit_NoneType_dict, DL.kit_bool_bool, DL.kit_bool_int, DL.kit_bool_str, DL.kit_bool_tuple, DL.kit_bool_list, DL.kit_bool_dict, DL.kit_int_bool, DL.kit_int_int, DL.kit_int_str, DL.kit_int_tuple, DL.kit_int_list, DL.kit_int_dict, DL.kit_str_bool, DL.kit_str_int, DL.kit_str_str, DL.kit_str_tuple, DL.kit_str_list, DL.kit_str_dict, DL.kit_tuple_bool, DL.kit_tuple_int, DL.kit_tuple_str, DL.kit_tuple_tuple, DL.kit_tuple_list, DL.kit_tuple_dict, DL.kit_list_bool, DL.kit_list_int, DL.kit_list_str, DL.kit_list_tuple, DL.kit_list_list, DL.kit_list_dict, reduceIte, cntD_n, cntD_s, List.map_cons, List.map_nil, List.length_cons, List.length_nil, List.replicate, List.cons_append, List.nil_append, List.getElem?_cons_zero, List.getElem?_cons_succ, List.set_cons_zero, List.set_cons_succ, onSome, atI_0, atI_1, atI_2, atI_3, atI_4, w_nw, w_na, w_nh, w_ng, w_wn, w_wa, w_wh, w_wg, w_an, w_aw, w_ah, w_ag, w_hn, w_hw, w_ha, w_hg, w_gn, w_gw, w_ga, w_gh, w_self, Bool.false_eq_true, if_false, if_true, Nat.reduceAdd, Nat.reduceSub]
    refine ⟨n, a, p, rfl, hw.1, hp, hn, ?_⟩
    simp only [countedOne] at q
    by_cases h1 : c = 1
    · rw [decide_eq_true h1] at q ⊢
      simp only [Bool.true_or, if_true] at q ⊢
      exact rt_D q
    · rw [decide_eq_false h1] at q ⊢
      cases h : inArea a p
      · simp only [h, Bool.or_false, Bool.false_eq_true, if_false, if_true] at q ⊢
        refine ⟨n, b, p, rfl, hw.2, hp, hn, ?_⟩
        cases h2 : inArea b p <;> simp only [h2, cntD, Bool.false_eq_true, if_false, if_true] at q ⊢ <;> exact rt_D q
      · simp only [h, Bool.or_true, Bool.false_eq_true, if_false, if_true] at q ⊢
        exact rt_D q
  | again a k =>
    simp only [DL.wSeq, DL.wAsg, DL.wOp, DL.wVar, DL.wC, DL.wIx, DL.gdName, DL.startD, wishD, DL.pv_, DL.wIfS, DL.wTest, DL.wRet, DL.wIf, DL.wCall, DL.wCons, DL.wNil, DL.wNext, DL.wEq, DL.wNe, DL.wIsN, DL.wNotN, DL.isNonD, DL.onBl, DL.wAndV, DL.wOrV, DL.wNotV, DL.wAnd, DL.wOr, DL.wNot, DL.wCB, DL.wLen, DL.wInt, DL.wAbs, DL.wMax2, DL.wMin2, DL.wTupOf, DL.wUn, DL.wU, DL.wI0, DL.wI, DL.wTup, DL.wLst, DL.wPar, DL.wPar3, DL.wDrop, DL.wSl, DL.wSlL, DL.wPart, DL.wNoPart, DL.endD, DL.wLc, DL.lcStep, DL.wipeD, DL.wYes, DL.gdTup, DL.gdCons, DL.gdNil, DL.idTup, DL.idLst, DL.idEnumL, DL.idEnumT, DL.idZip, DL.idRng1, DL.idRng2, DL.wAny, DL.wAll, DL.wChain, DL.wFor, DL.wWhile, DL.wAppend, DL.wLstM, DL.gdSub, DL.wIsi, DL.tyD, true_and, DL.sz_0, DL.sz_1, DL.sz_2, DL.sz_3, DL.sz_4, DL.sz_5, DL.sz_6, DL.sz_7, DL.sz_8, DL.sz_9, DL.sz_10, DL.sz_11, DL.sz_12, DL.sz_13, DL.sz_14, DL.sz_15, DL.sz_16, DL.sz_17, DL.sz_18, DL.sz_19, DL.sz_20, DL.sz_21, DL.sz_22, DL.sz_23, DL.sz_24, DL.sz_25, DL.sz_26, DL.ixN50, DL.ixN51, DL.ixN52, DL.ixN53, DL.ixN54, DL.Mu.set_same, DL.Mu.set_set, eq_self, decide_true, Bool.not_true, Bool.not_false, Bool.or_false, Bool.or_true, Bool.true_or, Bool.false_or, DL.kit_NoneType_bool, DL.kit_NoneType_int, DL.kit_NoneType_str, DL.kit_NoneType_tuple, DL.kit_NoneType_list, DL.kit_NoneType_dict, DL.kit_bool_bool, DL.kit_bool_int, DL.kit_bool_str, DL.kit_bool_tuple, DL.kit_bool_list, DL.kit_bool_dict, DL.kit_int_bool, DL.kit_int_int, DL.kit_int_str, DL.kit_int_tuple, DL.kit_int_list, DL.kit_int_dict, DL.kit_str_bool, DL.kit_str_int, DL.kit_str_str, DL.kit_str_tuple, DL.kit_str_list, DL.kit_str_dict, DL.kit_tuple_bool, DL.kit_tuple_int, DL.kit_tuple_str, DL.kit_tuple_tuple, DL.kit_tuple_list, DL.kit_tuple_dict, DL.kit_list_bool, DL.kit_list_int, DL.kit_list_str, DL.kit_list_tuple, DL.kit_list_list, DL.kit_list_dict, reduceIte, cntD_n, cntD_s, List.map_cons, List.map_nil, List.length_cons, List.length_nil, List.replicate, List.cons_append, List.nil_append, List.getElem?_cons_zero, List.getElem?_cons_succ, List.set_cons_zero, List.set_cons_succ, onSome, atI_0, atI_1, atI_2, atI_3, atI_4, w_nw, w_na, w_nh, w_ng, w_wn, w_wa, w_wh, w_wg, w_an, w_aw, w_ah, w_ag, w_hn, w_hw, w_ha, w_hg, w_gn, w_gw, w_ga, w_gh, w_self, Bool.false_eq_true, if_false, if_true, Nat.reduceAdd, Nat.reduceSub]
    refine ⟨n, a, p, rfl, hw.1, hp, hn, ?_⟩
    simp only [countedOne] at q
    cases h : inArea a p
    · simp only [h, Bool.false_eq_true, if_false] at q ⊢
      by_cases hk : c = k
      · rw [if_pos hk] at q
        rw [decide_eq_true hk, if_pos rfl]
        exact rt_D q
      · rw [if_neg hk] at q
        rw [decide_eq_false hk, if_neg Bool.false_ne_true]
        exact rt_D q
    · simp only [h, if_true] at q ⊢
      exact rt_D q
theorem r_begun : ∀ ds μ Q, s_begun ds μ Q → w_begun (endD Q) (startD 3 ds) μ := by
  rintro ds μ Q ⟨n, ws, p, rfl, hl, hw, hp, hn, q⟩
  unfold w_begun
  simp only [wishesD]
  simp only [DL.wSeq, DL.wAsg, DL.wOp, DL.wVar, DL.wC, DL.wIx, DL.gdName, DL.startD, wishD, DL.pv_, DL.wIfS, DL.wTest, DL.wRet, DL.wIf, DL.wCall, DL.wCons, DL.wNil, DL.wNext, DL.wEq, DL.wNe, DL.wIsN, DL.wNotN, DL.isNonD, DL.onBl, DL.wAndV, DL.wOrV, DL.wNotV, DL.wAnd, DL.wOr, DL.wNot, DL.wCB, DL.wLen, DL.wInt, DL.wAbs, DL.wMax2, DL.wMin2, DL.wTupOf, DL.wUn, DL.wU, DL.wI0, DL.wI, DL.wTup, DL.wLst, DL.wPar, DL.wPar3, DL.wDrop, DL.wSl, DL.wSlL, DL.wPart, DL.wNoPart, DL.endD, DL.wLc, DL.lcStep, DL.wipeD, DL.wYes, DL.gdTup, DL.gdCons, DL.gdNil, DL.idTup, DL.idLst, DL.idEnumL, DL.idEnumT, DL.idZip, DL.idRng1, DL.idRng2, DL.wAny, DL.wAll, DL.wChain, DL.wFor, DL.wWhile, DL.wAppend, DL.wLstM, DL.gdSub, DL.wIsi, DL.tyD, true_and, DL.sz_0, DL.sz_1, DL.sz_2, DL.sz_3, DL.sz_4, DL.sz_5, DL.sz_6, DL.sz_7, DL.sz_8, DL.sz_9, DL.sz_10, DL.sz_11, DL.sz_12, DL.sz_13, DL.sz_14, DL.sz_15, DL.sz_16, DL.sz_17, DL.sz_18, DL.sz_19, DL.sz_20, DL.sz_21, DL.sz_22, DL.sz_23, DL.sz_24, DL.sz_25, DL.sz_26, DL.ixN50, DL.ixN51, DL.ixN52, DL.ixN53, DL.ixN54, DL.Mu.set_same, DL.Mu.set_set, eq_self, decide_true, Bool.not_true, Bool.not_false, Bool.or_false, Bool.or_true, Bool.true_or, Bool.false_or, DL.kit_NoneType_bool, DL.kit_NoneType_int, DL.kit_NoneType_str, DL.kit_NoneType_tuple, DL.kit_NoneType_list, DL.kit_NoneType_dict, DL.kit_bool_bool, DL.kit_bool_int, DL.kit_bool_str, DL.kit_bool_tuple, DL.kit_bool_list, DL.kit_bool_dict, DL.kit_int_bool, DL.kit_int_int, DL.kit_int_str, DL.kit_int_tuple, DL.kit_int_list, DL.kit_int_dict, DL.kit_str_bool, DL.kit_str_int, DL.kit_str_str, DL.kit_str_tuple, DL.kit_str_list, DL.kit_str_dict, DL.kit_tuple_bool, DL.kit_tuple_int, DL.kit_tuple_str, DL.kit_tuple_tuple, DL.kit_tuple_list, DL.kit_tuple_dict, DL.kit_list_bool, DL.kit_list_int, DL.kit_list_str, DL.kit_list_tuple, DL.kit_list_list, DL.kit_list_dict, reduceIte, cntD_n, cntD_s, List.map_cons, List.map_nil, List.length_cons, List.length_nil, List.replicate, List.cons_append, List.nil_append, List.getElem?_cons_zero, List.getElem?_cons_succ, List.set_cons_zero, List.set_cons_succ, onSome, atI_0, atI_1, atI_2, atI_3, atI_4, w_nw, w_na, w_nh, w_ng, w_wn, w_wa, w_wh, w_wg, w_an, w_aw, w_ah, w_ag, w_hn, w_hw, w_ha, w_hg, w_gn, w_gw, w_ga, w_gh, w_self, Bool.false_eq_true, if_false, if_true, Nat.reduceAdd, Nat.reduceSub]
  refine ⟨sz_map hl, fun D hD => lcW_map wishD (fun w => cntD (begunOne w p)) ws μ _ hD (fun w hm ν k hk => ?_) ?_⟩
  · simp only [DL.wSeq, DL.wAsg, DL.wOp, DL.wVar, DL.wC, DL.wIx, DL.gdName, DL.startD, wishD, DL.pv_, DL.wIfS, DL.wTest, DL.wRet, DL.wIf, DL.wCall, DL.wCons, DL.wNil, DL.wNext, DL.wEq, DL.wNe, DL.wIsN, DL.wNotN, DL.isNonD, DL.onBl, DL.wAndV, DL.wOrV, DL.wNotV, DL.wAnd, DL.wOr, DL.wNot, DL.wCB, DL.wLen, DL.wInt, DL.wAbs, DL.wMax2, DL.wMin2, DL.wTupOf, DL.wUn, DL.wU, DL.wI0, DL.wI, DL.wTup, DL.wLst, DL.wPar, DL.wPar3, DL.wDrop, DL.wSl, DL.wSlL, DL.wPart, DL.wNoPart, DL.endD, DL.wLc, DL.lcStep, DL.wipeD, DL.wYes, DL.gdTup, DL.gdCons, DL.gdNil, DL.idTup, DL.idLst, DL.idEnumL, DL.idEnumT, DL.idZip, DL.idRng1, DL.idRng2, DL.wAny, DL.wAll, DL.wChain, DL.wFor, DL.wWhile, DL.wAppend, DL.wLstM, DL.gdSub, DL.wIsi, DL.tyD, true_and, DL.sz_0, DL.sz_1, DL.sz_2, DL.sz_3, DL.sz_4, DL.sz_5, DL.sz_6, DL.sz_7, DL.sz_8, DL.sz_9, DL.sz_10, DL.sz_11, DL.sz_12, DL.sz_13, DL.sz_14, DL.sz_15, DL.sz_16, DL.sz_17, DL.sz_18, DL.sz_19, DL.sz_20, DL.sz_21, DL.sz_22, DL.sz_23, DL.sz_24, DL.sz_25, DL.sz_26, DL.ixN50, DL.ixN51, DL.ixN52, DL.ixN53, DL.ixN54, DL.Mu.set_same, DL.Mu.set_set, eq_self, decide_true, Bool.not_true, Bool.not_false, Bool.or_false, Bool.or_true, Bool.true_or, Bool.false_or, DL.kit_NoneType_bool, DL.kit_NoneType_int, DL.kit_NoneType_str, DL.kit_NoneType_tuple, DL.kit_NoneType_list, DL.kit_NoneType_dict, DL.kit_bool_bool, DL.kit_bool_int, DL.kit_bool_str, DL.kit_bool_tuple, DL.kit_bool_list, DL.kit_bool_dict, DL.kit_int_bool, DL.kit_int_int, DL.kit_int_str, DL.kit_int_tuple, DL.kit_int_list, DL.kit_int_dict, DL.kit_str_bool, DL.kit_str_int, DL.kit_str_str, DL.kit_str_tuple, DL.kit_str_list, DL.kit_str_dict, DL.kit_tuple_bool, DL.kit_tuple_int, DL.kit_tuple_str, DL.kit_tuple_tuple, DL.kit_tuple_list, DL.kit_tuple_dict, DL.kit_list_bool, DL.kit_list_int, DL.kit_list_str, DL.kit_list_tuple, DL.kit_list_list, DL.kit_list_dict, reduceIte, cntD_n, cntD_s, List.map_cons, List.map_nil, List.length_cons, List.length_nil, List.replicate, List.cons_append, List.nil_append, List.getElem?_cons_zero, List.getElem?_cons_succ, List.set_cons_zero, List.set_cons_succ, onSome, atI_0, atI_1, atI_2, atI_3, atI_4, w_nw, w_na, w_nh, w_ng, w_wn, w_wa, w_wh, w_wg, w_an, w_aw, w_ah, w_ag, w_hn, w_hw, w_ha, w_hg, w_gn, w_gw, w_ga, w_gh, w_self, Bool.false_eq_true, if_false, if_true, Nat.reduceAdd, Nat.reduceSub]
    exact ⟨n, w, p, rfl, hw w hm, hp, hn, hk⟩
  · simp only [DL.wSeq, DL.wAsg, DL.wOp, DL.wVar, DL.wC, DL.wIx, DL.gdName, DL.startD, wishD, DL.pv_, DL.wIfS, DL.wTest, DL.wRet, DL.wIf, DL.wCall, DL.wCons, DL.wNil, DL.wNext, DL.wEq, DL.wNe, DL.wIsN, DL.wNotN, DL.isNonD, DL.onBl, DL.wAndV, DL.wOrV, DL.wNotV, DL.wAnd, DL.wOr, DL.wNot, DL.wCB, DL.wLen, DL.wInt, DL.wAbs, DL.wMax2, DL.wMin2, DL.wTupOf, DL.wUn, DL.wU, DL.wI0, DL.wI, DL.wTup, DL.wLst, DL.wPar, DL.wPar3, DL.wDrop, DL.wSl, DL.wSlL, DL.wPart, DL.wNoPart, DL.endD, DL.wLc, DL.lcStep, DL.wipeD, DL.wYes, DL.gdTup, DL.gdCons, DL.gdNil, DL.idTup, DL.idLst, DL.idEnumL, DL.idEnumT, DL.idZip, DL.idRng1, DL.idRng2, DL.wAny, DL.wAll, DL.wChain, DL.wFor, DL.wWhile, DL.wAppend, DL.wLstM, DL.gdSub, DL.wIsi, DL.tyD, true_and, DL.sz_0, DL.sz_1, DL.sz_2, DL.sz_3, DL.sz_4, DL.sz_5, DL.sz_6, DL.sz_7, DL.sz_8, DL.sz_9, DL.sz_10, DL.sz_11, DL.sz_12, DL.sz_13, DL.sz_14, DL.sz_15, DL.sz_16, DL.sz_17, DL.sz_18, DL.sz_19, DL.sz_20, DL.sz_21, DL.sz_22, DL.sz_23, DL.sz_24, DL.sz_25, DL.sz_26, DL.ixN50, DL.ixN51, DL.ixN52, DL.ixN53, DL.ixN54, DL.Mu.set_same, DL.Mu.set_set, eq_self, decide_true, Bool.not_true, Bool.not_false, Bool.or_false, Bool.or_true, Bool.true_or, Bool.false_or, DL.kit_NoneType_bool, DL.kit_NoneType_int, DL.kit_NoneType_str, DL.kit_NoneType_tuple, DL.kit_NoneType_list, DL.kit_NoneType_dict, DL.kit_bool_bool, DL.kit_bool_int, DL.kit_bool_str, DL.kit_bool_tuple, DL.kit_bool_list, DL.kit_bool_dict, DL.kit_int_bool, DL.kit_int_int, DL.kit_int_str, DL.kit_int_tuple, DL.kit_int_list, DL.kit_int_dict, DL.kit_str_bool, DL.kit_str_int, DL.kit_str_str, DL.kit_str_tuple, DL.kit_str_list, DL.kit_str_dict, DL.kit_tuple_bool, DL.kit_tuple_int, DL.kit_tuple_str, DL.kit_tuple_tuple, DL.kit_tuple_list, DL.kit_tuple_dict, DL.kit_list_bool, DL.kit_list_int, DL.kit_list_str, DL.kit_list_tuple, DL.kit_list_list, DL.kit_list_dict, reduceIte, cntD_n, cntD_s, List.map_cons, List.map_nil, List.length_cons, List.length_nil, List.replicate, List.cons_append, List.nil_append, List.getElem?_cons_zero, List.getElem?_cons_succ, List.set_cons_zero, List.set_cons_succ, onSome, atI_0, atI_1, atI_2, atI_3, atI_4, w_nw, w_na, w_nh, w_ng, w_wn, w_wa, w_wh, w_wg, w_an, w_aw, w_ah, w_ag, w_hn, w_hw, w_ha, w_hg, w_gn, w_gw, w_ga, w_gh, w_self, Bool.false_eq_true, if_false, if_true, Nat.reduceAdd, Nat.reduceSub]
    have e : cntsD (ws.map fun w => begunOne w p) = .tup (ws.map fun w => cntD (begunOne w p)) := by
      unfold cntsD
      rw [List.map_map]
      rfl
    rw [e] at q
    exact rt_D q
theorem zipWith_idx {α β γ : Type} (f : α → β → γ) (b0 : β) : ∀ (xs : List α) (ys zs : List β) (k : Nat), zs.length = xs.length → (∀ i, i < zs.length → ys.getD (k + i) b0 = zs.getD i b0) →
    (xs.zipIdx k).map (fun e => f e.1 (ys.getD e.2 b0)) = List.zipWith f xs zs
  | [], _, zs, _, h, _ => by
    cases zs with
    | nil => rfl
    | cons z zs => cases h
  | x :: xs, ys, zs, k, h, hg => by
    cases zs with
    | nil => cases h
    | cons z zs =>
      rw [List.zipIdx_cons, List.map_cons, List.zipWith_cons_cons]
      congr 1
      · have e := hg 0 (by simp)
        rw [Nat.add_zero] at e
        show f x (ys.getD k b0) = f x z
        rw [e]
        rfl
      · refine zipWith_idx f b0 xs ys zs (k + 1) (by simpa using h) fun i hi => ?_
        have e := hg (i + 1) (by simp; omega)
        rw [show k + 1 + i = k + (i + 1) by omega, e]
        rfl
theorem r_counted : ∀ ds μ Q, s_counted ds μ Q → w_counted (endD Q) (startD 5 ds) μ := by
  rintro ds μ Q ⟨n, ws, cs, p, rfl, hl, hc, hw, hp, hn, q⟩
  unfold w_counted
  simp only [wishesD, cntsD]
  simp only [DL.wSeq, DL.wAsg, DL.wOp, DL.wVar, DL.wC, DL.wIx, DL.gdName, DL.startD, wishD, DL.pv_, DL.wIfS, DL.wTest, DL.wRet, DL.wIf, DL.wCall, DL.wCons, DL.wNil, DL.wNext, DL.wEq, DL.wNe, DL.wIsN, DL.wNotN, DL.isNonD, DL.onBl, DL.wAndV, DL.wOrV, DL.wNotV, DL.wAnd, DL.wOr, DL.wNot, DL.wCB, DL.wLen, DL.wInt, DL.wAbs, DL.wMax2, DL.wMin2, DL.wTupOf, DL.wUn, DL.wU, DL.wI0, DL.wI, DL.wTup, DL.wLst, DL.wPar, DL.wPar3, DL.wDrop, DL.wSl, DL.wSlL, DL.wPart, DL.wNoPart, DL.endD, DL.wLc, DL.lcStep, DL.wipeD, DL.wYes, DL.gdTup, DL.gdCons, DL.gdNil, DL.idTup, DL.idLst, DL.idEnumL, DL.idEnumT, DL.idZip, DL.idRng1, DL.idRng2, DL.wAny, DL.wAll, DL.wChain, DL.wFor, DL.wWhile, DL.wAppend, DL.wLstM, DL.gdSub, DL.wIsi, DL.tyD, true_and, DL.sz_0, DL.sz_1, DL.sz_2, DL.sz_3, DL.sz_4, DL.sz_5, DL.sz_6, DL.sz_7, DL.sz_8, DL.sz_9, DL.sz_10, DL.sz_11, DL.sz_12, DL.sz_13, DL.sz_14, DL.sz_15, DL.sz_16, DL.sz_17, DL.sz_18, DL.sz_19, DL.sz_20, DL.sz_21, DL.sz_22, DL.sz_23, DL.sz_24, DL.sz_25, DL.sz_26, DL.ixN50, DL.ixN51, DL.ixN52, DL.ixN53, DL.ixN54, DL.Mu.set_same, DL.Mu.set_set, eq_self, decide_true, Bool.not_true, Bool.not_false, Bool.or_false, Bool.or_true, Bool.true_or, Bool.false_or, DL.kit_NoneType_bool, DL.kit_NoneType_int, DL.kit_NoneType_str, DL.kit_NoneType_tuple, DL.kit_NoneType_list, DL.kit_NoneType_dict, DL.kit_bool_bool, DL.kit_bool_int, DL.kit_bool_str, DL.kit_bool_tuple, DL.kit_bool_list, DL.kit_bool_dict, DL.kit_int_bool, DL.kit_int_int, DL.kit_int_str, DL.kit_int_tuple, DL.kit_int_list, DL.kit_int_dict, DL.kit_str_bool, DL.kit_str_int, DL.kit_str_str, DL.kit_str_tuple, DL.kit_str_list, DL.kit_str_dict, DL.kit_tuple_bool, DL.kit_tuple_int, DL.kit_tuple_str, DL.kit_tuple_tuple, DL.kit_tuple_list, DL.kit_tuple_dict, DL.kit_list_bool, DL.kit_list_int, DL.kit_list_str, DL.kit_list_tuple, DL.kit_list_list, DL.kit_list_dict, reduceIte, cntD_n, cntD_s, List.map_cons, List.map_nil, List.length_cons, List.length_nil, List.replicate, List.cons_append, List.nil_append, List.getElem?_cons_zero, List.getElem?_cons_succ, List.set_cons_zero, List.set_cons_succ, onSome, atI_0, atI_1, atI_2, atI_3, atI_4, w_nw, w_na, w_nh, w_ng, w_wn, w_wa, w_wh, w_wg, w_an, w_aw, w_ah, w_ag, w_hn, w_hw, w_ha, w_hg, w_gn, w_gw, w_ga, w_gh, w_self, Bool.false_eq_true, if_false, if_true, Nat.reduceAdd, Nat.reduceSub]
  rw [enumD_map]
  refine ⟨by rw [List.length_map, List.length_zipIdx]; exact sz_le hl, fun D hD => lcW_map _ (fun e => cntD (countedOne e.1 (cs.getD e.2 none) p)) (ws.zipIdx 0) μ _ hD (fun e hm ν k hk => ?_) ?_⟩
  · have h1 := List.mem_zipIdx' hm
    have h2 : cs[e.2]? = some (cs.getD e.2 none) := by
      rw [List.getD_eq_getElem?_getD, List.getElem?_eq_getElem (by omega)]
      rfl
    simp only [DL.wSeq, DL.wAsg, DL.wOp, DL.wVar, DL.wC, DL.wIx, DL.gdName, DL.startD, wishD, DL.pv_, DL.wIfS, DL.wTest, DL.wRet, DL.wIf, DL.wCall, DL.wCons, DL.wNil, DL.wNext, DL.wEq, DL.wNe, DL.wIsN, DL.wNotN, DL.isNonD, DL.onBl, DL.wAndV, DL.wOrV, DL.wNotV, DL.wAnd, DL.wOr, DL.wNot, DL.wCB, DL.wLen, DL.wInt, DL.wAbs, DL.wMax2, DL.wMin2, DL.wTupOf, DL.wUn, DL.wU, DL.wI0, DL.wI, DL.wTup, DL.wLst, DL.wPar, DL.wPar3, DL.wDrop, DL.wSl, DL.wSlL, DL.wPart, DL.wNoPart, DL.endD, DL.wLc, DL.lcStep, DL.wipeD, DL.wYes, DL.gdTup, DL.gdCons, DL.gdNil, DL.idTup, DL.idLst, DL.idEnumL, DL.idEnumT, DL.idZip, DL.idRng1, DL.idRng2, DL.wAny, DL.wAll, DL.wChain, DL.wFor, DL.wWhile, DL.wAppend, DL.wLstM, DL.gdSub, DL.wIsi, DL.tyD, true_and, DL.sz_0, DL.sz_1, DL.sz_2, DL.sz_3, DL.sz_4, DL.sz_5, DL.sz_6, DL.sz_7, DL.sz_8, DL.sz_9, DL.sz_10, DL.sz_11, DL.sz_12, DL.sz_13, DL.sz_14, DL.sz_15, DL.sz_16, DL.sz_17, DL.sz_18, DL.sz_19, DL.sz_20, DL.sz_21, DL.sz_22, DL.sz_23, DL.sz_24, DL.sz_25, DL.sz_26, DL.ixN50, DL.ixN51, DL.ixN52, DL.ixN53, DL.ixN54, DL.Mu.set_same, DL.Mu.set_set, eq_self, decide_true, Bool.not_true, Bool.not_false, Bool.or_false, Bool.or_true, Bool.true_or, Bool.false_or, DL.kit_NoneType_bool, DL.kit_NoneType_int, DL.kit_NoneType_str, DL.kit_NoneType_tuple, DL.kit_NoneType_list, DL.kit_NoneType_dict, DL.kit_bool_bool, DL.kit_bool_int, DL.kit_bool_str, DL.kit_bool_tuple, DL.kit_bool_list, DL.kit_bool_dict, DL.kit_int_bool, DL.kit_int_int, DL.kit_int_str, DL.kit_int_tuple, DL.kit_int_list, DL.kit_int_dict, DL.kit_str_bool, DL.kit_str_int, DL.kit_str_str, DL.kit_str_tuple, DL.kit_str_list, DL.kit_str_dict, DL.kit_tuple_bool, DL.kit_tuple_int, DL.kit_tuple_str, DL.kit_tuple_tuple, DL.kit_tuple_list, DL.kit_tuple_dict, DL.kit_list_bool, DL.kit_list_int, DL.kit_list_str, DL.kit_list_tuple, DL.kit_list_list, DL.kit_list_dict, reduceIte, cntD_n, cntD_s, List.map_cons, List.map_nil, List.length_cons, List.length_nil, List.replicate, List.cons_append, List.nil_append, List.getElem?_cons_zero, List.getElem?_cons_succ, List.set_cons_zero, List.set_cons_succ, onSome, atI_0, atI_1, atI_2, atI_3, atI_4, w_nw, w_na, w_nh, w_ng, w_wn, w_wa, w_wh, w_wg, w_an, w_aw, w_ah, w_ag, w_hn, w_hw, w_ha, w_hg, w_gn, w_gw, w_ga, w_gh, w_self, Bool.false_eq_true, if_false, if_true, Nat.reduceAdd, Nat.reduceSub]
    rw [atI_mapD h2]
    simp only [DL.wSeq, DL.wAsg, DL.wOp, DL.wVar, DL.wC, DL.wIx, DL.gdName, DL.startD, wishD, DL.pv_, DL.wIfS, DL.wTest, DL.wRet, DL.wIf, DL.wCall, DL.wCons, DL.wNil, DL.wNext, DL.wEq, DL.wNe, DL.wIsN, DL.wNotN, DL.isNonD, DL.onBl, DL.wAndV, DL.wOrV, DL.wNotV, DL.wAnd, DL.wOr, DL.wNot, DL.wCB, DL.wLen, DL.wInt, DL.wAbs, DL.wMax2, DL.wMin2, DL.wTupOf, DL.wUn, DL.wU, DL.wI0, DL.wI, DL.wTup, DL.wLst, DL.wPar, DL.wPar3, DL.wDrop, DL.wSl, DL.wSlL, DL.wPart, DL.wNoPart, DL.endD, DL.wLc, DL.lcStep, DL.wipeD, DL.wYes, DL.gdTup, DL.gdCons, DL.gdNil, DL.idTup, DL.idLst, DL.idEnumL, DL.idEnumT, DL.idZip, DL.idRng1, DL.idRng2, DL.wAny, DL.wAll, DL.wChain, DL.wFor, DL.wWhile, DL.wAppend, DL.wLstM, DL.gdSub, DL.wIsi, DL.tyD, true_and, DL.sz_0, DL.sz_1, DL.sz_2, DL.sz_3, DL.sz_4, DL.sz_5, DL.sz_6, DL.sz_7, DL.sz_8, DL.sz_9, DL.sz_10, DL.sz_11, DL.sz_12, DL.sz_13, DL.sz_14, DL.sz_15, DL.sz_16, DL.sz_17, DL.sz_18, DL.sz_19, DL.sz_20, DL.sz_21, DL.sz_22, DL.sz_23, DL.sz_24, DL.sz_25, DL.sz_26, DL.ixN50, DL.ixN51, DL.ixN52, DL.ixN53, DL.ixN54, DL.Mu.set_same, DL.Mu.set_set, eq_self, decide_true, Bool.not_true, Bool.not_false, Bool.or_false, Bool.or_true, Bool.true_or, Bool.false_or, DL.kit_NoneType_bool, DL.kit_NoneType_int, DL.kit_NoneType_str, DL.kit_NoneType_tuple, DL.kit_NoneType_list, DL.kit_NoneType_dict, DL.kit_bool_bool, DL.kit_bool_int, DL.kit_bool_str, DL.kit_bool_tuple, DL.kit_bool_list, DL.kit_bool_dict, DL.kit_int_bool, DL.kit_int_int, DL.kit_int_str, DL.kit_int_tuple, DL.kit_int_list, DL.kit_int_dict, DL.kit_str_bool, DL.kit_str_int, DL.kit_str_str, DL.kit_str_tuple, DL.kit_str_list, DL.kit_str_dict, DL.kit_tuple_bool, DL.kit_tuple_int, DL.kit_tuple_str, DL.kit_tuple_tuple, DL.kit_tuple_list, DL.kit_tuple_dict, DL.kit_list_bool, DL.kit_list_int, DL.kit_list_str, DL.kit_list_tuple, DL.kit_list_list, DL.kit_list_dict, reduceIte, cntD_n, cntD_s, List.map_cons, List.map_nil, List.length_cons, List.length_nil, List.replicate, List.cons_append, List.nil_append, List.getElem?_cons_zero, List.getElem?_cons_succ, List.set_cons_zero, List.set_cons_succ, onSome, atI_0, atI_1, atI_2, atI_3, atI_4, w_nw, w_na, w_nh, w_ng, w_wn, w_wa, w_wh, w_wg, w_an, w_aw, w_ah, w_ag, w_hn, w_hw, w_ha, w_hg, w_gn, w_gw, w_ga, w_gh, w_self, Bool.false_eq_true, if_false, if_true, Nat.reduceAdd, Nat.reduceSub]
    refine ⟨n, e.1, _, p, rfl, hw _ (by rw [h1.2]; exact List.getElem_mem _), hp, hn, hk⟩
  · simp only [DL.wSeq, DL.wAsg, DL.wOp, DL.wVar, DL.wC, DL.wIx, DL.gdName, DL.startD, wishD, DL.pv_, DL.wIfS, DL.wTest, DL.wRet, DL.wIf, DL.wCall, DL.wCons, DL.wNil, DL.wNext, DL.wEq, DL.wNe, DL.wIsN, DL.wNotN, DL.isNonD, DL.onBl, DL.wAndV, DL.wOrV, DL.wNotV, DL.wAnd, DL.wOr, DL.wNot, DL.wCB, DL.wLen, DL.wInt, DL.wAbs, DL.wMax2, DL.wMin2, DL.wTupOf, DL.wUn, DL.wU, DL.wI0, DL.wI, DL.wTup, DL.wLst, DL.wPar, DL.wPar3, DL.wDrop, DL.wSl, DL.wSlL, DL.wPart, DL.wNoPart, DL.endD, DL.wLc, DL.lcStep, DL.wipeD, DL.wYes, DL.gdTup, DL.gdCons, DL.gdNil, DL.idTup, DL.idLst, DL.idEnumL, DL.idEnumT, DL.idZip, DL.idRng1, DL.idRng2, DL.wAny, DL.wAll, DL.wChain, DL.wFor, DL.wWhile, DL.wAppend, DL.wLstM, DL.gdSub, DL.wIsi, DL.tyD, true_and, DL.sz_0, DL.sz_1, DL.sz_2, DL.sz_3, DL.sz_4, DL.sz_5, DL.sz_6, DL.sz_7, DL.sz_8, DL.sz_9, DL.sz_10, DL.sz_11, DL.sz_12, DL.sz_13, DL.sz_14, DL.sz_15, DL.sz_16, DL.sz_17, DL.sz_18, DL.sz_19, DL.sz_20, DL.sz_21, DL.sz_22, DL.sz_23, DL.sz_24, DL.sz_25, DL.sz_26, DL.ixN50, DL.ixN51, DL.ixN52, DL.ixN53, DL.ixN54, DL.Mu.set_same, DL.Mu.set_set, eq_self, decide_true, Bool.not_true, Bool.not_false, Bool.or_false, Bool.or_true, Bool.true_or, Bool.false_or, DL.kit_NoneType_bool, DL.kit_NoneType_int, DL.kit_NoneType_str, DL.kit_NoneType_tuple, DL.kit_NoneType_list, DL.kit_NoneType_dict, DL.kit_bool_bool, DL.kit_bool_int, DL.kit_bool_str, DL.kit_bool_tuple, DL.kit_bool_list, DL.kit_bool_dict, DL.kit_int_bool, DL.kit_int_int, DL.kit_int_str, DL.kit_int_tuple, DL.kit_int_list, DL.kit_int_dict, DL.kit_str_bool, DL.kit_str_int, DL.kit_str_str, DL.kit_str_tuple, DL.kit_str_list, DL.kit_str_dict, DL.kit_tuple_bool, DL.kit_tuple_int, DL.kit_tuple_str, DL.kit_tuple_tuple, DL.kit_tuple_list, DL.kit_tuple_dict, DL.kit_list_bool, DL.kit_list_int, DL.kit_list_str, DL.kit_list_tuple, DL.kit_list_list, DL.kit_list_dict, reduceIte, cntD_n, cntD_s, List.map_cons, List.map_nil, List.length_cons, List.length_nil, List.replicate, List.cons_append, List.nil_append, List.getElem?_cons_zero, List.getElem?_cons_succ, List.set_cons_zero, List.set_cons_succ, onSome, atI_0, atI_1, atI_2, atI_3, atI_4, w_nw, w_na, w_nh, w_ng, w_wn, w_wa, w_wh, w_wg, w_an, w_aw, w_ah, w_ag, w_hn, w_hw, w_ha, w_hg, w_gn, w_gw, w_ga, w_gh, w_self, Bool.false_eq_true, if_false, if_true, Nat.reduceAdd, Nat.reduceSub]
    have e : (ws.zipIdx 0).map (fun e => cntD (countedOne e.1 (cs.getD e.2 none) p)) = (List.zipWith (fun w c => countedOne w c p) ws cs).map cntD := by
      rw [List.map_zipWith]
      exact zipWith_idx (fun w c => cntD (countedOne w c p)) none ws cs cs 0 hc fun i _ => by rw [Nat.zero_add]
    rw [e]
    exact rt_D q
theorem inBox_idx : ∀ (b : Box) (p : List Int) (q : List Int) (k : Nat), b.length = q.length → (∀ i, i < q.length → p.getD (k + i) 0 = q.getD i 0) → ((b.zipIdx k).map fun e => inB e.1 (p.getD e.2 0)).all id = inBox b q
  | [], _, [], _, _, _ => rfl
  | [], _, _ :: _, _, h, _ => by cases h
  | _ :: _, _, [], _, h, _ => by cases h
  | e :: b, p, x :: q, k, h, hg => by
    rw [List.zipIdx_cons, List.map_cons, List.all_cons]
    have e0 := hg 0 (by simp)
    rw [Nat.add_zero] at e0
    have ih := inBox_idx b p q (k + 1) (by simpa using h) fun i hi => by
      have z := hg (i + 1) (by simp; omega)
      rw [show k + 1 + i = k + (i + 1) by omega, z]
      rfl
    rw [ih]
    show (inB e (p.getD k 0) && inBox b q) = (inB e x && inBox b q)
    rw [e0]
    rfl
theorem r_in_box : ∀ ds μ Q, s_in_box ds μ Q → w_in_box (endD Q) (startD 4 ds) μ := by
  rintro ds μ Q ⟨b, p, rfl, hb, hp, q⟩
  unfold w_in_box
  simp only [boxD, placeD]
  simp only [DL.wSeq, DL.wAsg, DL.wOp, DL.wVar, DL.wC, DL.wIx, DL.gdName, DL.startD, wishD, DL.pv_, DL.wIfS, DL.wTest, DL.wRet, DL.wIf, DL.wCall, DL.wCons, DL.wNil, DL.wNext, DL.wEq, DL.wNe, DL.wIsN, DL.wNotN, DL.isNonD, DL.onBl, DL.wAndV, DL.wOrV, DL.wNotV, DL.wAnd, DL.wOr, DL.wNot, DL.wCB, DL.wLen, DL.wInt, DL.wAbs, DL.wMax2, DL.wMin2, DL.wTupOf, DL.wUn, DL.wU, DL.wI0, DL.wI, DL.wTup, DL.wLst, DL.wPar, DL.wPar3, DL.wDrop, DL.wSl, DL.wSlL, DL.wPart, DL.wNoPart, DL.endD, DL.wLc, DL.lcStep, DL.wipeD, DL.wYes, DL.gdTup, DL.gdCons, DL.gdNil, DL.idTup, DL.idLst, DL.idEnumL, DL.idEnumT, DL.idZip, DL.idRng1, DL.idRng2, DL.wAny, DL.wAll, DL.wChain, DL.wFor, DL.wWhile, DL.wAppend, DL.wLstM, DL.gdSub, DL.wIsi, DL.tyD, true_and, DL.sz_0, DL.sz_1, DL.sz_2, DL.sz_3, DL.sz_4, DL.sz_5, DL.sz_6, DL.sz_7, DL.sz_8, DL.sz_9, DL.sz_10, DL.sz_11, DL.sz_12, DL.sz_13, DL.sz_14, DL.sz_15, DL.sz_16, DL.sz_17, DL.sz_18, DL.sz_19, DL.sz_20, DL.sz_21, DL.sz_22, DL.sz_23, DL.sz_24, DL.sz_25, DL.sz_26, DL.ixN50, DL.ixN51, DL.ixN52, DL.ixN53, DL.ixN54, DL.Mu.set_same, DL.Mu.set_set, eq_self, decide_true, Bool.not_true, Bool.not_false, Bool.or_false, Bool.or_true, Bool.true_or, Bool.false_or, DL.kit_NoneType_bool, DL.kit_NoneType_int, DL.kit_NoneType_str, DL.kit_NoneType_tuple, DL.kit_NoneType_list, DL.kit_NoneType_dict, DL.kit_bool_bool, DL.kit_bool_int, DL.kit_bool_str, DL.kit_bool_tuple, DL.kit_bool_list, DL.kit_bool_dict, DL.kit_int_bool, DL.kit_int_int, DL.kit_int_str, DL.kit_int_tuple, DL.kit_int_list, DL.kit_int_dict, DL.kit_str_bool, DL.kit_str_int, DL.kit_str_str, DL.kit_str_tuple, DL.kit_str_list, DL.kit_str_dict, DL.kit_tuple_bool, DL.kit_tuple_int, DL.kit_tuple_str, DL.kit_tuple_tuple, DL.kit_tuple_list, DL.kit_tuple_dict, DL.kit_list_bool, DL.kit_list_int, DL.kit_list_str, DL.kit_list_tuple, DL.kit_list_list, DL.kit_list_dict, reduceIte, cntD_n, cntD_s, List.map_cons, List.map_nil, List.length_cons, List.length_nil, List.replicate, List.cons_append, List.nil_append, List.getElem?_cons_zero, List.getElem?_cons_succ, List.set_cons_zero, List.set_cons_succ, onSome, atI_0, atI_1, atI_2, atI_3, atI_4, w_nw, w_na, w_nh, w_ng, w_wn, w_wa, w_wh, w_wg, w_an, w_aw, w_ah, w_ag, w_hn, w_hw, w_ha, w_hg, w_gn, w_gw, w_ga, w_gh, w_self, Bool.false_eq_true, if_false, if_true, Nat.reduceAdd, Nat.reduceSub]
  rw [enumD_map]
  refine ⟨by rw [List.length_map, List.length_zipIdx]; exact sz_le (by omega), fun D hD => lcW_map _ (fun e => .bl (inB e.1 (p.getD e.2 0))) (b.zipIdx 0) μ _ hD (fun e hm ν k hk => ?_) ?_⟩
  · have h1 := List.mem_zipIdx' hm
    have h2 : p[e.2]? = some (p.getD e.2 0) := by
      rw [List.getD_eq_getElem?_getD, List.getElem?_eq_getElem (by omega)]
      rfl
    simp only [DL.wSeq, DL.wAsg, DL.wOp, DL.wVar, DL.wC, DL.wIx, DL.gdName, DL.startD, wishD, DL.pv_, DL.wIfS, DL.wTest, DL.wRet, DL.wIf, DL.wCall, DL.wCons, DL.wNil, DL.wNext, DL.wEq, DL.wNe, DL.wIsN, DL.wNotN, DL.isNonD, DL.onBl, DL.wAndV, DL.wOrV, DL.wNotV, DL.wAnd, DL.wOr, DL.wNot, DL.wCB, DL.wLen, DL.wInt, DL.wAbs, DL.wMax2, DL.wMin2, DL.wTupOf, DL.wUn, DL.wU, DL.wI0, DL.wI, DL.wTup, DL.wLst, DL.wPar, DL.wPar3, DL.wDrop, DL.wSl, DL.wSlL, DL.wPart, DL.wNoPart, DL.endD, DL.wLc, DL.lcStep, DL.wipeD, DL.wYes, DL.gdTup, DL.gdCons, DL.gdNil, DL.idTup, DL.idLst, DL.idEnumL, DL.idEnumT, DL.idZip, DL.idRng1, DL.idRng2, DL.wAny, DL.wAll, DL.wChain, DL.wFor, DL.wWhile, DL.wAppend, DL.wLstM, DL.gdSub, DL.wIsi, DL.tyD, true_and, DL.sz_0, DL.sz_1, DL.sz_2, DL.sz_3, DL.sz_4, DL.sz_5, DL.sz_6, DL.sz_7, DL.sz_8, DL.sz_9, DL.sz_10, DL.sz_11, DL.sz_12, DL.sz_13, DL.sz_14, DL.sz_15, DL.sz_16, DL.sz_17, DL.sz_18, DL.sz_19, DL.sz_20, DL.sz_21, DL.sz_22, DL.sz_23, DL.sz_24, DL.sz_25, DL.sz_26, DL.ixN50, DL.ixN51, DL.ixN52, DL.ixN53, DL.ixN54, DL.Mu.set_same, DL.Mu.set_set, eq_self, decide_true, Bool.not_true, Bool.not_false, Bool.or_false, Bool.or_true, Bool.true_or, Bool.false_or, DL.kit_NoneType_bool, DL.kit_NoneType_int, DL.kit_NoneType_str, DL.kit_NoneType_tuple, DL.kit_NoneType_list, DL.kit_NoneType_dict, DL.kit_bool_bool, DL.kit_bool_int, DL.kit_bool_str, DL.kit_bool_tuple, DL.kit_bool_list, DL.kit_bool_dict, DL.kit_int_bool, DL.kit_int_int, DL.kit_int_str, DL.kit_int_tuple, DL.kit_int_list, DL.kit_int_dict, DL.kit_str_bool, DL.kit_str_int, DL.kit_str_str, DL.kit_str_tuple, DL.kit_str_list, DL.kit_str_dict, DL.kit_tuple_bool, DL.kit_tuple_int, DL.kit_tuple_str, DL.kit_tuple_tuple, DL.kit_tuple_list, DL.kit_tuple_dict, DL.kit_list_bool, DL.kit_list_int, DL.kit_list_str, DL.kit_list_tuple, DL.kit_list_list, DL.kit_list_dict, reduceIte, cntD_n, cntD_s, List.map_cons, List.map_nil, List.length_cons, List.length_nil, List.replicate, List.cons_append, List.nil_append, List.getElem?_cons_zero, List.getElem?_cons_succ, List.set_cons_zero, List.set_cons_succ, onSome, atI_0, atI_1, atI_2, atI_3, atI_4, w_nw, w_na, w_nh, w_ng, w_wn, w_wa, w_wh, w_wg, w_an, w_aw, w_ah, w_ag, w_hn, w_hw, w_ha, w_hg, w_gn, w_gw, w_ga, w_gh, w_self, Bool.false_eq_true, if_false, if_true, Nat.reduceAdd, Nat.reduceSub]
    rw [atI_mapD h2]
    simp only [DL.wSeq, DL.wAsg, DL.wOp, DL.wVar, DL.wC, DL.wIx, DL.gdName, DL.startD, wishD, DL.pv_, DL.wIfS, DL.wTest, DL.wRet, DL.wIf, DL.wCall, DL.wCons, DL.wNil, DL.wNext, DL.wEq, DL.wNe, DL.wIsN, DL.wNotN, DL.isNonD, DL.onBl, DL.wAndV, DL.wOrV, DL.wNotV, DL.wAnd, DL.wOr, DL.wNot, DL.wCB, DL.wLen, DL.wInt, DL.wAbs, DL.wMax2, DL.wMin2, DL.wTupOf, DL.wUn, DL.wU, DL.wI0, DL.wI, DL.wTup, DL.wLst, DL.wPar, DL.wPar3, DL.wDrop, DL.wSl, DL.wSlL, DL.wPart, DL.wNoPart, DL.endD, DL.wLc, DL.lcStep, DL.wipeD, DL.wYes, DL.gdTup, DL.gdCons, DL.gdNil, DL.idTup, DL.idLst, DL.idEnumL, DL.idEnumT, DL.idZip, DL.idRng1, DL.idRng2, DL.wAny, DL.wAll, DL.wChain, DL.wFor, DL.wWhile, DL.wAppend, DL.wLstM, DL.gdSub, DL.wIsi, DL.tyD, true_and, DL.sz_0, DL.sz_1, DL.sz_2, DL.sz_3, DL.sz_4, DL.sz_5, DL.sz_6, DL.sz_7, DL.sz_8, DL.sz_9, DL.sz_10, DL.sz_11, DL.sz_12, DL.sz_13, DL.sz_14, DL.sz_15, DL.sz_16, DL.sz_17, DL.sz_18, DL.sz_19, DL.sz_20, DL.sz_21, DL.sz_22, DL.sz_23, DL.sz_24, DL.sz_25, DL.sz_26, DL.ixN50, DL.ixN51, DL.ixN52, DL.ixN53, DL.ixN54, DL.Mu.set_same, DL.Mu.set_set, eq_self, decide_true, Bool.not_true, Bool.not_false, Bool.or_false, Bool.or_true, Bool.true_or, Bool.false_or, DL.kit_NoneType_bool, DL.kit_NoneType_int, DL.kit_NoneType_str, DL.kit_NoneType_tuple, DL.kit_NoneType_list, DL.kit_NoneType_dict, DL.kit_bool_bool, DL.kit_bool_int, DL.kit_bool_str, DL.kit_bool_tuple, DL.kit_bool_list, DL.kit_bool_dict, DL.kit_int_bool, DL.kit_int_int, DL.kit_int_str, DL.kit_int_tuple, DL.kit_int_list, DL.kit_int_dict, DL.kit_str_bool, DL.kit_str_int, DL.kit_str_str, DL.kit_str_tuple, DL.kit_str_list, DL.kit_str_dict, DL.kit_tuple_bool, DL.kit_tuple_int, DL.kit_tuple_str, DL.kit_tuple_tuple, DL.kit_tuple_list, DL.kit_tuple_dict, DL.kit_list_bool, DL.kit_list_int, DL.kit_list_str, DL.kit_list_tuple, DL.kit_list_list, DL.kit_list_dict, reduceIte, cntD_n, cntD_s, List.map_cons, List.map_nil, List.length_cons, List.length_nil, List.replicate, List.cons_append, List.nil_append, List.getElem?_cons_zero, List.getElem?_cons_succ, List.set_cons_zero, List.set_cons_succ, onSome, atI_0, atI_1, atI_2, atI_3, atI_4, w_nw, w_na, w_nh, w_ng, w_wn, w_wa, w_wh, w_wg, w_an, w_aw, w_ah, w_ag, w_hn, w_hw, w_ha, w_hg, w_gn, w_gw, w_ga, w_gh, w_self, Bool.false_eq_true, if_false, if_true, Nat.reduceAdd, Nat.reduceSub]
    unfold inB at hk
    cases hd : decide (e.1.1 ≤ p.getD e.2 0) <;> simp only [hd, Bool.true_and, Bool.false_and, Bool.false_eq_true, if_false, if_true] at hk ⊢ <;> exact hk
  · simp only [DL.wSeq, DL.wAsg, DL.wOp, DL.wVar, DL.wC, DL.wIx, DL.gdName, DL.startD, wishD, DL.pv_, DL.wIfS, DL.wTest, DL.wRet, DL.wIf, DL.wCall, DL.wCons, DL.wNil, DL.wNext, DL.wEq, DL.wNe, DL.wIsN, DL.wNotN, DL.isNonD, DL.onBl, DL.wAndV, DL.wOrV, DL.wNotV, DL.wAnd, DL.wOr, DL.wNot, DL.wCB, DL.wLen, DL.wInt, DL.wAbs, DL.wMax2, DL.wMin2, DL.wTupOf, DL.wUn, DL.wU, DL.wI0, DL.wI, DL.wTup, DL.wLst, DL.wPar, DL.wPar3, DL.wDrop, DL.wSl, DL.wSlL, DL.wPart, DL.wNoPart, DL.endD, DL.wLc, DL.lcStep, DL.wipeD, DL.wYes, DL.gdTup, DL.gdCons, DL.gdNil, DL.idTup, DL.idLst, DL.idEnumL, DL.idEnumT, DL.idZip, DL.idRng1, DL.idRng2, DL.wAny, DL.wAll, DL.wChain, DL.wFor, DL.wWhile, DL.wAppend, DL.wLstM, DL.gdSub, DL.wIsi, DL.tyD, true_and, DL.sz_0, DL.sz_1, DL.sz_2, DL.sz_3, DL.sz_4, DL.sz_5, DL.sz_6, DL.sz_7, DL.sz_8, DL.sz_9, DL.sz_10, DL.sz_11, DL.sz_12, DL.sz_13, DL.sz_14, DL.sz_15, DL.sz_16, DL.sz_17, DL.sz_18, DL.sz_19, DL.sz_20, DL.sz_21, DL.sz_22, DL.sz_23, DL.sz_24, DL.sz_25, DL.sz_26, DL.ixN50, DL.ixN51, DL.ixN52, DL.ixN53, DL.ixN54, DL.Mu.set_same, DL.Mu.set_set, eq_self, decide_true, Bool.not_true, Bool.not_false, Bool.or_false, Bool.or_true, Bool.true_or, Bool.false_or, DL.kit_NoneType_bool, DL.kit_NoneType_int, DL.kit_NoneType_str, DL.kit_NoneType_tuple, DL.kit_NoneType_list, DL.kit_NoneType_dict, DL.kit_bool_bool, DL.kit_bool_int, DL.kit_bool_str, DL.kit_bool_tuple, DL.kit_bool_list, DL.kit_bool_dict, DL.kit_int_bool, DL.kit_int_int, DL.kit_int_str, DL.kit_int_tuple, DL.kit_int_list, DL.kit_int_dict, DL.kit_str_bool, DL.kit_str_int, DL.kit_str_str, DL.kit_str_tuple, DL.kit_str_list, DL.kit_str_dict, DL.kit_tuple_bool, DL.kit_tuple_int, DL.kit_tuple_str, DL.kit_tuple_tuple, DL.kit_tuple_list, DL.kit_tuple_dict, DL.kit_list_bool, DL.kit_list_int, DL.kit_list_str, DL.kit_list_tuple, DL.kit_list_list, DL.kit_list_dict, reduceIte, cntD_n, cntD_s, List.map_cons, List.map_nil, List.length_cons, List.length_nil, List.replicate, List.cons_append, List.nil_append, List.getElem?_cons_zero, List.getElem?_cons_succ, List.set_cons_zero, List.set_cons_succ, onSome, atI_0, atI_1, atI_2, atI_3, atI_4, w_nw, w_na, w_nh, w_ng, w_wn, w_wa, w_wh, w_wg, w_an, w_aw, w_ah, w_ag, w_hn, w_hw, w_ha, w_hg, w_gn, w_gw, w_ga, w_gh, w_self, Bool.false_eq_true, if_false, if_true, Nat.reduceAdd, Nat.reduceSub]
    rw [boolsD_map]
    simp only [DL.wSeq, DL.wAsg, DL.wOp, DL.wVar, DL.wC, DL.wIx, DL.gdName, DL.startD, wishD, DL.pv_, DL.wIfS, DL.wTest, DL.wRet, DL.wIf, DL.wCall, DL.wCons, DL.wNil, DL.wNext, DL.wEq, DL.wNe, DL.wIsN, DL.wNotN, DL.isNonD, DL.onBl, DL.wAndV, DL.wOrV, DL.wNotV, DL.wAnd, DL.wOr, DL.wNot, DL.wCB, DL.wLen, DL.wInt, DL.wAbs, DL.wMax2, DL.wMin2, DL.wTupOf, DL.wUn, DL.wU, DL.wI0, DL.wI, DL.wTup, DL.wLst, DL.wPar, DL.wPar3, DL.wDrop, DL.wSl, DL.wSlL, DL.wPart, DL.wNoPart, DL.endD, DL.wLc, DL.lcStep, DL.wipeD, DL.wYes, DL.gdTup, DL.gdCons, DL.gdNil, DL.idTup, DL.idLst, DL.idEnumL, DL.idEnumT, DL.idZip, DL.idRng1, DL.idRng2, DL.wAny, DL.wAll, DL.wChain, DL.wFor, DL.wWhile, DL.wAppend, DL.wLstM, DL.gdSub, DL.wIsi, DL.tyD, true_and, DL.sz_0, DL.sz_1, DL.sz_2, DL.sz_3, DL.sz_4, DL.sz_5, DL.sz_6, DL.sz_7, DL.sz_8, DL.sz_9, DL.sz_10, DL.sz_11, DL.sz_12, DL.sz_13, DL.sz_14, DL.sz_15, DL.sz_16, DL.sz_17, DL.sz_18, DL.sz_19, DL.sz_20, DL.sz_21, DL.sz_22, DL.sz_23, DL.sz_24, DL.sz_25, DL.sz_26, DL.ixN50, DL.ixN51, DL.ixN52, DL.ixN53, DL.ixN54, DL.Mu.set_same, DL.Mu.set_set, eq_self, decide_true, Bool.not_true, Bool.not_false, Bool.or_false, Bool.or_true, Bool.true_or, Bool.false_or, DL.kit_NoneType_bool, DL.kit_NoneType_int, DL.kit_NoneType_str, DL.kit_NoneType_tuple, DL.kit_NoneType_list, DL.kit_NoneType_dict, DL.kit_bool_bool, DL.kit_bool_int, DL.kit_bool_str, DL.kit_bool_tuple, DL.kit_bool_list, DL.kit_bool_dict, DL.kit_int_bool, DL.kit_int_int, DL.kit_int_str, DL.kit_int_tuple, DL.kit_int_list, DL.kit_int_dict, DL.kit_str_bool, DL.kit_str_int, DL.kit_str_str, DL.kit_str_tuple, DL.kit_str_list, DL.kit_str_dict, DL.kit_tuple_bool, DL.kit_tuple_int, DL.kit_tuple_str, DL.kit_tuple_tuple, DL.kit_tuple_list, DL.kit_tuple_dict, DL.kit_list_bool, DL.kit_list_int, DL.kit_list_str, DL.kit_list_tuple, DL.kit_list_list, DL.kit_list_dict, reduceIte, cntD_n, cntD_s, List.map_cons, List.map_nil, List.length_cons, List.length_nil, List.replicate, List.cons_append, List.nil_append, List.getElem?_cons_zero, List.getElem?_cons_succ, List.set_cons_zero, List.set_cons_succ, onSome, atI_0, atI_1, atI_2, atI_3, atI_4, w_nw, w_na, w_nh, w_ng, w_wn, w_wa, w_wh, w_wg, w_an, w_aw, w_ah, w_ag, w_hn, w_hw, w_ha, w_hg, w_gn, w_gw, w_ga, w_gh, w_self, Bool.false_eq_true, if_false, if_true, Nat.reduceAdd, Nat.reduceSub]
    rw [inBox_idx b p p 0 hb fun i _ => by rw [Nat.zero_add]]
    exact rt_D q
theorem r_lies_in : ∀ ds μ Q, s_lies_in ds μ Q → w_lies_in (endD Q) (startD 3 ds) μ := by
  rintro ds μ Q ⟨n, a, p, rfl, ha, hp, hn, q⟩
  unfold w_lies_in
  simp only [areaD]
  simp only [DL.wSeq, DL.wAsg, DL.wOp, DL.wVar, DL.wC, DL.wIx, DL.gdName, DL.startD, wishD, DL.pv_, DL.wIfS, DL.wTest, DL.wRet, DL.wIf, DL.wCall, DL.wCons, DL.wNil, DL.wNext, DL.wEq, DL.wNe, DL.wIsN, DL.wNotN, DL.isNonD, DL.onBl, DL.wAndV, DL.wOrV, DL.wNotV, DL.wAnd, DL.wOr, DL.wNot, DL.wCB, DL.wLen, DL.wInt, DL.wAbs, DL.wMax2, DL.wMin2, DL.wTupOf, DL.wUn, DL.wU, DL.wI0, DL.wI, DL.wTup, DL.wLst, DL.wPar, DL.wPar3, DL.wDrop, DL.wSl, DL.wSlL, DL.wPart, DL.wNoPart, DL.endD, DL.wLc, DL.lcStep, DL.wipeD, DL.wYes, DL.gdTup, DL.gdCons, DL.gdNil, DL.idTup, DL.idLst, DL.idEnumL, DL.idEnumT, DL.idZip, DL.idRng1, DL.idRng2, DL.wAny, DL.wAll, DL.wChain, DL.wFor, DL.wWhile, DL.wAppend, DL.wLstM, DL.gdSub, DL.wIsi, DL.tyD, true_and, DL.sz_0, DL.sz_1, DL.sz_2, DL.sz_3, DL.sz_4, DL.sz_5, DL.sz_6, DL.sz_7, DL.sz_8, DL.sz_9, DL.sz_10, DL.sz_11, DL.sz_12, DL.sz_13, DL.sz_14, DL.sz_15, DL.sz_16, DL.sz_17, DL.sz_18, DL.sz_19, DL.sz_20, DL.sz_21, DL.sz_22, DL.sz_23, DL.sz_24, DL.sz_25, DL.sz_26, DL.ixN50, DL.ixN51, DL.ixN52, DL.ixN53, DL.ixN54, DL.Mu.set_same, DL.Mu.set_set, eq_self, decide_true, Bool.not_true, Bool.not_false, Bool.or_false, Bool.or_true, Bool.true_or, Bool.false_or, DL.kit_NoneType_bool, DL.kit_NoneType_int, DL.kit_NoneType_str, DL.kit_NoneType_tuple, DL.kit_NoneType_list, DL.kit_NoneType_dict, DL.kit_bool_bool, DL.kit_bool_int, DL.kit_bool_str, DL.kit_bool_tuple, DL.kit_bool_list, DL.kit_bool_dict, DL.kit_int_bool, DL.kit_int_int, DL.kit_int_str, DL.kit_int_tuple, DL.kit_int_list, DL.kit_int_dict, DL.kit_str_bool, DL.kit_str_int, DL.kit_str_str, DL.kit_str_tuple, DL.kit_str_list, DL.kit_str_dict, DL.kit_tuple_bool, DL.kit_tuple_int, DL.kit_tuple_str, DL.kit_tuple_tuple, DL.kit_tuple_list, DL.kit_tuple_dict, DL.kit_list_bool, DL.kit_list_int, DL.kit_list_str, DL.kit_list_tuple, DL.kit_list_list, DL.kit_list_dict, reduceIte, cntD_n, cntD_s, List.map_cons, List.map_nil, List.length_cons, List.length_nil, List.replicate, List.cons_append, List.nil_append, List.getElem?_cons_zero, List.getElem?_cons_succ, List.set_cons_zero, List.set_cons_succ, onSome, atI_0, atI_1, atI_2, atI_3, atI_4, w_nw, w_na, w_nh, w_ng, w_wn, w_wa, w_wh, w_wg, w_an, w_aw, w_ah, w_ag, w_hn, w_hw, w_ha, w_hg, w_gn, w_gw, w_ga, w_gh, w_self, Bool.false_eq_true, if_false, if_true, Nat.reduceAdd, Nat.reduceSub]
  refine ⟨sz_map ha.few, fun D hD => lcW_map boxD (fun b => .bl (inBox b p)) a μ _ hD (fun b hm ν k hk => ?_) ?_⟩
  · simp only [DL.wSeq, DL.wAsg, DL.wOp, DL.wVar, DL.wC, DL.wIx, DL.gdName, DL.startD, wishD, DL.pv_, DL.wIfS, DL.wTest, DL.wRet, DL.wIf, DL.wCall, DL.wCons, DL.wNil, DL.wNext, DL.wEq, DL.wNe, DL.wIsN, DL.wNotN, DL.isNonD, DL.onBl, DL.wAndV, DL.wOrV, DL.wNotV, DL.wAnd, DL.wOr, DL.wNot, DL.wCB, DL.wLen, DL.wInt, DL.wAbs, DL.wMax2, DL.wMin2, DL.wTupOf, DL.wUn, DL.wU, DL.wI0, DL.wI, DL.wTup, DL.wLst, DL.wPar, DL.wPar3, DL.wDrop, DL.wSl, DL.wSlL, DL.wPart, DL.wNoPart, DL.endD, DL.wLc, DL.lcStep, DL.wipeD, DL.wYes, DL.gdTup, DL.gdCons, DL.gdNil, DL.idTup, DL.idLst, DL.idEnumL, DL.idEnumT, DL.idZip, DL.idRng1, DL.idRng2, DL.wAny, DL.wAll, DL.wChain, DL.wFor, DL.wWhile, DL.wAppend, DL.wLstM, DL.gdSub, DL.wIsi, DL.tyD, true_and, DL.sz_0, DL.sz_1, DL.sz_2, DL.sz_3, DL.sz_4, DL.sz_5, DL.sz_6, DL.sz_7, DL.sz_8, DL.sz_9, DL.sz_10, DL.sz_11, DL.sz_12, DL.sz_13, DL.sz_14, DL.sz_15, DL.sz_16, DL.sz_17, DL.sz_18, DL.sz_19, DL.sz_20, DL.sz_21, DL.sz_22, DL.sz_23, DL.sz_24, DL.sz_25, DL.sz_26, DL.ixN50, DL.ixN51, DL.ixN52, DL.ixN53, DL.ixN54, DL.Mu.set_same, DL.Mu.set_set, eq_self, decide_true, Bool.not_true, Bool.not_false, Bool.or_false, Bool.or_true, Bool.true_or, Bool.false_or, DL.kit_NoneType_bool, DL.kit_NoneType_int, DL.kit_NoneType_str, DL.kit_NoneType_tuple, DL.kit_NoneType_list, DL.kit_NoneType_dict, DL.kit_bool_bool, DL.kit_bool_int, DL.kit_bool_str, DL.kit_bool_tuple, DL.kit_bool_list, DL.kit_bool_dict, DL.kit_int_bool, DL.kit_int_int, DL.kit_int_str, DL.kit_int_tuple, DL.kit_int_list, DL.kit_int_dict, DL.kit_str_bool, DL.kit_str_int, DL.kit_str_str, DL.kit_str_tuple, DL.kit_str_list, DL.kit_str_dict, DL.kit_tuple_bool, DL.kit_tuple_int, DL.kit_tuple_str, DL.kit_tuple_tuple, DL.kit_tuple_list, DL.kit_tuple_dict, DL.kit_list_bool, DL.kit_list_int, DL.kit_list_str, DL.kit_list_tuple, DL.kit_list_list, DL.kit_list_dict, reduceIte, cntD_n, cntD_s, List.map_cons, List.map_nil, List.length_cons, List.length_nil, List.replicate, List.cons_append, List.nil_append, List.getElem?_cons_zero, List.getElem?_cons_succ, List.set_cons_zero, List.set_cons_succ, onSome, atI_0, atI_1, atI_2, atI_3, atI_4, w_nw, w_na, w_nh, w_ng, w_wn, w_wa, w_wh, w_wg, w_an, w_aw, w_ah, w_ag, w_hn, w_hw, w_ha, w_hg, w_gn, w_gw, w_ga, w_gh, w_self, Bool.false_eq_true, if_false, if_true, Nat.reduceAdd, Nat.reduceSub]
    exact ⟨b, p, rfl, (ha.ax b hm).trans hp.symm, by omega, hk⟩
  · simp only [DL.wSeq, DL.wAsg, DL.wOp, DL.wVar, DL.wC, DL.wIx, DL.gdName, DL.startD, wishD, DL.pv_, DL.wIfS, DL.wTest, DL.wRet, DL.wIf, DL.wCall, DL.wCons, DL.wNil, DL.wNext, DL.wEq, DL.wNe, DL.wIsN, DL.wNotN, DL.isNonD, DL.onBl, DL.wAndV, DL.wOrV, DL.wNotV, DL.wAnd, DL.wOr, DL.wNot, DL.wCB, DL.wLen, DL.wInt, DL.wAbs, DL.wMax2, DL.wMin2, DL.wTupOf, DL.wUn, DL.wU, DL.wI0, DL.wI, DL.wTup, DL.wLst, DL.wPar, DL.wPar3, DL.wDrop, DL.wSl, DL.wSlL, DL.wPart, DL.wNoPart, DL.endD, DL.wLc, DL.lcStep, DL.wipeD, DL.wYes, DL.gdTup, DL.gdCons, DL.gdNil, DL.idTup, DL.idLst, DL.idEnumL, DL.idEnumT, DL.idZip, DL.idRng1, DL.idRng2, DL.wAny, DL.wAll, DL.wChain, DL.wFor, DL.wWhile, DL.wAppend, DL.wLstM, DL.gdSub, DL.wIsi, DL.tyD, true_and, DL.sz_0, DL.sz_1, DL.sz_2, DL.sz_3, DL.sz_4, DL.sz_5, DL.sz_6, DL.sz_7, DL.sz_8, DL.sz_9, DL.sz_10, DL.sz_11, DL.sz_12, DL.sz_13, DL.sz_14, DL.sz_15, DL.sz_16, DL.sz_17, DL.sz_18, DL.sz_19, DL.sz_20, DL.sz_21, DL.sz_22, DL.sz_23, DL.sz_24, DL.sz_25, DL.sz_26, DL.ixN50, DL.ixN51, DL.ixN52, DL.ixN53, DL.ixN54, DL.Mu.set_same, DL.Mu.set_set, eq_self, decide_true, Bool.not_true, Bool.not_false, Bool.or_false, Bool.or_true, Bool.true_or, Bool.false_or, DL.kit_NoneType_bool, DL.kit_NoneType_int, DL.kit_NoneType_str, DL.kit_NoneType_tuple, DL.kit_NoneType_list, DL.kit_NoneType_dict, DL.kit_bool_bool, DL.kit_bool_int, DL.kit_bool_str, DL.kit_bool_tuple, DL.kit_bool_list, DL.kit_bool_dict, DL.kit_int_bool, DL.kit_int_int, DL.kit_int_str, DL.kit_int_tuple, DL.kit_int_list, DL.kit_int_dict, DL.kit_str_bool, DL.kit_str_int, DL.kit_str_str, DL.kit_str_tuple, DL.kit_str_list, DL.kit_str_dict, DL.kit_tuple_bool, DL.kit_tuple_int, DL.kit_tuple_str, DL.kit_tuple_tuple, DL.kit_tuple_list, DL.kit_tuple_dict, DL.kit_list_bool, DL.kit_list_int, DL.kit_list_str, DL.kit_list_tuple, DL.kit_list_list, DL.kit_list_dict, reduceIte, cntD_n, cntD_s, List.map_cons, List.map_nil, List.length_cons, List.length_nil, List.replicate, List.cons_append, List.nil_append, List.getElem?_cons_zero, List.getElem?_cons_succ, List.set_cons_zero, List.set_cons_succ, onSome, atI_0, atI_1, atI_2, atI_3, atI_4, w_nw, w_na, w_nh, w_ng, w_wn, w_wa, w_wh, w_wg, w_an, w_aw, w_ah, w_ag, w_hn, w_hw, w_ha, w_hg, w_gn, w_gw, w_ga, w_gh, w_self, Bool.false_eq_true, if_false, if_true, Nat.reduceAdd, Nat.reduceSub]
    rw [boolsD_map]
    simp only [DL.wSeq, DL.wAsg, DL.wOp, DL.wVar, DL.wC, DL.wIx, DL.gdName, DL.startD, wishD, DL.pv_, DL.wIfS, DL.wTest, DL.wRet, DL.wIf, DL.wCall, DL.wCons, DL.wNil, DL.wNext, DL.wEq, DL.wNe, DL.wIsN, DL.wNotN, DL.isNonD, DL.onBl, DL.wAndV, DL.wOrV, DL.wNotV, DL.wAnd, DL.wOr, DL.wNot, DL.wCB, DL.wLen, DL.wInt, DL.wAbs, DL.wMax2, DL.wMin2, DL.wTupOf, DL.wUn, DL.wU, DL.wI0, DL.wI, DL.wTup, DL.wLst, DL.wPar, DL.wPar3, DL.wDrop, DL.wSl, DL.wSlL, DL.wPart, DL.wNoPart, DL.endD, DL.wLc, DL.lcStep, DL.wipeD, DL.wYes, DL.gdTup, DL.gdCons, DL.gdNil, DL.idTup, DL.idLst, DL.idEnumL, DL.idEnumT, DL.idZip, DL.idRng1, DL.idRng2, DL.wAny, DL.wAll, DL.wChain, DL.wFor, DL.wWhile, DL.wAppend, DL.wLstM, DL.gdSub, DL.wIsi, DL.tyD, true_and, DL.sz_0, DL.sz_1, DL.sz_2, DL.sz_3, DL.sz_4, DL.sz_5, DL.sz_6, DL.sz_7, DL.sz_8, DL.sz_9, DL.sz_10, DL.sz_11, DL.sz_12, DL.sz_13, DL.sz_14, DL.sz_15, DL.sz_16, DL.sz_17, DL.sz_18, DL.sz_19, DL.sz_20, DL.sz_21, DL.sz_22, DL.sz_23, DL.sz_24, DL.sz_25, DL.sz_26, DL.ixN50, DL.ixN51, DL.ixN52, DL.ixN53, DL.ixN54, DL.Mu.set_same, DL.Mu.set_set, eq_self, decide_true, Bool.not_true, Bool.not_false, Bool.or_false, Bool.or_true, Bool.true_or, Bool.false_or, DL.kit_NoneType_bool, DL.kit_NoneType_int, DL.kit_NoneType_str, DL.kit_NoneType_tuple, DL.kit_NoneType_list, DL.kit_NoneType_dict, DL.kit_bool_bool, DL.kit_bool_int, DL.kit_bool_str, DL.kit_bool_tuple, DL.kit_bool_list, DL.kit_bool_dict, DL.kit_int_bool, DL.kit_int_int, DL.kit_int_str, DL.kit_int_tuple, DL.kit_int_list, DL.kit_int_dict, DL.kit_str_bool, DL.kit_str_int, DL.kit_str_str, DL.kit_str_tuple, DL.kit_str_list, DL.kit_str_dict, DL.kit_tuple_bool, DL.kit_tuple_int, DL.kit_tuple_str, DL.kit_tuple_tuple, DL.kit_tuple_list, DL.kit_tuple_dict, DL.kit_list_bool, DL.kit_list_int, DL.kit_list_str, DL.kit_list_tuple, DL.kit_list_list, DL.kit_list_dict, reduceIte, cntD_n, cntD_s, List.map_cons, List.map_nil, List.length_cons, List.length_nil, List.replicate, List.cons_append, List.nil_append, List.getElem?_cons_zero, List.getElem?_cons_succ, List.set_cons_zero, List.set_cons_succ, onSome, atI_0, atI_1, atI_2, atI_3, atI_4, w_nw, w_na, w_nh, w_ng, w_wn, w_wa, w_wh, w_wg, w_an, w_aw, w_ah, w_ag, w_hn, w_hw, w_ha, w_hg, w_gn, w_gw, w_ga, w_gh, w_self, Bool.false_eq_true, if_false, if_true, Nat.reduceAdd, Nat.reduceSub]
    have e : (a.map fun b => inBox b p).any id = inArea a p := by
      rw [List.any_map]
      rfl
    rw [e]
    exact rt_D q
theorem inBox_zip : ∀ (b : Box) (p : List Int), ((p.zip b).map fun e => inB e.2 e.1).all id = inBox b p
  | [], p => by
    rw [List.zip_nil_right]
    cases p <;> rfl
  | _ :: _, [] => rfl
  | e :: b, x :: p => by
    rw [List.zip_cons_cons, List.map_cons, List.all_cons, inBox_zip b p]
    rfl
theorem r_u_law_in : ∀ ds μ Q, s_u_law_in ds μ Q → w_u_law_in (endD Q) (startD 6 ds) μ := by
  rintro ds μ Q ⟨n, a, p, rfl, ha, hp, hn, q⟩
  unfold w_u_law_in
  simp only [areaD]
  simp only [DL.wSeq, DL.wAsg, DL.wOp, DL.wVar, DL.wC, DL.wIx, DL.gdName, DL.startD, wishD, DL.pv_, DL.wIfS, DL.wTest, DL.wRet, DL.wIf, DL.wCall, DL.wCons, DL.wNil, DL.wNext, DL.wEq, DL.wNe, DL.wIsN, DL.wNotN, DL.isNonD, DL.onBl, DL.wAndV, DL.wOrV, DL.wNotV, DL.wAnd, DL.wOr, DL.wNot, DL.wCB, DL.wLen, DL.wInt, DL.wAbs, DL.wMax2, DL.wMin2, DL.wTupOf, DL.wUn, DL.wU, DL.wI0, DL.wI, DL.wTup, DL.wLst, DL.wPar, DL.wPar3, DL.wDrop, DL.wSl, DL.wSlL, DL.wPart, DL.wNoPart, DL.endD, DL.wLc, DL.lcStep, DL.wipeD, DL.wYes, DL.gdTup, DL.gdCons, DL.gdNil, DL.idTup, DL.idLst, DL.idEnumL, DL.idEnumT, DL.idZip, DL.idRng1, DL.idRng2, DL.wAny, DL.wAll, DL.wChain, DL.wFor, DL.wWhile, DL.wAppend, DL.wLstM, DL.gdSub, DL.wIsi, DL.tyD, true_and, DL.sz_0, DL.sz_1, DL.sz_2, DL.sz_3, DL.sz_4, DL.sz_5, DL.sz_6, DL.sz_7, DL.sz_8, DL.sz_9, DL.sz_10, DL.sz_11, DL.sz_12, DL.sz_13, DL.sz_14, DL.sz_15, DL.sz_16, DL.sz_17, DL.sz_18, DL.sz_19, DL.sz_20, DL.sz_21, DL.sz_22, DL.sz_23, DL.sz_24, DL.sz_25, DL.sz_26, DL.ixN50, DL.ixN51, DL.ixN52, DL.ixN53, DL.ixN54, DL.Mu.set_same, DL.Mu.set_set, eq_self, decide_true, Bool.not_true, Bool.not_false, Bool.or_false, Bool.or_true, Bool.true_or, Bool.false_or, DL.kit_NoneType_bool, DL.kit_NoneType_int, DL.kit_NoneType_str, DL.kit_NoneType_tuple, DL.kit_NoneType_list, DL.kit_NoneType_dict, DL.kit_bool_bool, DL.kit_bool_int, DL.kit_bool_str, DL.kit_bool_tuple, DL.kit_bool_list, DL.kit_bool_dict, DL.kit_int_bool, DL.kit_int_int, DL.kit_int_str, DL.kit_int_tuple, DL.kit_int_list, DL.kit_int_dict, DL.kit_str_bool, DL.kit_str_int, DL.kit_str_str, DL.kit_str_tuple, DL.kit_str_list, DL.kit_str_dict, DL.kit_tuple_bool, DL.kit_tuple_int, DL.kit_tuple_str, DL.kit_tuple_tuple, DL.kit_tuple_list, DL.kit_tuple_dict, DL.kit_list_bool, DL.kit_list_int, DL.kit_list_str, DL.kit_list_tuple, DL.kit_list_list, DL.kit_list_dict, reduceIte, cntD_n, cntD_s, List.map_cons, List.map_nil, List.length_cons, List.length_nil, List.replicate, List.cons_append, List.nil_append, List.getElem?_cons_zero, List.getElem?_cons_succ, List.set_cons_zero, List.set_cons_succ, onSome, atI_0, atI_1, atI_2, atI_3, atI_4, w_nw, w_na, w_nh, w_ng, w_wn, w_wa, w_wh, w_wg, w_an, w_aw, w_ah, w_ag, w_hn, w_hw, w_ha, w_hg, w_gn, w_gw, w_ga, w_gh, w_self, Bool.false_eq_true, if_false, if_true, Nat.reduceAdd, Nat.reduceSub]
  refine ⟨sz_map ha.few, fun D hD => lcW_map boxD (fun b => .bl (inBox b p)) a μ _ hD (fun b hm ν k hk => ?_) ?_⟩
  · simp only [boxD, placeD]
    simp only [DL.wSeq, DL.wAsg, DL.wOp, DL.wVar, DL.wC, DL.wIx, DL.gdName, DL.startD, wishD, DL.pv_, DL.wIfS, DL.wTest, DL.wRet, DL.wIf, DL.wCall, DL.wCons, DL.wNil, DL.wNext, DL.wEq, DL.wNe, DL.wIsN, DL.wNotN, DL.isNonD, DL.onBl, DL.wAndV, DL.wOrV, DL.wNotV, DL.wAnd, DL.wOr, DL.wNot, DL.wCB, DL.wLen, DL.wInt, DL.wAbs, DL.wMax2, DL.wMin2, DL.wTupOf, DL.wUn, DL.wU, DL.wI0, DL.wI, DL.wTup, DL.wLst, DL.wPar, DL.wPar3, DL.wDrop, DL.wSl, DL.wSlL, DL.wPart, DL.wNoPart, DL.endD, DL.wLc, DL.lcStep, DL.wipeD, DL.wYes, DL.gdTup, DL.gdCons, DL.gdNil, DL.idTup, DL.idLst, DL.idEnumL, DL.idEnumT, DL.idZip, DL.idRng1, DL.idRng2, DL.wAny, DL.wAll, DL.wChain, DL.wFor, DL.wWhile, DL.wAppend, DL.wLstM, DL.gdSub, DL.wIsi, DL.tyD, true_and, DL.sz_0, DL.sz_1, DL.sz_2, DL.sz_3, DL.sz_4, DL.sz_5, DL.sz_6, DL.sz_7, DL.sz_8, DL.sz_9, DL.sz_10, DL.sz_11, DL.sz_12, DL.sz_13, DL.sz_14, DL.sz_15, DL.sz_16, DL.sz_17, DL.sz_18, DL.sz_19, DL.sz_20, DL.sz_21, DL.sz_22, DL.sz_23, DL.sz_24, DL.sz_25, DL.sz_26, DL.ixN50, DL.ixN51, DL.ixN52, DL.ixN53, DL.ixN54, DL.Mu.set_same, DL.Mu.set_set, eq_self, decide_true, Bool.not_true, Bool.not_false, Bool.or_false, Bool.or_true, Bool.true_or, Bool.false_or, DL.kit_NoneType_bool, DL.kit_NoneType_int, DL.kit_NoneType_str, DL.kit_NoneType_tuple, DL.kit_NoneType_list, DL.kit_NoneType_dict, DL.kit_bool_bool, DL.kit_bool_int, DL.kit_bool_str, DL.kit_bool_tuple, DL.kit_bool_list, DL.kit_bool_dict, DL.kit_int_bool, DL.kit_int_int, DL.kit_int_str, DL.kit_int_tuple, DL.kit_int_list, DL.kit_int_dict, DL.kit_str_bool, DL.kit_str_int, DL.kit_str_str, DL.kit_str_tuple, DL.kit_str_list, DL.kit_str_dict, DL.kit_tuple_bool, DL.kit_tuple_int, DL.kit_tuple_str, DL.kit_tuple_tuple, DL.kit_tuple_list, DL.kit_tuple_dict, DL.kit_list_bool, DL.kit_list_int, DL.kit_list_str, DL.kit_list_tuple, DL.kit_list_list, DL.kit_list_dict, reduceIte, cntD_n, cntD_s, List.map_cons, List.map_nil, List.length_cons, List.length_nil, List.replicate, List.cons_append, List.nil_append, List.getElem?_cons_zero, List.getElem?_cons_succ, List.set_cons_zero, List.set_cons_succ, onSome, atI_0, atI_1, atI_2, atI_3, atI_4, w_nw, w_na, w_nh, w_ng, w_wn, w_wa, w_wh, w_wg, w_an, w_aw, w_ah, w_ag, w_hn, w_hw, w_ha, w_hg, w_gn, w_gw, w_ga, w_gh, w_self, Bool.false_eq_true, if_false, if_true, Nat.reduceAdd, Nat.reduceSub]
    rw [zipD_map]
    refine ⟨by rw [List.length_map, List.length_zip]; exact sz_le (by omega), fun D' hD' => lcW_map _ (fun e => .bl (inB e.2 e.1)) (p.zip b) ν _ hD' (fun e hm' ν' k' hk' => ?_) ?_⟩
    · simp only [DL.wSeq, DL.wAsg, DL.wOp, DL.wVar, DL.wC, DL.wIx, DL.gdName, DL.startD, wishD, DL.pv_, DL.wIfS, DL.wTest, DL.wRet, DL.wIf, DL.wCall, DL.wCons, DL.wNil, DL.wNext, DL.wEq, DL.wNe, DL.wIsN, DL.wNotN, DL.isNonD, DL.onBl, DL.wAndV, DL.wOrV, DL.wNotV, DL.wAnd, DL.wOr, DL.wNot, DL.wCB, DL.wLen, DL.wInt, DL.wAbs, DL.wMax2, DL.wMin2, DL.wTupOf, DL.wUn, DL.wU, DL.wI0, DL.wI, DL.wTup, DL.wLst, DL.wPar, DL.wPar3, DL.wDrop, DL.wSl, DL.wSlL, DL.wPart, DL.wNoPart, DL.endD, DL.wLc, DL.lcStep, DL.wipeD, DL.wYes, DL.gdTup, DL.gdCons, DL.gdNil, DL.idTup, DL.idLst, DL.idEnumL, DL.idEnumT, DL.idZip, DL.idRng1, DL.idRng2, DL.wAny, DL.wAll, DL.wChain, DL.wFor, DL.wWhile, DL.wAppend, DL.wLstM, DL.gdSub, DL.wIsi, DL.tyD, true_and, DL.sz_0, DL.sz_1, DL.sz_2, DL.sz_3, DL.sz_4, DL.sz_5, DL.sz_6, DL.sz_7, DL.sz_8, DL.sz_9, DL.sz_10, DL.sz_11, DL.sz_12, DL.sz_13, DL.sz_14, DL.sz_15, DL.sz_16, DL.sz_17, DL.sz_18, DL.sz_19, DL.sz_20, DL.sz_21, DL.sz_22, DL.sz_23, DL.sz_24, DL.sz_25, DL.sz_26, DL.ixN50, DL.ixN51, DL.ixN52, DL.ixN53, DL.ixN54, DL.Mu.set_same, DL.Mu.set_set, eq_self, decide_true, Bool.not_true, Bool.not_false, Bool.or_false, Bool.or_true, Bool.true_or, Bool.false_or, DL.kit_NoneType_bool, DL.kit_NoneType_int, DL.kit_NoneType_str, DL.kit_NoneType_tuple, DL.kit_NoneType_list, DL.kit_NoneType_dict, DL.kit_bool_bool, DL.kit_bool_int, DL.kit_bool_str, DL.kit_bool_tuple, DL.kit_bool_list, DL.kit_bool_dict, DL.kit_int_bool, DL.kit_int_int, DL.kit_int_str, DL.kit_int_tuple, DL.kit_int_list, DL.kit_int_dict, DL.kit_str_bool, DL.kit_str_int, DL.kit_str_str, DL.kit_str_tuple, DL.kit_str_list, DL.kit_str_dict, DL.kit_tuple_bool, DL.kit_tuple_int, DL.kit_tuple_str, DL.kit_tuple_tuple, DL.kit_tuple_list, DL.kit_tuple_dict, DL.kit_list_bool, DL.kit_list_int, DL.kit_list_str, DL.kit_list_tuple, DL.kit_list_list, DL.kit_list_dict, reduceIte, cntD_n, cntD_s, List.map_cons, List.map_nil, List.length_cons, List.length_nil, List.replicate, List.cons_append, List.nil_append, List.getElem?_cons_zero, List.getElem?_cons_succ, List.set_cons_zero, List.set_cons_succ, onSome, atI_0, atI_1, atI_2, atI_3, atI_4, w_nw, w_na, w_nh, w_ng, w_wn, w_wa, w_wh, w_wg, w_an, w_aw, w_ah, w_ag, w_hn, w_hw, w_ha, w_hg, w_gn, w_gw, w_ga, w_gh, w_self, Bool.false_eq_true, if_false, if_true, Nat.reduceAdd, Nat.reduceSub]
      unfold inB at hk'
      cases hd : decide (e.2.1 ≤ e.1) <;> simp only [hd, Bool.true_and, Bool.false_and, Bool.false_eq_true, if_false, if_true] at hk' ⊢ <;> exact hk'
    · simp only [DL.wSeq, DL.wAsg, DL.wOp, DL.wVar, DL.wC, DL.wIx, DL.gdName, DL.startD, wishD, DL.pv_, DL.wIfS, DL.wTest, DL.wRet, DL.wIf, DL.wCall, DL.wCons, DL.wNil, DL.wNext, DL.wEq, DL.wNe, DL.wIsN, DL.wNotN, DL.isNonD, DL.onBl, DL.wAndV, DL.wOrV, DL.wNotV, DL.wAnd, DL.wOr, DL.wNot, DL.wCB, DL.wLen, DL.wInt, DL.wAbs, DL.wMax2, DL.wMin2, DL.wTupOf, DL.wUn, DL.wU, DL.wI0, DL.wI, DL.wTup, DL.wLst, DL.wPar, DL.wPar3, DL.wDrop, DL.wSl, DL.wSlL, DL.wPart, DL.wNoPart, DL.endD, DL.wLc, DL.lcStep, DL.wipeD, DL.wYes, DL.gdTup, DL.gdCons, DL.gdNil, DL.idTup, DL.idLst, DL.idEnumL, DL.idEnumT, DL.idZip, DL.idRng1, DL.idRng2, DL.wAny, DL.wAll, DL.wChain, DL.wFor, DL.wWhile, DL.wAppend, DL.wLstM, DL.gdSub, DL.wIsi, DL.tyD, true_and, DL.sz_0, DL.sz_1, DL.sz_2, DL.sz_3, DL.sz_4, DL.sz_5, DL.sz_6, DL.sz_7, DL.sz_8, DL.sz_9, DL.sz_10, DL.sz_11, DL.sz_12, DL.sz_13, DL.sz_14, DL.sz_15, DL.sz_16, DL.sz_17, DL.sz_18, DL.sz_19, DL.sz_20, DL.sz_21, DL.sz_22, DL.sz_23, DL.sz_24, DL.sz_25, DL.sz_26, DL.ixN50, DL.ixN51, DL.ixN52, DL.ixN53, DL.ixN54, DL.Mu.set_same, DL.Mu.set_set, eq_self, decide_true, Bool.not_true, Bool.not_false, Bool.or_false, Bool.or_true, Bool.true_or, Bool.false_or, DL.kit_NoneType_bool, DL.kit_NoneType_int, DL.kit_NoneType_str, DL.kit_NoneType_tuple, DL.kit_NoneType_list, DL.kit_NoneType_dict, DL.kit_bool_bool, DL.kit_bool_int, DL.kit_bool_str, DL.kit_bool_tuple, DL.kit_bool_list, DL.kit_bool_dict, DL.kit_int_bool, DL.kit_int_int, DL.kit_int_str, DL.kit_int_tuple, DL.kit_int_list, DL.kit_int_dict, DL.kit_str_bool, DL.kit_str_int, DL.kit_str_str, DL.kit_str_tuple, DL.kit_str_list, DL.kit_str_dict, DL.kit_tuple_bool, DL.kit_tuple_int, DL.kit_tuple_str, DL.kit_tuple_tuple, DL.kit_tuple_list, DL.kit_tuple_dict, DL.kit_list_bool, DL.kit_list_int, DL.kit_list_str, DL.kit_list_tuple, DL.kit_list_list, DL.kit_list_dict, reduceIte, cntD_n, cntD_s, List.map_cons, List.map_nil, List.length_cons, List.length_nil, List.replicate, List.cons_append, List.nil_append, List.getElem?_cons_zero, List.getElem?_cons_succ, List.set_cons_zero, List.set_cons_succ, onSome, atI_0, atI_1, atI_2, atI_3, atI_4, w_nw, w_na, w_nh, w_ng, w_wn, w_wa, w_wh, w_wg, w_an, w_aw, w_ah, w_ag, w_hn, w_hw, w_ha, w_hg, w_gn, w_gw, w_ga, w_gh, w_self, Bool.false_eq_true, if_false, if_true, Nat.reduceAdd, Nat.reduceSub]
      rw [boolsD_map]
      simp only [DL.wSeq, DL.wAsg, DL.wOp, DL.wVar, DL.wC, DL.wIx, DL.gdName, DL.startD, wishD, DL.pv_, DL.wIfS, DL.wTest, DL.wRet, DL.wIf, DL.wCall, DL.wCons, DL.wNil, DL.wNext, DL.wEq, DL.wNe, DL.wIsN, DL.wNotN, DL.isNonD, DL.onBl, DL.wAndV, DL.wOrV, DL.wNotV, DL.wAnd, DL.wOr, DL.wNot, DL.wCB, DL.wLen, DL.wInt, DL.wAbs, DL.wMax2, DL.wMin2, DL.wTupOf, DL.wUn, DL.wU, DL.wI0, DL.wI, DL.wTup, DL.wLst, DL.wPar, DL.wPar3, DL.wDrop, DL.wSl, DL.wSlL, DL.wPart, DL.wNoPart, DL.endD, DL.wLc, DL.lcStep, DL.wipeD, DL.wYes, DL.gdTup, DL.gdCons, DL.gdNil, DL.idTup, DL.idLst, DL.idEnumL, DL.idEnumT, DL.idZip, DL.idRng1, DL.idRng2, DL.wAny, DL.wAll, DL.wChain, DL.wFor, DL.wWhile, DL.wAppend, DL.wLstM, DL.gdSub, DL.wIsi, DL.tyD, true_and, DL.sz_0, DL.sz_1, DL.sz_2, DL.sz_3, DL.sz_4, DL.sz_5, DL.sz_6, DL.sz_7, DL.sz_8, DL.sz_9, DL.sz_10, DL.sz_11, DL.sz_12, DL.sz_13, DL.sz_14, DL.sz_15, DL.sz_16, DL.sz_17, DL.sz_18, DL.sz_19, DL.sz_20, DL.sz_21, DL.sz_22, DL.sz_23, DL.sz_24, DL.sz_25, DL.sz_26, DL.ixN50, DL.ixN51, DL.ixN52, DL.ixN53, DL.ixN54, DL.Mu.set_same, DL.Mu.set_set, eq_self, decide_true, Bool.not_true, Bool.not_false, Bool.or_false, Bool.or_true, Bool.true_or, Bool.false_or, DL.kit_NoneType_bool, DL.kit_NoneType_int, DL.kit_NoneType_str, DL.kit_NoneType_tuple, DL.kit_NoneType_list, DL.kit_NoneType_dict, DL.kit_bool_bool, DL.kit_bool_int, DL.kit_bool_str, DL.kit_bool_tuple, DL.kit_bool_list, DL.kit_bool_dict, DL.kit_int_bool, DL.kit_int_int, DL.kit_int_str, DL.kit_int_tuple, DL.kit_int_list, DL.kit_int_dict, DL.kit_str_bool, DL.kit_str_int, DL.kit_str_str, DL.kit_str_tuple, DL.kit_str_list, DL.kit_str_dict, DL.kit_tuple_bool, DL.kit_tuple_int, DL.kit_tuple_str, DL.kit_tuple_tuple, DL.kit_tuple_list, DL.kit_tuple_dict, DL.kit_list_bool, DL.kit_list_int, DL.kit_list_str, DL.kit_list_tuple, DL.kit_list_list, DL.kit_list_dict, reduceIte, cntD_n, cntD_s, List.map_cons, List.map_nil, List.length_cons, List.length_nil, List.replicate, List.cons_append, List.nil_append, List.getElem?_cons_zero, List.getElem?_cons_succ, List.set_cons_zero, List.set_cons_succ, onSome, atI_0, atI_1, atI_2, atI_3, atI_4, w_nw, w_na, w_nh, w_ng, w_wn, w_wa, w_wh, w_wg, w_an, w_aw, w_ah, w_ag, w_hn, w_hw, w_ha, w_hg, w_gn, w_gw, w_ga, w_gh, w_self, Bool.false_eq_true, if_false, if_true, Nat.reduceAdd, Nat.reduceSub]
      rw [inBox_zip]
      exact hk
  · simp only [DL.wSeq, DL.wAsg, DL.wOp, DL.wVar, DL.wC, DL.wIx, DL.gdName, DL.startD, wishD, DL.pv_, DL.wIfS, DL.wTest, DL.wRet, DL.wIf, DL.wCall, DL.wCons, DL.wNil, DL.wNext, DL.wEq, DL.wNe, DL.wIsN, DL.wNotN, DL.isNonD, DL.onBl, DL.wAndV, DL.wOrV, DL.wNotV, DL.wAnd, DL.wOr, DL.wNot, DL.wCB, DL.wLen, DL.wInt, DL.wAbs, DL.wMax2, DL.wMin2, DL.wTupOf, DL.wUn, DL.wU, DL.wI0, DL.wI, DL.wTup, DL.wLst, DL.wPar, DL.wPar3, DL.wDrop, DL.wSl, DL.wSlL, DL.wPart, DL.wNoPart, DL.endD, DL.wLc, DL.lcStep, DL.wipeD, DL.wYes, DL.gdTup, DL.gdCons, DL.gdNil, DL.idTup, DL.idLst, DL.idEnumL, DL.idEnumT, DL.idZip, DL.idRng1, DL.idRng2, DL.wAny, DL.wAll, DL.wChain, DL.wFor, DL.wWhile, DL.wAppend, DL.wLstM, DL.gdSub, DL.wIsi, DL.tyD, true_and, DL.sz_0, DL.sz_1, DL.sz_2, DL.sz_3, DL.sz_4, DL.sz_5, DL.sz_6, DL.sz_7, DL.sz_8, DL.sz_9, DL.sz_10, DL.sz_11, DL.sz_12, DL.sz_13, DL.sz_14, DL.sz_15, DL.sz_16, DL.sz_17, DL.sz_18, DL.sz_19, DL.sz_20, DL.sz_21, DL.sz_22, DL.sz_23, DL.sz_24, DL.sz_25, DL.sz_26, DL.ixN50, DL.ixN51, DL.ixN52, DL.ixN53, DL.ixN54, DL.Mu.set_same, DL.Mu.set_set, eq_self, decide_true, Bool.not_true, Bool.not_false, Bool.or_false, Bool.or_true, Bool.true_or, Bool.false_or, DL.kit_NoneType_bool, DL.kit_NoneType_int, DL.kit_NoneType_str, DL.kit_NoneType_tuple, DL.kit_NoneType_list, DL.kit_NoneType_dict, DL.kit_bool_bool, DL.kit_bool_int, DL.kit_bool_str, DL.kit_bool_tuple, DL.kit_bool_list, DL.kit_bool_dict, DL.kit_int_bool, DL.kit_int_int, DL.kit_int_str, DL.kit_int_tuple, DL.kit_int_list, DL.kit_int_dict, DL.kit_str_bool, DL.kit_str_int, DL.kit_str_str, DL.kit_str_tuple, DL.kit_str_list, DL.kit_str_dict, DL.kit_tuple_bool, DL.kit_tuple_int, DL.kit_tuple_str, DL.kit_tuple_tuple, DL.kit_tuple_list, DL.kit_tuple_dict, DL.kit_list_bool, DL.kit_list_int, DL.kit_list_str, DL.kit_list_tuple, DL.kit_list_list, DL.kit_list_dict, reduceIte, cntD_n, cntD_s, List.map_cons, List.map_nil, List.length_cons, List.length_nil, List.replicate, List.cons_append, List.nil_append, List.getElem?_cons_zero, List.getElem?_cons_succ, List.set_cons_zero, List.set_cons_succ, onSome, atI_0, atI_1, atI_2, atI_3, atI_4, w_nw, w_na, w_nh, w_ng, w_wn, w_wa, w_wh, w_wg, w_an, w_aw, w_ah, w_ag, w_hn, w_hw, w_ha, w_hg, w_gn, w_gw, w_ga, w_gh, w_self, Bool.false_eq_true, if_false, if_true, Nat.reduceAdd, Nat.reduceSub]
    rw [boolsD_map]
    simp only [DL.wSeq, DL.wAsg, DL.wOp, DL.wVar, DL.wC, DL.wIx, DL.gdName, DL.startD, wishD, DL.pv_, DL.wIfS, DL.wTest, DL.wRet, DL.wIf, DL.wCall, DL.wCons, DL.wNil, DL.wNext, DL.wEq, DL.wNe, DL.wIsN, DL.wNotN, DL.isNonD, DL.onBl, DL.wAndV, DL.wOrV, DL.wNotV, DL.wAnd, DL.wOr, DL.wNot, DL.wCB, DL.wLen, DL.wInt, DL.wAbs, DL.wMax2, DL.wMin2, DL.wTupOf, DL.wUn, DL.wU, DL.wI0, DL.wI, DL.wTup, DL.wLst, DL.wPar, DL.wPar3, DL.wDrop, DL.wSl, DL.wSlL, DL.wPart, DL.wNoPart, DL.endD, DL.wLc, DL.lcStep, DL.wipeD, DL.wYes, DL.gdTup, DL.gdCons, DL.gdNil, DL.idTup, DL.idLst, DL.idEnumL, DL.idEnumT, DL.idZip, DL.idRng1, DL.idRng2, DL.wAny, DL.wAll, DL.wChain, DL.wFor, DL.wWhile, DL.wAppend, DL.wLstM, DL.gdSub, DL.wIsi, DL.tyD, true_and, DL.sz_0, DL.sz_1, DL.sz_2, DL.sz_3, DL.sz_4, DL.sz_5, DL.sz_6, DL.sz_7, DL.sz_8, DL.sz_9, DL.sz_10, DL.sz_11, DL.sz_12, DL.sz_13, DL.sz_14, DL.sz_15, DL.sz_16, DL.sz_17, DL.sz_18, DL.sz_19, DL.sz_20, DL.sz_21, DL.sz_22, DL.sz_23, DL.sz_24, DL.sz_25, DL.sz_26, DL.ixN50, DL.ixN51, DL.ixN52, DL.ixN53, DL.ixN54, DL.Mu.set_same, DL.Mu.set_set, eq_self, decide_true, Bool.not_true, Bool.not_false, Bool.or_false, Bool.or_true, Bool.true_or, Bool.false_or, DL.kit_NoneType_bool, DL.kit_NoneType_int, DL.kit_NoneType_str, DL.kit_NoneType_tuple, DL.kit_NoneType_list, DL.kit_NoneType_dict, DL.kit_bool_bool, DL.kit_bool_int, DL.kit_bool_str, DL.kit_bool_tuple, DL.kit_bool_list, DL.kit_bool_dict, DL.kit_int_bool, DL.kit_int_int, DL.kit_int_str, DL.kit_int_tuple, DL.kit_int_list, DL.kit_int_dict, DL.kit_str_bool, DL.kit_str_int, DL.kit_str_str, DL.kit_str_tuple, DL.kit_str_list, DL.kit_str_dict, DL.kit_tuple_bool, DL.kit_tuple_int, DL.kit_tuple_str, DL.kit_tuple_tuple, DL.kit_tuple_list, DL.kit_tuple_dict, DL.kit_list_bool, DL.kit_list_int, DL.kit_list_str, DL.kit_list_tuple, DL.kit_list_list, DL.kit_list_dict, reduceIte, cntD_n, cntD_s, List.map_cons, List.map_nil, List.length_cons, List.length_nil, List.replicate, List.cons_append, List.nil_append, List.getElem?_cons_zero, List.getElem?_cons_succ, List.set_cons_zero, List.set_cons_succ, onSome, atI_0, atI_1, atI_2, atI_3, atI_4, w_nw, w_na, w_nh, w_ng, w_wn, w_wa, w_wh, w_wg, w_an, w_aw, w_ah, w_ag, w_hn, w_hw, w_ha, w_hg, w_gn, w_gw, w_ga, w_gh, w_self, Bool.false_eq_true, if_false, if_true, Nat.reduceAdd, Nat.reduceSub]
    have e : (a.map fun b => inBox b p).any id = inArea a p := by
      rw [List.any_map]
      rfl
    rw [e]
    exact rt_D q
end K18
set_option linter.all false
set_option maxRecDepth 100000
set_option maxHeartbeats 4000000
namespace K18
open PySem L2 DL
theorem take_cast (t : Nat) : ((t : Nat) : Int) + 1 = ((t + 1 : Nat) : Int) := by omega
theorem r_u_law_breaks : ∀ ds μ Q, s_u_law_breaks ds μ Q → w_u_law_breaks (endD Q) (startD 7 ds) μ := by
  rintro ds μ Q ⟨n, w, ps, t, rfl, hw, hps, hn, ht, q⟩
  unfold w_u_law_breaks
  have hin : ∀ {a : List Box}, AreaOk n a → ∀ p ∈ ps.take (t + 1), ∀ ν (k : DK), k (.bl (inArea a p)) ν → s_u_law_in [areaD a, placeD p] ν k := fun ha p hp ν k hk =>
    ⟨n, _, p, rfl, ha, hps.ax p (List.mem_of_mem_take hp), hn, hk⟩
  have hlen : ((ps.map placeD).take (t + 1)).length ≤ sizeLine := by
    rw [List.length_take, List.length_map]
    exact sz_le (by have := hps.few; omega)
  have here_len : ∀ a, (hereF a ps t).length = t + 1 := fun a => by
    unfold hereF
    rw [List.length_map, List.length_take]
    omega
  have here_at : ∀ a s, s ≤ t → ((hereF a ps t).map DV.bl)[s]? = some (.bl ((hereF a ps t).getD s false)) := fun a s hs => by
    rw [List.getElem?_map, List.getD_eq_getElem?_getD, List.getElem?_eq_getElem (by rw [here_len]; omega)]
    rfl
  have fin : ∀ a, (ps.take (t + 1)).map (fun p => DV.bl (inArea a p)) = (hereF a ps t).map DV.bl := fun a => by
    unfold hereF
    rw [List.map_map]
    rfl
  have anyv : ∀ (l : List Bool), boolsD (l.map DV.bl) = some l := fun l => by
    have z := boolsD_map (fun b : Bool => b) l
    rw [List.map_id'] at z
    exact z
  simp only [placesD]
  cases w with
  | never a =>
    simp only [DL.wSeq, DL.wAsg, DL.wOp, DL.wVar, DL.wC, DL.wIx, DL.gdName, DL.startD, wishD, DL.pv_, DL.wIfS, DL.wTest, DL.wRet, DL.wIf, DL.wCall, DL.wCons, DL.wNil, DL.wNext, DL.wEq, DL.wNe, DL.wIsN, DL.wNotN, DL.isNonD, DL.onBl, DL.wAndV, DL.wOrV, DL.wNotV, DL.wAnd, DL.wOr, DL.wNot, DL.wCB, DL.wLen, DL.wInt, DL.wAbs, DL.wMax2, DL.wMin2, DL.wTupOf, DL.wUn, DL.wU, DL.wI0, DL.wI, DL.wTup, DL.wLst, DL.wPar, DL.wPar3, DL.wDrop, DL.wSl, DL.wSlL, DL.wPart, DL.wNoPart, DL.endD, DL.wLc, DL.lcStep, DL.wipeD, DL.wYes, DL.gdTup, DL.gdCons, DL.gdNil, DL.idTup, DL.idLst, DL.idEnumL, DL.idEnumT, DL.idZip, DL.idRng1, DL.idRng2, DL.wAny, DL.wAll, DL.wChain, DL.wFor, DL.wWhile, DL.wAppend, DL.wLstM, DL.gdSub, DL.wIsi, DL.tyD, true_and, DL.sz_0, DL.sz_1, DL.sz_2, DL.sz_3, DL.sz_4, DL.sz_5, DL.sz_6, DL.sz_7, DL.sz_8, DL.sz_9, DL.sz_10, DL.sz_11, DL.sz_12, DL.sz_13, DL.sz_14, DL.sz_15, DL.sz_16, DL.sz_17, DL.sz_18, DL.sz_19, DL.sz_20, DL.sz_21, DL.sz_22, DL.sz_23, DL.sz_24, DL.sz_25, DL.sz_26, DL.ixN50, DL.ixN51, DL.ixN52, DL.ixN53, DL.ixN54, DL.Mu.set_same, DL.Mu.set_set, eq_self, decide_true, Bool.not_true, Bool.not_false, Bool.or_false, Bool.or_true, Bool.true_or, Bool.false_or, DL.kit_NoneType_bool, DL.kit_NoneType_int, DL.kit_NoneType_str, DL.kit_NoneType_tuple, DL.kit_NoneType_list, DL.kit_NoneType_dict, DL.kit_bool_bool, DL.kit_bool_int, DL.kit_bool_str, DL.kit_bool_tuple, DL.kit_bool_list, DL.kit_bool_dict, DL.kit_int_bool, DL.kit_int_int, DL.kit_int_str, DL.kit_int_tuple, DL.kit_int_list, DL.kit_int_dict, DL.kit_str_bool, DL.kit_str_int, DL.kit_str_str, DL.kit_str_tuple, DL.kit_str_list, DL.kit_str_dict, DL.kit_tuple_bool, DL.kit_tuple_int, DL.kit_tuple_str, DL.kit_tuple_tuple, DL.kit_tuple_list, DL.kit_tuple_dict, DL.kit_list_bool, DL.kit_list_int, DL.kit_list_str, DL.kit_list_tuple, DL.kit_list_list, DL.kit_list_dict, reduceIte, cntD_n, cntD_s, List.map_cons, List.map_nil, List.length_cons, List.length_nil, List.replicate, List.cons_append, List.nil_append, List.getElem?_cons_zero, List.getElem?_cons_succ, List.set_cons_zero, List.set_cons_succ, onSome, atI_0, atI_1, atI_2, atI_3, atI_4, w_nw, w_na, w_nh, w_ng, w_wn, w_wa, w_wh, w_wg, w_an, w_aw, w_ah, w_ag, w_hn, w_hw, w_ha, w_hg, w_gn, w_gw, w_ga, w_gh, w_self, Bool.false_eq_true, if_false, if_true, Nat.reduceAdd, Nat.reduceSub]
    rw [take_cast, cut_take, ← List.map_take]
    refine ⟨by rw [List.map_take]; exact hlen, fun D hD => lcW_map placeD (fun p => .bl (inArea a p)) (ps.take (t + 1)) μ _ hD (fun p hp ν k hk => ?_) ?_⟩
    · simp only [DL.wSeq, DL.wAsg, DL.wOp, DL.wVar, DL.wC, DL.wIx, DL.gdName, DL.startD, wishD, DL.pv_, DL.wIfS, DL.wTest, DL.wRet, DL.wIf, DL.wCall, DL.wCons, DL.wNil, DL.wNext, DL.wEq, DL.wNe, DL.wIsN, DL.wNotN, DL.isNonD, DL.onBl, DL.wAndV, DL.wOrV, DL.wNotV, DL.wAnd, DL.wOr, DL.wNot, DL.wCB, DL.wLen, DL.wInt, DL.wAbs, DL.wMax2, DL.wMin2, DL.wTupOf, DL.wUn, DL.wU, DL.wI0, DL.wI, DL.wTup, DL.wLst, DL.wPar, DL.wPar3, DL.wDrop, DL.wSl, DL.wSlL, DL.wPart, DL.wNoPart, DL.endD, DL.wLc, DL.lcStep, DL.wipeD, DL.wYes, DL.gdTup, DL.gdCons, DL.gdNil, DL.idTup, DL.idLst, DL.idEnumL, DL.idEnumT, DL.idZip, DL.idRng1, DL.idRng2, DL.wAny, DL.wAll, DL.wChain, DL.wFor, DL.wWhile, DL.wAppend, DL.wLstM, DL.gdSub, DL.wIsi, DL.tyD, true_and, DL.sz_0, DL.sz_1, DL.sz_2, DL.sz_3, DL.sz_4, DL.sz_5, DL.sz_6, DL.sz_7, DL.sz_8, DL.sz_9, DL.sz_10, DL.sz_11, DL.sz_12, DL.sz_13, DL.sz_14, DL.sz_15, DL.sz_16, DL.sz_17, DL.sz_18, DL.sz_19, DL.sz_20, DL.sz_21, DL.sz_22, DL.sz_23, DL.sz_24, DL.sz_25, DL.sz_26, DL.ixN50, DL.ixN51, DL.ixN52, DL.ixN53, DL.ixN54, DL.Mu.set_same, DL.Mu.set_set, eq_self, decide_true, Bool.not_true, Bool.not_false, Bool.or_false, Bool.or_true, Bool.true_or, Bool.false_or, DL.kit_NoneType_bool, DL.kit_NoneType_int, DL.kit_NoneType_str, DL.kit_NoneType_tuple, DL.kit_NoneType_list, DL.kit_NoneType_dict, DL.kit_bool_bool, DL.kit_bool_int, DL.kit_bool_str, DL.kit_bool_tuple, DL.kit_bool_list, DL.kit_bool_dict, DL.kit_int_bool, DL.kit_int_int, DL.kit_int_str, DL.kit_int_tuple, DL.kit_int_list, DL.kit_int_dict, DL.kit_str_bool, DL.kit_str_int, DL.kit_str_str, DL.kit_str_tuple, DL.kit_str_list, DL.kit_str_dict, DL.kit_tuple_bool, DL.kit_tuple_int, DL.kit_tuple_str, DL.kit_tuple_tuple, DL.kit_tuple_list, DL.kit_tuple_dict, DL.kit_list_bool, DL.kit_list_int, DL.kit_list_str, DL.kit_list_tuple, DL.kit_list_list, DL.kit_list_dict, reduceIte, cntD_n, cntD_s, List.map_cons, List.map_nil, List.length_cons, List.length_nil, List.replicate, List.cons_append, List.nil_append, List.getElem?_cons_zero, List.getElem?_cons_succ, List.set_cons_zero, List.set_cons_succ, onSome, atI_0, atI_1, atI_2, atI_3, atI_4, w_nw, w_na, w_nh, w_ng, w_wn, w_wa, w_wh, w_wg, w_an, w_aw, w_ah, w_ag, w_hn, w_hw, w_ha, w_hg, w_gn, w_gw, w_ga, w_gh, w_self, Bool.false_eq_true, if_false, if_true, Nat.reduceAdd, Nat.reduceSub]
      exact hin hw p hp ν _ hk
    · simp only [DL.wSeq, DL.wAsg, DL.wOp, DL.wVar, DL.wC, DL.wIx, DL.gdName, DL.startD, wishD, DL.pv_, DL.wIfS, DL.wTest, DL.wRet, DL.wIf, DL.wCall, DL.wCons, DL.wNil, DL.wNext, DL.wEq, DL.wNe, DL.wIsN, DL.wNotN, DL.isNonD, DL.onBl, DL.wAndV, DL.wOrV, DL.wNotV, DL.wAnd, DL.wOr, DL.wNot, DL.wCB, DL.wLen, DL.wInt, DL.wAbs, DL.wMax2, DL.wMin2, DL.wTupOf, DL.wUn, DL.wU, DL.wI0, DL.wI, DL.wTup, DL.wLst, DL.wPar, DL.wPar3, DL.wDrop, DL.wSl, DL.wSlL, DL.wPart, DL.wNoPart, DL.endD, DL.wLc, DL.lcStep, DL.wipeD, DL.wYes, DL.gdTup, DL.gdCons, DL.gdNil, DL.idTup, DL.idLst, DL.idEnumL, DL.idEnumT, DL.idZip, DL.idRng1, DL.idRng2, DL.wAny, DL.wAll, DL.wChain, DL.wFor, DL.wWhile, DL.wAppend, DL.wLstM, DL.gdSub, DL.wIsi, DL.tyD, true_and, DL.sz_0, DL.sz_1, DL.sz_2, DL.sz_3, DL.sz_4, DL.sz_5, DL.sz_6, DL.sz_7, DL.sz_8, DL.sz_9, DL.sz_10, DL.sz_11, DL.sz_12, DL.sz_13, DL.sz_14, DL.sz_15, DL.sz_16, DL.sz_17, DL.sz_18, DL.sz_19, DL.sz_20, DL.sz_21, DL.sz_22, DL.sz_23, DL.sz_24, DL.sz_25, DL.sz_26, DL.ixN50, DL.ixN51, DL.ixN52, DL.ixN53, DL.ixN54, DL.Mu.set_same, DL.Mu.set_set, eq_self, decide_true, Bool.not_true, Bool.not_false, Bool.or_false, Bool.or_true, Bool.true_or, Bool.false_or, DL.kit_NoneType_bool, DL.kit_NoneType_int, DL.kit_NoneType_str, DL.kit_NoneType_tuple, DL.kit_NoneType_list, DL.kit_NoneType_dict, DL.kit_bool_bool, DL.kit_bool_int, DL.kit_bool_str, DL.kit_bool_tuple, DL.kit_bool_list, DL.kit_bool_dict, DL.kit_int_bool, DL.kit_int_int, DL.kit_int_str, DL.kit_int_tuple, DL.kit_int_list, DL.kit_int_dict, DL.kit_str_bool, DL.kit_str_int, DL.kit_str_str, DL.kit_str_tuple, DL.kit_str_list, DL.kit_str_dict, DL.kit_tuple_bool, DL.kit_tuple_int, DL.kit_tuple_str, DL.kit_tuple_tuple, DL.kit_tuple_list, DL.kit_tuple_dict, DL.kit_list_bool, DL.kit_list_int, DL.kit_list_str, DL.kit_list_tuple, DL.kit_list_list, DL.kit_list_dict, reduceIte, cntD_n, cntD_s, List.map_cons, List.map_nil, List.length_cons, List.length_nil, List.replicate, List.cons_append, List.nil_append, List.getElem?_cons_zero, List.getElem?_cons_succ, List.set_cons_zero, List.set_cons_succ, onSome, atI_0, atI_1, atI_2, atI_3, atI_4, w_nw, w_na, w_nh, w_ng, w_wn, w_wa, w_wh, w_wg, w_an, w_aw, w_ah, w_ag, w_hn, w_hw, w_ha, w_hg, w_gn, w_gw, w_ga, w_gh, w_self, Bool.false_eq_true, if_false, if_true, Nat.reduceAdd, Nat.reduceSub]
      rw [fin, atI_nat (here_at a t (Nat.le_refl _))]
      simp only [DL.wSeq, DL.wAsg, DL.wOp, DL.wVar, DL.wC, DL.wIx, DL.gdName, DL.startD, wishD, DL.pv_, DL.wIfS, DL.wTest, DL.wRet, DL.wIf, DL.wCall, DL.wCons, DL.wNil, DL.wNext, DL.wEq, DL.wNe, DL.wIsN, DL.wNotN, DL.isNonD, DL.onBl, DL.wAndV, DL.wOrV, DL.wNotV, DL.wAnd, DL.wOr, DL.wNot, DL.wCB, DL.wLen, DL.wInt, DL.wAbs, DL.wMax2, DL.wMin2, DL.wTupOf, DL.wUn, DL.wU, DL.wI0, DL.wI, DL.wTup, DL.wLst, DL.wPar, DL.wPar3, DL.wDrop, DL.wSl, DL.wSlL, DL.wPart, DL.wNoPart, DL.endD, DL.wLc, DL.lcStep, DL.wipeD, DL.wYes, DL.gdTup, DL.gdCons, DL.gdNil, DL.idTup, DL.idLst, DL.idEnumL, DL.idEnumT, DL.idZip, DL.idRng1, DL.idRng2, DL.wAny, DL.wAll, DL.wChain, DL.wFor, DL.wWhile, DL.wAppend, DL.wLstM, DL.gdSub, DL.wIsi, DL.tyD, true_and, DL.sz_0, DL.sz_1, DL.sz_2, DL.sz_3, DL.sz_4, DL.sz_5, DL.sz_6, DL.sz_7, DL.sz_8, DL.sz_9, DL.sz_10, DL.sz_11, DL.sz_12, DL.sz_13, DL.sz_14, DL.sz_15, DL.sz_16, DL.sz_17, DL.sz_18, DL.sz_19, DL.sz_20, DL.sz_21, DL.sz_22, DL.sz_23, DL.sz_24, DL.sz_25, DL.sz_26, DL.ixN50, DL.ixN51, DL.ixN52, DL.ixN53, DL.ixN54, DL.Mu.set_same, DL.Mu.set_set, eq_self, decide_true, Bool.not_true, Bool.not_false, Bool.or_false, Bool.or_true, Bool.true_or, Bool.false_or, DL.kit_NoneType_bool, DL.kit_NoneType_int, DL.kit_NoneType_str, DL.kit_NoneType_tuple, DL.kit_NoneType_list, DL.kit_NoneType_dict, DL.kit_bool_bool, DL.kit_bool_int, DL.kit_bool_str, DL.kit_bool_tuple, DL.kit_bool_list, DL.kit_bool_dict, DL.kit_int_bool, DL.kit_int_int, DL.kit_int_str, DL.kit_int_tuple, DL.kit_int_list, DL.kit_int_dict, DL.kit_str_bool, DL.kit_str_int, DL.kit_str_str, DL.kit_str_tuple, DL.kit_str_list, DL.kit_str_dict, DL.kit_tuple_bool, DL.kit_tuple_int, DL.kit_tuple_str, DL.kit_tuple_tuple, DL.kit_tuple_list, DL.kit_tuple_dict, DL.kit_list_bool, DL.kit_list_int, DL.kit_list_str, DL.kit_list_tuple, DL.kit_list_list, DL.kit_list_dict, reduceIte, cntD_n, cntD_s, List.map_cons, List.map_nil, List.length_cons, List.length_nil, List.replicate, List.cons_append, List.nil_append, List.getElem?_cons_zero, List.getElem?_cons_succ, List.set_cons_zero, List.set_cons_succ, onSome, atI_0, atI_1, atI_2, atI_3, atI_4, w_nw, w_na, w_nh, w_ng, w_wn, w_wa, w_wh, w_wg, w_an, w_aw, w_ah, w_ag, w_hn, w_hw, w_ha, w_hg, w_gn, w_gw, w_ga, w_gh, w_self, Bool.false_eq_true, if_false, if_true, Nat.reduceAdd, Nat.reduceSub]
      exact rt_D q
  | within a kk =>
    simp only [DL.wSeq, DL.wAsg, DL.wOp, DL.wVar, DL.wC, DL.wIx, DL.gdName, DL.startD, wishD, DL.pv_, DL.wIfS, DL.wTest, DL.wRet, DL.wIf, DL.wCall, DL.wCons, DL.wNil, DL.wNext, DL.wEq, DL.wNe, DL.wIsN, DL.wNotN, DL.isNonD, DL.onBl, DL.wAndV, DL.wOrV, DL.wNotV, DL.wAnd, DL.wOr, DL.wNot, DL.wCB, DL.wLen, DL.wInt, DL.wAbs, DL.wMax2, DL.wMin2, DL.wTupOf, DL.wUn, DL.wU, DL.wI0, DL.wI, DL.wTup, DL.wLst, DL.wPar, DL.wPar3, DL.wDrop, DL.wSl, DL.wSlL, DL.wPart, DL.wNoPart, DL.endD, DL.wLc, DL.lcStep, DL.wipeD, DL.wYes, DL.gdTup, DL.gdCons, DL.gdNil, DL.idTup, DL.idLst, DL.idEnumL, DL.idEnumT, DL.idZip, DL.idRng1, DL.idRng2, DL.wAny, DL.wAll, DL.wChain, DL.wFor, DL.wWhile, DL.wAppend, DL.wLstM, DL.gdSub, DL.wIsi, DL.tyD, true_and, DL.sz_0, DL.sz_1, DL.sz_2, DL.sz_3, DL.sz_4, DL.sz_5, DL.sz_6, DL.sz_7, DL.sz_8, DL.sz_9, DL.sz_10, DL.sz_11, DL.sz_12, DL.sz_13, DL.sz_14, DL.sz_15, DL.sz_16, DL.sz_17, DL.sz_18, DL.sz_19, DL.sz_20, DL.sz_21, DL.sz_22, DL.sz_23, DL.sz_24, DL.sz_25, DL.sz_26, DL.ixN50, DL.ixN51, DL.ixN52, DL.ixN53, DL.ixN54, DL.Mu.set_same, DL.Mu.set_set, eq_self, decide_true, Bool.not_true, Bool.not_false, Bool.or_false, Bool.or_true, Bool.true_or, Bool.false_or, DL.kit_NoneType_bool, DL.kit_NoneType_int, DL.kit_NoneType_str, DL.kit_NoneType_tuple, DL.kit_NoneType_list, DL.kit_NoneType_dict, DL.kit_bool_bool, DL.kit_bool_int, DL.kit_bool_str, DL.kit_bool_tuple, DL.kit_bool_list, DL.kit_bool_dict, DL.kit_int_bool, DL.kit_int_int, DL.kit_int_str, DL.kit_int_tuple, DL.kit_int_list, DL.kit_int_dict, DL.kit_str_bool, DL.kit_str_int, DL.kit_str_str, DL.kit_str_tuple, DL.kit_str_list, DL.kit_str_dict, DL.kit_tuple_bool, DL.kit_tuple_int, DL.kit_tuple_str, DL.kit_tuple_tuple, DL.kit_tuple_list, DL.kit_tuple_dict, DL.kit_list_bool, DL.kit_list_int, DL.kit_list_str, DL.kit_list_tuple, DL.kit_list_list, DL.kit_list_dict, reduceIte, cntD_n, cntD_s, List.map_cons, List.map_nil, List.length_cons, List.length_nil, List.replicate, List.cons_append, List.nil_append, List.getElem?_cons_zero, List.getElem?_cons_succ, List.set_cons_zero, List.set_cons_succ, onSome, atI_0, atI_1, atI_2, atI_3, atI_4, w_nw, w_na, w_nh, w_ng, w_wn, w_wa, w_wh, w_wg, w_an, w_aw, w_ah, w_ag, w_hn, w_hw, w_ha, w_hg, w_gn, w_gw, w_ga, w_gh, w_self, Bool.false_eq_true, if_false, if_true, Nat.reduceAdd, Nat.reduceSub]
    rw [take_cast, cut_take, ← List.map_take]
    refine ⟨by rw [List.map_take]; exact hlen, fun D hD => lcW_map placeD (fun p => .bl (inArea a p)) (ps.take (t + 1)) μ _ hD (fun p hp ν k hk => ?_) ?_⟩
    · simp only [DL.wSeq, DL.wAsg, DL.wOp, DL.wVar, DL.wC, DL.wIx, DL.gdName, DL.startD, wishD, DL.pv_, DL.wIfS, DL.wTest, DL.wRet, DL.wIf, DL.wCall, DL.wCons, DL.wNil, DL.wNext, DL.wEq, DL.wNe, DL.wIsN, DL.wNotN, DL.isNonD, DL.onBl, DL.wAndV, DL.wOrV, DL.wNotV, DL.wAnd, DL.wOr, DL.wNot, DL.wCB, DL.wLen, DL.wInt, DL.wAbs, DL.wMax2, DL.wMin2, DL.wTupOf, DL.wUn, DL.wU, DL.wI0, DL.wI, DL.wTup, DL.wLst, DL.wPar, DL.wPar3, DL.wDrop, DL.wSl, DL.wSlL, DL.wPart, DL.wNoPart, DL.endD, DL.wLc, DL.lcStep, DL.wipeD, DL.wYes, DL.gdTup, DL.gdCons, DL.gdNil, DL.idTup, DL.idLst, DL.idEnumL, DL.idEnumT, DL.idZip, DL.idRng1, DL.idRng2, DL.wAny, DL.wAll, DL.wChain, DL.wFor, DL.wWhile, DL.wAppend, DL.wLstM, DL.gdSub, DL.wIsi, DL.tyD, true_and, DL.sz_0, DL.sz_1, DL.sz_2, DL.sz_3, DL.sz_4, DL.sz_5, DL.sz_6, DL.sz_7, DL.sz_8, DL.sz_9, DL.sz_10, DL.sz_11, DL.sz_12, DL.sz_13, DL.sz_14, DL.sz_15, DL.sz_16, DL.sz_17, DL.sz_18, DL.sz_19, DL.sz_20, DL.sz_21, DL.sz_22, DL.sz_23, DL.sz_24, DL.sz_25, DL.sz_26, DL.ixN50, DL.ixN51, DL.ixN52, DL.ixN53, DL.ixN54, DL.Mu.set_same, DL.Mu.set_set, eq_self, decide_true, Bool.not_true, Bool.not_false, Bool.or_false, Bool.or_true, Bool.true_or, Bool.false_or, DL.kit_NoneType_bool, DL.kit_NoneType_int, DL.kit_NoneType_str, DL.kit_NoneType_tuple, DL.kit_NoneType_list, DL.kit_NoneType_dict, DL.kit_bool_bool, DL.kit_bool_int, DL.kit_bool_str, DL.kit_bool_tuple, DL.kit_bool_list, DL.kit_bool_dict, DL.kit_int_bool, DL.kit_int_int, DL.kit_int_str, DL.kit_int_tuple, DL.kit_int_list, DL.kit_int_dict, DL.kit_str_bool, DL.kit_str_int, DL.kit_str_str, DL.kit_str_tuple, DL.kit_str_list, DL.kit_str_dict, DL.kit_tuple_bool, DL.kit_tuple_int, DL.kit_tuple_str, DL.kit_tuple_tuple, DL.kit_tuple_list, DL.kit_tuple_dict, DL.kit_list_bool, DL.kit_list_int, DL.kit_list_str, DL.kit_list_tuple, DL.kit_list_list, DL.kit_list_dict, reduceIte, cntD_n, cntD_s, List.map_cons, List.map_nil, List.length_cons, List.length_nil, List.replicate, List.cons_append, List.nil_append, List.getElem?_cons_zero, List.getElem?_cons_succ, List.set_cons_zero, List.set_cons_succ, onSome, atI_0, atI_1, atI_2, atI_3, atI_4, w_nw, w_na, w_nh, w_ng, w_wn, w_wa, w_wh, w_wg, w_an, w_aw, w_ah, w_ag, w_hn, w_hw, w_ha, w_hg, w_gn, w_gw, w_ga, w_gh, w_self, Bool.false_eq_true, if_false, if_true, Nat.reduceAdd, Nat.reduceSub]
      exact hin hw.1 p hp ν _ hk
    · simp only [DL.wSeq, DL.wAsg, DL.wOp, DL.wVar, DL.wC, DL.wIx, DL.gdName, DL.startD, wishD, DL.pv_, DL.wIfS, DL.wTest, DL.wRet, DL.wIf, DL.wCall, DL.wCons, DL.wNil, DL.wNext, DL.wEq, DL.wNe, DL.wIsN, DL.wNotN, DL.isNonD, DL.onBl, DL.wAndV, DL.wOrV, DL.wNotV, DL.wAnd, DL.wOr, DL.wNot, DL.wCB, DL.wLen, DL.wInt, DL.wAbs, DL.wMax2, DL.wMin2, DL.wTupOf, DL.wUn, DL.wU, DL.wI0, DL.wI, DL.wTup, DL.wLst, DL.wPar, DL.wPar3, DL.wDrop, DL.wSl, DL.wSlL, DL.wPart, DL.wNoPart, DL.endD, DL.wLc, DL.lcStep, DL.wipeD, DL.wYes, DL.gdTup, DL.gdCons, DL.gdNil, DL.idTup, DL.idLst, DL.idEnumL, DL.idEnumT, DL.idZip, DL.idRng1, DL.idRng2, DL.wAny, DL.wAll, DL.wChain, DL.wFor, DL.wWhile, DL.wAppend, DL.wLstM, DL.gdSub, DL.wIsi, DL.tyD, true_and, DL.sz_0, DL.sz_1, DL.sz_2, DL.sz_3, DL.sz_4, DL.sz_5, DL.sz_6, DL.sz_7, DL.sz_8, DL.sz_9, DL.sz_10, DL.sz_11, DL.sz_12, DL.sz_13, DL.sz_14, DL.sz_15, DL.sz_16, DL.sz_17, DL.sz_18, DL.sz_19, DL.sz_20, DL.sz_21, DL.sz_22, DL.sz_23, DL.sz_24, DL.sz_25, DL.sz_26, DL.ixN50, DL.ixN51, DL.ixN52, DL.ixN53, DL.ixN54, DL.Mu.set_same, DL.Mu.set_set, eq_self, decide_true, Bool.not_true, Bool.not_false, Bool.or_false, Bool.or_true, Bool.true_or, Bool.false_or, DL.kit_NoneType_bool, DL.kit_NoneType_int, DL.kit_NoneType_str, DL.kit_NoneType_tuple, DL.kit_NoneType_list, DL.kit_NoneType_dict, DL.kit_bool_bool, DL.kit_bool_int, DL.kit_bool_str, DL.kit_bool_tuple, DL.kit_bool_list, DL.kit_bool_dict, DL.kit_int_bool, DL.kit_int_int, DL.kit_int_str, DL.kit_int_tuple, DL.kit_int_list, DL.kit_int_dict, DL.kit_str_bool, DL.kit_str_int, DL.kit_str_str, DL.kit_str_tuple, DL.kit_str_list, DL.kit_str_dict, DL.kit_tuple_bool, DL.kit_tuple_int, DL.kit_tuple_str, DL.kit_tuple_tuple, DL.kit_tuple_list, DL.kit_tuple_dict, DL.kit_list_bool, DL.kit_list_int, DL.kit_list_str, DL.kit_list_tuple, DL.kit_list_list, DL.kit_list_dict, reduceIte, cntD_n, cntD_s, List.map_cons, List.map_nil, List.length_cons, List.length_nil, List.replicate, List.cons_append, List.nil_append, List.getElem?_cons_zero, List.getElem?_cons_succ, List.set_cons_zero, List.set_cons_succ, onSome, atI_0, atI_1, atI_2, atI_3, atI_4, w_nw, w_na, w_nh, w_ng, w_wn, w_wa, w_wh, w_wg, w_an, w_aw, w_ah, w_ag, w_hn, w_hw, w_ha, w_hg, w_gn, w_gw, w_ga, w_gh, w_self, Bool.false_eq_true, if_false, if_true, Nat.reduceAdd, Nat.reduceSub]
      rw [fin, anyv]
      simp only [DL.wSeq, DL.wAsg, DL.wOp, DL.wVar, DL.wC, DL.wIx, DL.gdName, DL.startD, wishD, DL.pv_, DL.wIfS, DL.wTest, DL.wRet, DL.wIf, DL.wCall, DL.wCons, DL.wNil, DL.wNext, DL.wEq, DL.wNe, DL.wIsN, DL.wNotN, DL.isNonD, DL.onBl, DL.wAndV, DL.wOrV, DL.wNotV, DL.wAnd, DL.wOr, DL.wNot, DL.wCB, DL.wLen, DL.wInt, DL.wAbs, DL.wMax2, DL.wMin2, DL.wTupOf, DL.wUn, DL.wU, DL.wI0, DL.wI, DL.wTup, DL.wLst, DL.wPar, DL.wPar3, DL.wDrop, DL.wSl, DL.wSlL, DL.wPart, DL.wNoPart, DL.endD, DL.wLc, DL.lcStep, DL.wipeD, DL.wYes, DL.gdTup, DL.gdCons, DL.gdNil, DL.idTup, DL.idLst, DL.idEnumL, DL.idEnumT, DL.idZip, DL.idRng1, DL.idRng2, DL.wAny, DL.wAll, DL.wChain, DL.wFor, DL.wWhile, DL.wAppend, DL.wLstM, DL.gdSub, DL.wIsi, DL.tyD, true_and, DL.sz_0, DL.sz_1, DL.sz_2, DL.sz_3, DL.sz_4, DL.sz_5, DL.sz_6, DL.sz_7, DL.sz_8, DL.sz_9, DL.sz_10, DL.sz_11, DL.sz_12, DL.sz_13, DL.sz_14, DL.sz_15, DL.sz_16, DL.sz_17, DL.sz_18, DL.sz_19, DL.sz_20, DL.sz_21, DL.sz_22, DL.sz_23, DL.sz_24, DL.sz_25, DL.sz_26, DL.ixN50, DL.ixN51, DL.ixN52, DL.ixN53, DL.ixN54, DL.Mu.set_same, DL.Mu.set_set, eq_self, decide_true, Bool.not_true, Bool.not_false, Bool.or_false, Bool.or_true, Bool.true_or, Bool.false_or, DL.kit_NoneType_bool, DL.kit_NoneType_int, DL.kit_NoneType_str, DL.kit_NoneType_tuple, DL.kit_NoneType_list, DL.kit_NoneType_dict, DL.kit_bool_bool, DL.kit_bool_int, DL.kit_bool_str, DL.kit_bool_tuple, DL.kit_bool_list, DL.kit_bool_dict, DL.kit_int_bool, DL.kit_int_int, DL.kit_int_str, DL.kit_int_tuple, DL.kit_int_list, DL.kit_int_dict, DL.kit_str_bool, DL.kit_str_int, DL.kit_str_str, DL.kit_str_tuple, DL.kit_str_list, DL.kit_str_dict, DL.kit_tuple_bool, DL.kit_tuple_int, DL.kit_tuple_str, DL.kit_tuple_tuple, DL.kit_tuple_list, DL.kit_tuple_dict, DL.kit_list_bool, DL.kit_list_int, DL.kit_list_str, DL.kit_list_tuple, DL.kit_list_list, DL.kit_list_dict, reduceIte, cntD_n, cntD_s, List.map_cons, List.map_nil, List.length_cons, List.length_nil, List.replicate, List.cons_append, List.nil_append, List.getElem?_cons_zero, List.getElem?_cons_succ, List.set_cons_zero, List.set_cons_succ, onSome, atI_0, atI_1, atI_2, atI_3, atI_4, w_nw, w_na, w_nh, w_ng, w_wn, w_wa, w_wh, w_wg, w_an, w_aw, w_ah, w_ag, w_hn, w_hw, w_ha, w_hg, w_gn, w_gw, w_ga, w_gh, w_self, Bool.false_eq_true, if_false, if_true, Nat.reduceAdd, Nat.reduceSub]
      simp only [breaksF] at q
      by_cases hk : t = kk
      · rw [decide_eq_true (by omega)]
        rw [decide_eq_true hk] at q
        exact rt_D q
      · rw [decide_eq_false (by omega)]
        rw [decide_eq_false hk] at q
        exact rt_D q
  | again a kk =>
    simp only [DL.wSeq, DL.wAsg, DL.wOp, DL.wVar, DL.wC, DL.wIx, DL.gdName, DL.startD, wishD, DL.pv_, DL.wIfS, DL.wTest, DL.wRet, DL.wIf, DL.wCall, DL.wCons, DL.wNil, DL.wNext, DL.wEq, DL.wNe, DL.wIsN, DL.wNotN, DL.isNonD, DL.onBl, DL.wAndV, DL.wOrV, DL.wNotV, DL.wAnd, DL.wOr, DL.wNot, DL.wCB, DL.wLen, DL.wInt, DL.wAbs, DL.wMax2, DL.wMin2, DL.wTupOf, DL.wUn, DL.wU, DL.wI0, DL.wI, DL.wTup, DL.wLst, DL.wPar, DL.wPar3, DL.wDrop, DL.wSl, DL.wSlL, DL.wPart, DL.wNoPart, DL.endD, DL.wLc, DL.lcStep, DL.wipeD, DL.wYes, DL.gdTup, DL.gdCons, DL.gdNil, DL.idTup, DL.idLst, DL.idEnumL, DL.idEnumT, DL.idZip, DL.idRng1, DL.idRng2, DL.wAny, DL.wAll, DL.wChain, DL.wFor, DL.wWhile, DL.wAppend, DL.wLstM, DL.gdSub, DL.wIsi, DL.tyD, true_and, DL.sz_0, DL.sz_1, DL.sz_2, DL.sz_3, DL.sz_4, DL.sz_5, DL.sz_6, DL.sz_7, DL.sz_8, DL.sz_9, DL.sz_10, DL.sz_11, DL.sz_12, DL.sz_13, DL.sz_14, DL.sz_15, DL.sz_16, DL.sz_17, DL.sz_18, DL.sz_19, DL.sz_20, DL.sz_21, DL.sz_22, DL.sz_23, DL.sz_24, DL.sz_25, DL.sz_26, DL.ixN50, DL.ixN51, DL.ixN52, DL.ixN53, DL.ixN54, DL.Mu.set_same, DL.Mu.set_set, eq_self, decide_true, Bool.not_true, Bool.not_false, Bool.or_false, Bool.or_true, Bool.true_or, Bool.false_or, DL.kit_NoneType_bool, DL.kit_NoneType_int, DL.kit_NoneType_str, DL.kit_NoneType_tuple, DL.kit_NoneType_list, DL.kit_NoneType_dict, DL.kit_bool_bool, DL.kit_bool_int, DL.kit_bool_str, DL.kit_bool_tuple, DL.kit_bool_list, DL.kit_bool_dict, DL.kit_int_bool, DL.kit_int_int, DL.kit_int_str, DL.kit_int_tuple, DL.kit_int_list, DL.kit_int_dict, DL.kit_str_bool, DL.kit_str_int, DL.kit_str_str, DL.kit_str_tuple, DL.kit_str_list, DL.kit_str_dict, DL.kit_tuple_bool, DL.kit_tuple_int, DL.kit_tuple_str, DL.kit_tuple_tuple, DL.kit_tuple_list, DL.kit_tuple_dict, DL.kit_list_bool, DL.kit_list_int, DL.kit_list_str, DL.kit_list_tuple, DL.kit_list_list, DL.kit_list_dict, reduceIte, cntD_n, cntD_s, List.map_cons, List.map_nil, List.length_cons, List.length_nil, List.replicate, List.cons_append, List.nil_append, List.getElem?_cons_zero, List.getElem?_cons_succ, List.set_cons_zero, List.set_cons_succ, onSome, atI_0, atI_1, atI_2, atI_3, atI_4, w_nw, w_na, w_nh, w_ng, w_wn, w_wa, w_wh, w_wg, w_an, w_aw, w_ah, w_ag, w_hn, w_hw, w_ha, w_hg, w_gn, w_gw, w_ga, w_gh, w_self, Bool.false_eq_true, if_false, if_true, Nat.reduceAdd, Nat.reduceSub]
    rw [take_cast, cut_take, ← List.map_take]
    refine ⟨by rw [List.map_take]; exact hlen, fun D hD => lcW_map placeD (fun p => .bl (inArea a p)) (ps.take (t + 1)) μ _ hD (fun p hp ν k hk => ?_) ?_⟩
    · simp only [DL.wSeq, DL.wAsg, DL.wOp, DL.wVar, DL.wC, DL.wIx, DL.gdName, DL.startD, wishD, DL.pv_, DL.wIfS, DL.wTest, DL.wRet, DL.wIf, DL.wCall, DL.wCons, DL.wNil, DL.wNext, DL.wEq, DL.wNe, DL.wIsN, DL.wNotN, DL.isNonD, DL.onBl, DL.wAndV, DL.wOrV, DL.wNotV, DL.wAnd, DL.wOr, DL.wNot, DL.wCB, DL.wLen, DL.wInt, DL.wAbs, DL.wMax2, DL.wMin2, DL.wTupOf, DL.wUn, DL.wU, DL.wI0, DL.wI, DL.wTup, DL.wLst, DL.wPar, DL.wPar3, DL.wDrop, DL.wSl, DL.wSlL, DL.wPart, DL.wNoPart, DL.endD, DL.wLc, DL.lcStep, DL.wipeD, DL.wYes, DL.gdTup, DL.gdCons, DL.gdNil, DL.idTup, DL.idLst, DL.idEnumL, DL.idEnumT, DL.idZip, DL.idRng1, DL.idRng2, DL.wAny, DL.wAll, DL.wChain, DL.wFor, DL.wWhile, DL.wAppend, DL.wLstM, DL.gdSub, DL.wIsi, DL.tyD, true_and, DL.sz_0, DL.sz_1, DL.sz_2, DL.sz_3, DL.sz_4, DL.sz_5, DL.sz_6, DL.sz_7, DL.sz_8, DL.sz_9, DL.sz_10, DL.sz_11, DL.sz_12, DL.sz_13, DL.sz_14, DL.sz_15, DL.sz_16, DL.sz_17, DL.sz_18, DL.sz_19, DL.sz_20, DL.sz_21, DL.sz_22, DL.sz_23, DL.sz_24, DL.sz_25, DL.sz_26, DL.ixN50, DL.ixN51, DL.ixN52, DL.ixN53, DL.ixN54, DL.Mu.set_same, DL.Mu.set_set, eq_self, decide_true, Bool.not_true, Bool.not_false, Bool.or_false, Bool.or_true, Bool.true_or, Bool.false_or, DL.kit_NoneType_bool, DL.kit_NoneType_int, DL.kit_NoneType_str, DL.kit_NoneType_tuple, DL.kit_NoneType_list, DL.kit_NoneType_dict, DL.kit_bool_bool, DL.kit_bool_int, DL.kit_bool_str, DL.kit_bool_tuple, DL.kit_bool_list, DL.kit_bool_dict, DL.kit_int_bool, DL.kit_int_int, DL.kit_int_str, DL.kit_int_tuple, DL.kit_int_list, DL.kit_int_dict, DL.kit_str_bool, DL.kit_str_int, DL.kit_str_str, DL.kit_str_tuple, DL.kit_str_list, DL.kit_str_dict, DL.kit_tuple_bool, DL.kit_tuple_int, DL.kit_tuple_str, DL.kit_tuple_tuple, DL.kit_tuple_list, DL.kit_tuple_dict, DL.kit_list_bool, DL.kit_list_int, DL.kit_list_str, DL.kit_list_tuple, DL.kit_list_list, DL.kit_list_dict, reduceIte, cntD_n, cntD_s, List.map_cons, List.map_nil, List.length_cons, List.length_nil, List.replicate, List.cons_append, List.nil_append, List.getElem?_cons_zero, List.getElem?_cons_succ, List.set_cons_zero, List.set_cons_succ, onSome, atI_0, atI_1, atI_2, atI_3, atI_4, w_nw, w_na, w_nh, w_ng, w_wn, w_wa, w_wh, w_wg, w_an, w_aw, w_ah, w_ag, w_hn, w_hw, w_ha, w_hg, w_gn, w_gw, w_ga, w_gh, w_self, Bool.false_eq_true, if_false, if_true, Nat.reduceAdd, Nat.reduceSub]
      exact hin hw.1 p hp ν _ hk
    · simp only [DL.wSeq, DL.wAsg, DL.wOp, DL.wVar, DL.wC, DL.wIx, DL.gdName, DL.startD, wishD, DL.pv_, DL.wIfS, DL.wTest, DL.wRet, DL.wIf, DL.wCall, DL.wCons, DL.wNil, DL.wNext, DL.wEq, DL.wNe, DL.wIsN, DL.wNotN, DL.isNonD, DL.onBl, DL.wAndV, DL.wOrV, DL.wNotV, DL.wAnd, DL.wOr, DL.wNot, DL.wCB, DL.wLen, DL.wInt, DL.wAbs, DL.wMax2, DL.wMin2, DL.wTupOf, DL.wUn, DL.wU, DL.wI0, DL.wI, DL.wTup, DL.wLst, DL.wPar, DL.wPar3, DL.wDrop, DL.wSl, DL.wSlL, DL.wPart, DL.wNoPart, DL.endD, DL.wLc, DL.lcStep, DL.wipeD, DL.wYes, DL.gdTup, DL.gdCons, DL.gdNil, DL.idTup, DL.idLst, DL.idEnumL, DL.idEnumT, DL.idZip, DL.idRng1, DL.idRng2, DL.wAny, DL.wAll, DL.wChain, DL.wFor, DL.wWhile, DL.wAppend, DL.wLstM, DL.gdSub, DL.wIsi, DL.tyD, true_and, DL.sz_0, DL.sz_1, DL.sz_2, DL.sz_3, DL.sz_4, DL.sz_5, DL.sz_6, DL.sz_7, DL.sz_8, DL.sz_9, DL.sz_10, DL.sz_11, DL.sz_12, DL.sz_13, DL.sz_14, DL.sz_15, DL.sz_16, DL.sz_17, DL.sz_18, DL.sz_19, DL.sz_20, DL.sz_21, DL.sz_22, DL.sz_23, DL.sz_24, DL.sz_25, DL.sz_26, DL.ixN50, DL.ixN51, DL.ixN52, DL.ixN53, DL.ixN54, DL.Mu.set_same, DL.Mu.set_set, eq_self, decide_true, Bool.not_true, Bool.not_false, Bool.or_false, Bool.or_true, Bool.true_or, Bool.false_or, DL.kit_NoneType_bool, DL.kit_NoneType_int, DL.kit_NoneType_str, DL.kit_NoneType_tuple, DL.kit_NoneType_list, DL.kit_NoneType_dict, DL.kit_bool_bool, DL.kit_bool_int, DL.kit_bool_str, DL.kit_bool_tuple, DL.kit_bool_list, DL.kit_bool_dict, DL.kit_int_bool, DL.kit_int_int, DL.kit_int_str, DL.kit_int_tuple, DL.kit_int_list, DL.kit_int_dict, DL.kit_str_bool, DL.kit_str_int, DL.kit_str_str, DL.kit_str_tuple, DL.kit_str_list, DL.kit_str_dict, DL.kit_tuple_bool, DL.kit_tuple_int, DL.kit_tuple_str, DL.kit_tuple_tuple, DL.kit_tuple_list, DL.kit_tuple_dict, DL.kit_list_bool, DL.kit_list_int, DL.kit_list_str, DL.kit_list_tuple, DL.kit_list_list, DL.kit_list_dict, reduceIte, cntD_n, cntD_s, List.map_cons, List.map_nil, List.length_cons, List.length_nil, List.replicate, List.cons_append, List.nil_append, List.getElem?_cons_zero, List.getElem?_cons_succ, List.set_cons_zero, List.set_cons_succ, onSome, atI_0, atI_1, atI_2, atI_3, atI_4, w_nw, w_na, w_nh, w_ng, w_wn, w_wa, w_wh, w_wg, w_an, w_aw, w_ah, w_ag, w_hn, w_hw, w_ha, w_hg, w_gn, w_gw, w_ga, w_gh, w_self, Bool.false_eq_true, if_false, if_true, Nat.reduceAdd, Nat.reduceSub]
      rw [fin]
      simp only [breaksF] at q
      by_cases hk : kk ≤ t
      · rw [decide_eq_true (by omega), if_pos rfl, show (t : Int) - kk = ((t - kk : Nat) : Int) by omega, cut_drop, ← List.map_drop, anyv]
        simp only [DL.wSeq, DL.wAsg, DL.wOp, DL.wVar, DL.wC, DL.wIx, DL.gdName, DL.startD, wishD, DL.pv_, DL.wIfS, DL.wTest, DL.wRet, DL.wIf, DL.wCall, DL.wCons, DL.wNil, DL.wNext, DL.wEq, DL.wNe, DL.wIsN, DL.wNotN, DL.isNonD, DL.onBl, DL.wAndV, DL.wOrV, DL.wNotV, DL.wAnd, DL.wOr, DL.wNot, DL.wCB, DL.wLen, DL.wInt, DL.wAbs, DL.wMax2, DL.wMin2, DL.wTupOf, DL.wUn, DL.wU, DL.wI0, DL.wI, DL.wTup, DL.wLst, DL.wPar, DL.wPar3, DL.wDrop, DL.wSl, DL.wSlL, DL.wPart, DL.wNoPart, DL.endD, DL.wLc, DL.lcStep, DL.wipeD, DL.wYes, DL.gdTup, DL.gdCons, DL.gdNil, DL.idTup, DL.idLst, DL.idEnumL, DL.idEnumT, DL.idZip, DL.idRng1, DL.idRng2, DL.wAny, DL.wAll, DL.wChain, DL.wFor, DL.wWhile, DL.wAppend, DL.wLstM, DL.gdSub, DL.wIsi, DL.tyD, true_and, DL.sz_0, DL.sz_1, DL.sz_2, DL.sz_3, DL.sz_4, DL.sz_5, DL.sz_6, DL.sz_7, DL.sz_8, DL.sz_9, DL.sz_10, DL.sz_11, DL.sz_12, DL.sz_13, DL.sz_14, DL.sz_15, DL.sz_16, DL.sz_17, DL.sz_18, DL.sz_19, DL.sz_20, DL.sz_21, DL.sz_22, DL.sz_23, DL.sz_24, DL.sz_25, DL.sz_26, DL.ixN50, DL.ixN51, DL.ixN52, DL.ixN53, DL.ixN54, DL.Mu.set_same, DL.Mu.set_set, eq_self, decide_true, Bool.not_true, Bool.not_false, Bool.or_false, Bool.or_true, Bool.true_or, Bool.false_or, DL.kit_NoneType_bool, DL.kit_NoneType_int, DL.kit_NoneType_str, DL.kit_NoneType_tuple, DL.kit_NoneType_list, DL.kit_NoneType_dict, DL.kit_bool_bool, DL.kit_bool_int, DL.kit_bool_str, DL.kit_bool_tuple, DL.kit_bool_list, DL.kit_bool_dict, DL.kit_int_bool, DL.kit_int_int, DL.kit_int_str, DL.kit_int_tuple, DL.kit_int_list, DL.kit_int_dict, DL.kit_str_bool, DL.kit_str_int, DL.kit_str_str, DL.kit_str_tuple, DL.kit_str_list, DL.kit_str_dict, DL.kit_tuple_bool, DL.kit_tuple_int, DL.kit_tuple_str, DL.kit_tuple_tuple, DL.kit_tuple_list, DL.kit_tuple_dict, DL.kit_list_bool, DL.kit_list_int, DL.kit_list_str, DL.kit_list_tuple, DL.kit_list_list, DL.kit_list_dict, reduceIte, cntD_n, cntD_s, List.map_cons, List.map_nil, List.length_cons, List.length_nil, List.replicate, List.cons_append, List.nil_append, List.getElem?_cons_zero, List.getElem?_cons_succ, List.set_cons_zero, List.set_cons_succ, onSome, atI_0, atI_1, atI_2, atI_3, atI_4, w_nw, w_na, w_nh, w_ng, w_wn, w_wa, w_wh, w_wg, w_an, w_aw, w_ah, w_ag, w_hn, w_hw, w_ha, w_hg, w_gn, w_gw, w_ga, w_gh, w_self, Bool.false_eq_true, if_false, if_true, Nat.reduceAdd, Nat.reduceSub]
        rw [decide_eq_true hk] at q
        exact rt_D q
      · rw [decide_eq_false (by omega)]
        rw [decide_eq_false hk] at q
        exact rt_D q
  | ahead a b =>
    simp only [DL.wSeq, DL.wAsg, DL.wOp, DL.wVar, DL.wC, DL.wIx, DL.gdName, DL.startD, wishD, DL.pv_, DL.wIfS, DL.wTest, DL.wRet, DL.wIf, DL.wCall, DL.wCons, DL.wNil, DL.wNext, DL.wEq, DL.wNe, DL.wIsN, DL.wNotN, DL.isNonD, DL.onBl, DL.wAndV, DL.wOrV, DL.wNotV, DL.wAnd, DL.wOr, DL.wNot, DL.wCB, DL.wLen, DL.wInt, DL.wAbs, DL.wMax2, DL.wMin2, DL.wTupOf, DL.wUn, DL.wU, DL.wI0, DL.wI, DL.wTup, DL.wLst, DL.wPar, DL.wPar3, DL.wDrop, DL.wSl, DL.wSlL, DL.wPart, DL.wNoPart, DL.endD, DL.wLc, DL.lcStep, DL.wipeD, DL.wYes, DL.gdTup, DL.gdCons, DL.gdNil, DL.idTup, DL.idLst, DL.idEnumL, DL.idEnumT, DL.idZip, DL.idRng1, DL.idRng2, DL.wAny, DL.wAll, DL.wChain, DL.wFor, DL.wWhile, DL.wAppend, DL.wLstM, DL.gdSub, DL.wIsi, DL.tyD, true_and, DL.sz_0, DL.sz_1, DL.sz_2, DL.sz_3, DL.sz_4, DL.sz_5, DL.sz_6, DL.sz_7, DL.sz_8, DL.sz_9, DL.sz_10, DL.sz_11, DL.sz_12, DL.sz_13, DL.sz_14, DL.sz_15, DL.sz_16, DL.sz_17, DL.sz_18, DL.sz_19, DL.sz_20, DL.sz_21, DL.sz_22, DL.sz_23, DL.sz_24, DL.sz_25, DL.sz_26, DL.ixN50, DL.ixN51, DL.ixN52, DL.ixN53, DL.ixN54, DL.Mu.set_same, DL.Mu.set_set, eq_self, decide_true, Bool.not_true, Bool.not_false, Bool.or_false, Bool.or_true, Bool.true_or, Bool.false_or, DL.kit_NoneType_bool, DL.kit_NoneType_int, DL.kit_NoneType_str, DL.kit_NoneType_tuple, DL.kit_NoneType_list, DL.kit_NoneType_dict, DL.kit_bool_bool, DL.kit_bool_int, DL.kit_bool_str, DL.kit_bool_tuple, DL.kit_bool_list, DL.kit_bool_dict, DL.kit_int_bool, DL.kit_int_int, DL.kit_int_str, DL.kit_int_tuple, DL.kit_int_list, DL.kit_int_dict, DL.kit_str_bool, DL.kit_str_int, DL.kit_str_str, DL.kit_str_tuple, DL.kit_str_list, DL.kit_str_dict, DL.kit_tuple_bool, DL.kit_tuple_int, DL.kit_tuple_str, DL.kit_tuple_tuple, DL.kit_tuple_list, DL.kit_tuple_dict, DL.kit_list_bool, DL.kit_list_int, DL.kit_list_str, DL.kit_list_tuple, DL.kit_list_list, DL.kit_list_dict, reduceIte, cntD_n, cntD_s, List.map_cons, List.map_nil, List.length_cons, List.length_nil, List.replicate, List.cons_append, List.nil_append, List.getElem?_cons_zero, List.getElem?_cons_succ, List.set_cons_zero, List.set_cons_succ, onSome, atI_0, atI_1, atI_2, atI_3, atI_4, w_nw, w_na, w_nh, w_ng, w_wn, w_wa, w_wh, w_wg, w_an, w_aw, w_ah, w_ag, w_hn, w_hw, w_ha, w_hg, w_gn, w_gw, w_ga, w_gh, w_self, Bool.false_eq_true, if_false, if_true, Nat.reduceAdd, Nat.reduceSub]
    rw [take_cast, cut_take, ← List.map_take]
    refine ⟨by rw [List.map_take]; exact hlen, fun D hD => lcW_map placeD (fun p => .bl (inArea a p)) (ps.take (t + 1)) μ _ hD (fun p hp ν k hk => ?_) ?_⟩
    · simp only [DL.wSeq, DL.wAsg, DL.wOp, DL.wVar, DL.wC, DL.wIx, DL.gdName, DL.startD, wishD, DL.pv_, DL.wIfS, DL.wTest, DL.wRet, DL.wIf, DL.wCall, DL.wCons, DL.wNil, DL.wNext, DL.wEq, DL.wNe, DL.wIsN, DL.wNotN, DL.isNonD, DL.onBl, DL.wAndV, DL.wOrV, DL.wNotV, DL.wAnd, DL.wOr, DL.wNot, DL.wCB, DL.wLen, DL.wInt, DL.wAbs, DL.wMax2, DL.wMin2, DL.wTupOf, DL.wUn, DL.wU, DL.wI0, DL.wI, DL.wTup, DL.wLst, DL.wPar, DL.wPar3, DL.wDrop, DL.wSl, DL.wSlL, DL.wPart, DL.wNoPart, DL.endD, DL.wLc, DL.lcStep, DL.wipeD, DL.wYes, DL.gdTup, DL.gdCons, DL.gdNil, DL.idTup, DL.idLst, DL.idEnumL, DL.idEnumT, DL.idZip, DL.idRng1, DL.idRng2, DL.wAny, DL.wAll, DL.wChain, DL.wFor, DL.wWhile, DL.wAppend, DL.wLstM, DL.gdSub, DL.wIsi, DL.tyD, true_and, DL.sz_0, DL.sz_1, DL.sz_2, DL.sz_3, DL.sz_4, DL.sz_5, DL.sz_6, DL.sz_7, DL.sz_8, DL.sz_9, DL.sz_10, DL.sz_11, DL.sz_12, DL.sz_13, DL.sz_14, DL.sz_15, DL.sz_16, DL.sz_17, DL.sz_18, DL.sz_19, DL.sz_20, DL.sz_21, DL.sz_22, DL.sz_23, DL.sz_24, DL.sz_25, DL.sz_26, DL.ixN50, DL.ixN51, DL.ixN52, DL.ixN53, DL.ixN54, DL.Mu.set_same, DL.Mu.set_set, eq_self, decide_true, Bool.not_true, Bool.not_false, Bool.or_false, Bool.or_true, Bool.true_or, Bool.false_or, DL.kit_NoneType_bool, DL.kit_NoneType_int, DL.kit_NoneType_str, DL.kit_NoneType_tuple, DL.kit_NoneType_list, DL.kit_NoneType_dict, DL.kit_bool_bool, DL.kit_bool_int, DL.kit_bool_str, DL.kit_bool_tuple, DL.kit_bool_list, DL.kit_bool_dict, DL.kit_int_bool, DL.kit_int_int, DL.kit_int_str, DL.kit_int_tuple, DL.kit_int_list, DL.kit_int_dict, DL.kit_str_bool, DL.kit_str_int, DL.kit_str_str, DL.kit_str_tuple, DL.kit_str_list, DL.kit_str_dict, DL.kit_tuple_bool, DL.kit_tuple_int, DL.kit_tuple_str, DL.kit_tuple_tuple, DL.kit_tuple_list, DL.kit_tuple_dict, DL.kit_list_bool, DL.kit_list_int, DL.kit_list_str, DL.kit_list_tuple, DL.kit_list_list, DL.kit_list_dict, reduceIte, cntD_n, cntD_s, List.map_cons, List.map_nil, List.length_cons, List.length_nil, List.replicate, List.cons_append, List.nil_append, List.getElem?_cons_zero, List.getElem?_cons_succ, List.set_cons_zero, List.set_cons_succ, onSome, atI_0, atI_1, atI_2, atI_3, atI_4, w_nw, w_na, w_nh, w_ng, w_wn, w_wa, w_wh, w_wg, w_an, w_aw, w_ah, w_ag, w_hn, w_hw, w_ha, w_hg, w_gn, w_gw, w_ga, w_gh, w_self, Bool.false_eq_true, if_false, if_true, Nat.reduceAdd, Nat.reduceSub]
      exact hin hw.1 p hp ν _ hk
    · simp only [DL.wSeq, DL.wAsg, DL.wOp, DL.wVar, DL.wC, DL.wIx, DL.gdName, DL.startD, wishD, DL.pv_, DL.wIfS, DL.wTest, DL.wRet, DL.wIf, DL.wCall, DL.wCons, DL.wNil, DL.wNext, DL.wEq, DL.wNe, DL.wIsN, DL.wNotN, DL.isNonD, DL.onBl, DL.wAndV, DL.wOrV, DL.wNotV, DL.wAnd, DL.wOr, DL.wNot, DL.wCB, DL.wLen, DL.wInt, DL.wAbs, DL.wMax2, DL.wMin2, DL.wTupOf, DL.wUn, DL.wU, DL.wI0, DL.wI, DL.wTup, DL.wLst, DL.wPar, DL.wPar3, DL.wDrop, DL.wSl, DL.wSlL, DL.wPart, DL.wNoPart, DL.endD, DL.wLc, DL.lcStep, DL.wipeD, DL.wYes, DL.gdTup, DL.gdCons, DL.gdNil, DL.idTup, DL.idLst, DL.idEnumL, DL.idEnumT, DL.idZip, DL.idRng1, DL.idRng2, DL.wAny, DL.wAll, DL.wChain, DL.wFor, DL.wWhile, DL.wAppend, DL.wLstM, DL.gdSub, DL.wIsi, DL.tyD, true_and, DL.sz_0, DL.sz_1, DL.sz_2, DL.sz_3, DL.sz_4, DL.sz_5, DL.sz_6, DL.sz_7, DL.sz_8, DL.sz_9, DL.sz_10, DL.sz_11, DL.sz_12, DL.sz_13, DL.sz_14, DL.sz_15, DL.sz_16, DL.sz_17, DL.sz_18, DL.sz_19, DL.sz_20, DL.sz_21, DL.sz_22, DL.sz_23, DL.sz_24, DL.sz_25, DL.sz_26, DL.ixN50, DL.ixN51, DL.ixN52, DL.ixN53, DL.ixN54, DL.Mu.set_same, DL.Mu.set_set, eq_self, decide_true, Bool.not_true, Bool.not_false, Bool.or_false, Bool.or_true, Bool.true_or, Bool.false_or, DL.kit_NoneType_bool, DL.kit_NoneType_int, DL.kit_NoneType_str, DL.kit_NoneType_tuple, DL.kit_NoneType_list, DL.kit_NoneType_dict, DL.kit_bool_bool, DL.kit_bool_int, DL.kit_bool_str, DL.kit_bool_tuple, DL.kit_bool_list, DL.kit_bool_dict, DL.kit_int_bool, DL.kit_int_int, DL.kit_int_str, DL.kit_int_tuple, DL.kit_int_list, DL.kit_int_dict, DL.kit_str_bool, DL.kit_str_int, DL.kit_str_str, DL.kit_str_tuple, DL.kit_str_list, DL.kit_str_dict, DL.kit_tuple_bool, DL.kit_tuple_int, DL.kit_tuple_str, DL.kit_tuple_tuple, DL.kit_tuple_list, DL.kit_tuple_dict, DL.kit_list_bool, DL.kit_list_int, DL.kit_list_str, DL.kit_list_tuple, DL.kit_list_list, DL.kit_list_dict, reduceIte, cntD_n, cntD_s, List.map_cons, List.map_nil, List.length_cons, List.length_nil, List.replicate, List.cons_append, List.nil_append, List.getElem?_cons_zero, List.getElem?_cons_succ, List.set_cons_zero, List.set_cons_succ, onSome, atI_0, atI_1, atI_2, atI_3, atI_4, w_nw, w_na, w_nh, w_ng, w_wn, w_wa, w_wh, w_wg, w_an, w_aw, w_ah, w_ag, w_hn, w_hw, w_ha, w_hg, w_gn, w_gw, w_ga, w_gh, w_self, Bool.false_eq_true, if_false, if_true, Nat.reduceAdd, Nat.reduceSub]
      refine ⟨by rw [List.map_take]; exact hlen, fun D hD => lcW_map placeD (fun p => .bl (inArea b p)) (ps.take (t + 1)) μ _ hD (fun p hp ν k hk => ?_) ?_⟩
      · simp only [DL.wSeq, DL.wAsg, DL.wOp, DL.wVar, DL.wC, DL.wIx, DL.gdName, DL.startD, wishD, DL.pv_, DL.wIfS, DL.wTest, DL.wRet, DL.wIf, DL.wCall, DL.wCons, DL.wNil, DL.wNext, DL.wEq, DL.wNe, DL.wIsN, DL.wNotN, DL.isNonD, DL.onBl, DL.wAndV, DL.wOrV, DL.wNotV, DL.wAnd, DL.wOr, DL.wNot, DL.wCB, DL.wLen, DL.wInt, DL.wAbs, DL.wMax2, DL.wMin2, DL.wTupOf, DL.wUn, DL.wU, DL.wI0, DL.wI, DL.wTup, DL.wLst, DL.wPar, DL.wPar3, DL.wDrop, DL.wSl, DL.wSlL, DL.wPart, DL.wNoPart, DL.endD, DL.wLc, DL.lcStep, DL.wipeD, DL.wYes, DL.gdTup, DL.gdCons, DL.gdNil, DL.idTup, DL.idLst, DL.idEnumL, DL.idEnumT, DL.idZip, DL.idRng1, DL.idRng2, DL.wAny, DL.wAll, DL.wChain, DL.wFor, DL.wWhile, DL.wAppend, DL.wLstM, DL.gdSub, DL.wIsi, DL.tyD, true_and, DL.sz_0, DL.sz_1, DL.sz_2, DL.sz_3, DL.sz_4, DL.sz_5, DL.sz_6, DL.sz_7, DL.sz_8, DL.sz_9, DL.sz_10, DL.sz_11, DL.sz_12, DL.sz_13, DL.sz_14, DL.sz_15, DL.sz_16, DL.sz_17, DL.sz_18, DL.sz_19, DL.sz_20, DL.sz_21, DL.sz_22, DL.sz_23, DL.sz_24, DL.sz_25, DL.sz_26, DL.ixN50, DL.ixN51, DL.ixN52, DL.ixN53, DL.ixN54, DL.Mu.set_same, DL.Mu.set_set, eq_self, decide_true, Bool.not_true, Bool.not_false, Bool.or_false, Bool.or_true, Bool.true_or, Bool.false_or, DL.kit_NoneType_bool, DL.kit_NoneType_int, DL.kit_NoneType_str, DL.kit_NoneType_tuple, DL.kit_NoneType_list, DL.kit_NoneType_dict, DL.kit_bool_bool, DL.kit_bool_int, DL.kit_bool_str, DL.kit_bool_tuple, DL.kit_bool_list, DL.kit_bool_dict, DL.kit_int_bool, DL.kit_int_int, DL.kit_int_str, DL.kit_int_tuple, DL.kit_int_list, DL.kit_int_dict, DL.kit_str_bool, DL.kit_str_int, DL.kit_str_str, DL.kit_str_tuple, DL.kit_str_list, DL.kit_str_dict, DL.kit_tuple_bool, DL.kit_tuple_int, DL.kit_tuple_str, DL.kit_tuple_tuple, DL.kit_tuple_list, DL.kit_tuple_dict, DL.kit_list_bool, DL.kit_list_int, DL.kit_list_str, DL.kit_list_tuple, DL.kit_list_list, DL.kit_list_dict, reduceIte, cntD_n, cntD_s, List.map_cons, List.map_nil, List.length_cons, List.length_nil, List.replicate, List.cons_append, List.nil_append, List.getElem?_cons_zero, List.getElem?_cons_succ, List.set_cons_zero, List.set_cons_succ, onSome, atI_0, atI_1, atI_2, atI_3, atI_4, w_nw, w_na, w_nh, w_ng, w_wn, w_wa, w_wh, w_wg, w_an, w_aw, w_ah, w_ag, w_hn, w_hw, w_ha, w_hg, w_gn, w_gw, w_ga, w_gh, w_self, Bool.false_eq_true, if_false, if_true, Nat.reduceAdd, Nat.reduceSub]
        exact hin hw.2 p hp ν _ hk
      · simp only [DL.wSeq, DL.wAsg, DL.wOp, DL.wVar, DL.wC, DL.wIx, DL.gdName, DL.startD, wishD, DL.pv_, DL.wIfS, DL.wTest, DL.wRet, DL.wIf, DL.wCall, DL.wCons, DL.wNil, DL.wNext, DL.wEq, DL.wNe, DL.wIsN, DL.wNotN, DL.isNonD, DL.onBl, DL.wAndV, DL.wOrV, DL.wNotV, DL.wAnd, DL.wOr, DL.wNot, DL.wCB, DL.wLen, DL.wInt, DL.wAbs, DL.wMax2, DL.wMin2, DL.wTupOf, DL.wUn, DL.wU, DL.wI0, DL.wI, DL.wTup, DL.wLst, DL.wPar, DL.wPar3, DL.wDrop, DL.wSl, DL.wSlL, DL.wPart, DL.wNoPart, DL.endD, DL.wLc, DL.lcStep, DL.wipeD, DL.wYes, DL.gdTup, DL.gdCons, DL.gdNil, DL.idTup, DL.idLst, DL.idEnumL, DL.idEnumT, DL.idZip, DL.idRng1, DL.idRng2, DL.wAny, DL.wAll, DL.wChain, DL.wFor, DL.wWhile, DL.wAppend, DL.wLstM, DL.gdSub, DL.wIsi, DL.tyD, true_and, DL.sz_0, DL.sz_1, DL.sz_2, DL.sz_3, DL.sz_4, DL.sz_5, DL.sz_6, DL.sz_7, DL.sz_8, DL.sz_9, DL.sz_10, DL.sz_11, DL.sz_12, DL.sz_13, DL.sz_14, DL.sz_15, DL.sz_16, DL.sz_17, DL.sz_18, DL.sz_19, DL.sz_20, DL.sz_21, DL.sz_22, DL.sz_23, DL.sz_24, DL.sz_25, DL.sz_26, DL.ixN50, DL.ixN51, DL.ixN52, DL.ixN53, DL.ixN54, DL.Mu.set_same, DL.Mu.set_set, eq_self, decide_true, Bool.not_true, Bool.not_false, Bool.or_false, Bool.or_true, Bool.true_or, Bool.false_or, DL.kit_NoneType_bool, DL.kit_NoneType_int, DL.kit_NoneType_str, DL.kit_NoneType_tuple, DL.kit_NoneType_list, DL.kit_NoneType_dict, DL.kit_bool_bool, DL.kit_bool_int, DL.kit_bool_str, DL.kit_bool_tuple, DL.kit_bool_list, DL.kit_bool_dict, DL.kit_int_bool, DL.kit_int_int, DL.kit_int_str, DL.kit_int_tuple, DL.kit_int_list, DL.kit_int_dict, DL.kit_str_bool, DL.kit_str_int, DL.kit_str_str, DL.kit_str_tuple, DL.kit_str_list, DL.kit_str_dict, DL.kit_tuple_bool, DL.kit_tuple_int, DL.kit_tuple_str, DL.kit_tuple_tuple, DL.kit_tuple_list, DL.kit_tuple_dict, DL.kit_list_bool, DL.kit_list_int, DL.kit_list_str, DL.kit_list_tuple, DL.kit_list_list, DL.kit_list_dict, reduceIte, cntD_n, cntD_s, List.map_cons, List.map_nil, List.length_cons, List.length_nil, List.replicate, List.cons_append, List.nil_append, List.getElem?_cons_zero, List.getElem?_cons_succ, List.set_cons_zero, List.set_cons_succ, onSome, atI_0, atI_1, atI_2, atI_3, atI_4, w_nw, w_na, w_nh, w_ng, w_wn, w_wa, w_wh, w_wg, w_an, w_aw, w_ah, w_ag, w_hn, w_hw, w_ha, w_hg, w_gn, w_gw, w_ga, w_gh, w_self, Bool.false_eq_true, if_false, if_true, Nat.reduceAdd, Nat.reduceSub]
        rw [fin, fin, atI_nat (here_at b t (Nat.le_refl _)), anyv]
        simp only [DL.wSeq, DL.wAsg, DL.wOp, DL.wVar, DL.wC, DL.wIx, DL.gdName, DL.startD, wishD, DL.pv_, DL.wIfS, DL.wTest, DL.wRet, DL.wIf, DL.wCall, DL.wCons, DL.wNil, DL.wNext, DL.wEq, DL.wNe, DL.wIsN, DL.wNotN, DL.isNonD, DL.onBl, DL.wAndV, DL.wOrV, DL.wNotV, DL.wAnd, DL.wOr, DL.wNot, DL.wCB, DL.wLen, DL.wInt, DL.wAbs, DL.wMax2, DL.wMin2, DL.wTupOf, DL.wUn, DL.wU, DL.wI0, DL.wI, DL.wTup, DL.wLst, DL.wPar, DL.wPar3, DL.wDrop, DL.wSl, DL.wSlL, DL.wPart, DL.wNoPart, DL.endD, DL.wLc, DL.lcStep, DL.wipeD, DL.wYes, DL.gdTup, DL.gdCons, DL.gdNil, DL.idTup, DL.idLst, DL.idEnumL, DL.idEnumT, DL.idZip, DL.idRng1, DL.idRng2, DL.wAny, DL.wAll, DL.wChain, DL.wFor, DL.wWhile, DL.wAppend, DL.wLstM, DL.gdSub, DL.wIsi, DL.tyD, true_and, DL.sz_0, DL.sz_1, DL.sz_2, DL.sz_3, DL.sz_4, DL.sz_5, DL.sz_6, DL.sz_7, DL.sz_8, DL.sz_9, DL.sz_10, DL.sz_11, DL.sz_12, DL.sz_13, DL.sz_14, DL.sz_15, DL.sz_16, DL.sz_17, DL.sz_18, DL.sz_19, DL.sz_20, DL.sz_21, DL.sz_22, DL.sz_23, DL.sz_24, DL.sz_25, DL.sz_26, DL.ixN50, DL.ixN51, DL.ixN52, DL.ixN53, DL.ixN54, DL.Mu.set_same, DL.Mu.set_set, eq_self, decide_true, Bool.not_true, Bool.not_false, Bool.or_false, Bool.or_true, Bool.true_or, Bool.false_or, DL.kit_NoneType_bool, DL.kit_NoneType_int, DL.kit_NoneType_str, DL.kit_NoneType_tuple, DL.kit_NoneType_list, DL.kit_NoneType_dict, DL.kit_bool_bool, DL.kit_bool_int, DL.kit_bool_str, DL.kit_bool_tuple, DL.kit_bool_list, DL.kit_bool_dict, DL.kit_int_bool, DL.kit_int_int, DL.kit_int_str, DL.kit_int_tuple, DL.kit_int_list, DL.kit_int_dict, DL.kit_str_bool, DL.kit_str_int, DL.kit_str_str, DL.kit_str_tuple, DL.kit_str_list, DL.kit_str_dict, DL.kit_tuple_bool, DL.kit_tuple_int, DL.kit_tuple_str, DL.kit_tuple_tuple, DL.kit_tuple_list, DL.kit_tuple_dict, DL.kit_list_bool, DL.kit_list_int, DL.kit_list_str, DL.kit_list_tuple, DL.kit_list_list, DL.kit_list_dict, reduceIte, cntD_n, cntD_s, List.map_cons, List.map_nil, List.length_cons, List.length_nil, List.replicate, List.cons_append, List.nil_append, List.getElem?_cons_zero, List.getElem?_cons_succ, List.set_cons_zero, List.set_cons_succ, onSome, atI_0, atI_1, atI_2, atI_3, atI_4, w_nw, w_na, w_nh, w_ng, w_wn, w_wa, w_wh, w_wg, w_an, w_aw, w_ah, w_ag, w_hn, w_hw, w_ha, w_hg, w_gn, w_gw, w_ga, w_gh, w_self, Bool.false_eq_true, if_false, if_true, Nat.reduceAdd, Nat.reduceSub]
        simp only [breaksF] at q
        cases h : (hereF b ps t).getD t false <;> simp only [h, Bool.true_and, Bool.false_and, Bool.false_eq_true, if_false, if_true] at q ⊢ <;> exact rt_D q
  | answered a b kk =>
    simp only [DL.wSeq, DL.wAsg, DL.wOp, DL.wVar, DL.wC, DL.wIx, DL.gdName, DL.startD, wishD, DL.pv_, DL.wIfS, DL.wTest, DL.wRet, DL.wIf, DL.wCall, DL.wCons, DL.wNil, DL.wNext, DL.wEq, DL.wNe, DL.wIsN, DL.wNotN, DL.isNonD, DL.onBl, DL.wAndV, DL.wOrV, DL.wNotV, DL.wAnd, DL.wOr, DL.wNot, DL.wCB, DL.wLen, DL.wInt, DL.wAbs, DL.wMax2, DL.wMin2, DL.wTupOf, DL.wUn, DL.wU, DL.wI0, DL.wI, DL.wTup, DL.wLst, DL.wPar, DL.wPar3, DL.wDrop, DL.wSl, DL.wSlL, DL.wPart, DL.wNoPart, DL.endD, DL.wLc, DL.lcStep, DL.wipeD, DL.wYes, DL.gdTup, DL.gdCons, DL.gdNil, DL.idTup, DL.idLst, DL.idEnumL, DL.idEnumT, DL.idZip, DL.idRng1, DL.idRng2, DL.wAny, DL.wAll, DL.wChain, DL.wFor, DL.wWhile, DL.wAppend, DL.wLstM, DL.gdSub, DL.wIsi, DL.tyD, true_and, DL.sz_0, DL.sz_1, DL.sz_2, DL.sz_3, DL.sz_4, DL.sz_5, DL.sz_6, DL.sz_7, DL.sz_8, DL.sz_9, DL.sz_10, DL.sz_11, DL.sz_12, DL.sz_13, DL.sz_14, DL.sz_15, DL.sz_16, DL.sz_17, DL.sz_18, DL.sz_19, DL.sz_20, DL.sz_21, DL.sz_22, DL.sz_23, DL.sz_24, DL.sz_25, DL.sz_26, DL.ixN50, DL.ixN51, DL.ixN52, DL.ixN53, DL.ixN54, DL.Mu.set_same, DL.Mu.set_set, eq_self, decide_true, Bool.not_true, Bool.not_false, Bool.or_false, Bool.or_true, Bool.true_or, Bool.false_or, DL.kit_NoneType_bool, DL.kit_NoneType_int, DL.kit_NoneType_str, DL.kit_NoneType_tuple, DL.kit_NoneType_list, DL.kit_NoneType_dict, DL.kit_bool_bool, DL.kit_bool_int, DL.kit_bool_str, DL.kit_bool_tuple, DL.kit_bool_list, DL.kit_bool_dict, DL.kit_int_bool, DL.kit_int_int, DL.kit_int_str, DL.kit_int_tuple, DL.kit_int_list, DL.kit_int_dict, DL.kit_str_bool, DL.kit_str_int, DL.kit_str_str, DL.kit_str_tuple, DL.kit_str_list, DL.kit_str_dict, DL.kit_tuple_bool, DL.kit_tuple_int, DL.kit_tuple_str, DL.kit_tuple_tuple, DL.kit_tuple_list, DL.kit_tuple_dict, DL.kit_list_bool, DL.kit_list_int, DL.kit_list_str, DL.kit_list_tuple, DL.kit_list_list, DL.kit_list_dict, reduceIte, cntD_n, cntD_s, List.map_cons, List.map_nil, List.length_cons, List.length_nil, List.replicate, List.cons_append, List.nil_append, List.getElem?_cons_zero, List.getElem?_cons_succ, List.set_cons_zero, List.set_cons_succ, onSome, atI_0, atI_1, atI_2, atI_3, atI_4, w_nw, w_na, w_nh, w_ng, w_wn, w_wa, w_wh, w_wg, w_an, w_aw, w_ah, w_ag, w_hn, w_hw, w_ha, w_hg, w_gn, w_gw, w_ga, w_gh, w_self, Bool.false_eq_true, if_false, if_true, Nat.reduceAdd, Nat.reduceSub]
    rw [take_cast, cut_take, ← List.map_take]
    refine ⟨by rw [List.map_take]; exact hlen, fun D hD => lcW_map placeD (fun p => .bl (inArea a p)) (ps.take (t + 1)) μ _ hD (fun p hp ν k hk => ?_) ?_⟩
    · simp only [DL.wSeq, DL.wAsg, DL.wOp, DL.wVar, DL.wC, DL.wIx, DL.gdName, DL.startD, wishD, DL.pv_, DL.wIfS, DL.wTest, DL.wRet, DL.wIf, DL.wCall, DL.wCons, DL.wNil, DL.wNext, DL.wEq, DL.wNe, DL.wIsN, DL.wNotN, DL.isNonD, DL.onBl, DL.wAndV, DL.wOrV, DL.wNotV, DL.wAnd, DL.wOr, DL.wNot, DL.wCB, DL.wLen, DL.wInt, DL.wAbs, DL.wMax2, DL.wMin2, DL.wTupOf, DL.wUn, DL.wU, DL.wI0, DL.wI, DL.wTup, DL.wLst, DL.wPar, DL.wPar3, DL.wDrop, DL.wSl, DL.wSlL, DL.wPart, DL.wNoPart, DL.endD, DL.wLc, DL.lcStep, DL.wipeD, DL.wYes, DL.gdTup, DL.gdCons, DL.gdNil, DL.idTup, DL.idLst, DL.idEnumL, DL.idEnumT, DL.idZip, DL.idRng1, DL.idRng2, DL.wAny, DL.wAll, DL.wChain, DL.wFor, DL.wWhile, DL.wAppend, DL.wLstM, DL.gdSub, DL.wIsi, DL.tyD, true_and, DL.sz_0, DL.sz_1, DL.sz_2, DL.sz_3, DL.sz_4, DL.sz_5, DL.sz_6, DL.sz_7, DL.sz_8, DL.sz_9, DL.sz_10, DL.sz_11, DL.sz_12, DL.sz_13, DL.sz_14, DL.sz_15, DL.sz_16, DL.sz_17, DL.sz_18, DL.sz_19, DL.sz_20, DL.sz_21, DL.sz_22, DL.sz_23, DL.sz_24, DL.sz_25, DL.sz_26, DL.ixN50, DL.ixN51, DL.ixN52, DL.ixN53, DL.ixN54, DL.Mu.set_same, DL.Mu.set_set, eq_self, decide_true, Bool.not_true, Bool.not_false, Bool.or_false, Bool.or_true, Bool.true_or, Bool.false_or, DL.kit_NoneType_bool, DL.kit_NoneType_int, DL.kit_NoneType_str, DL.kit_NoneType_tuple, DL.kit_NoneType_list, DL.kit_NoneType_dict, DL.kit_bool_bool, DL.kit_bool_int, DL.kit_bool_str, DL.kit_bool_tuple, DL.kit_bool_list, DL.kit_bool_dict, DL.kit_int_bool, DL.kit_int_int, DL.kit_int_str, DL.kit_int_tuple, DL.kit_int_list, DL.kit_int_dict, DL.kit_str_bool, DL.kit_str_int, DL.kit_str_str, DL.kit_str_tuple, DL.kit_str_list, DL.kit_str_dict, DL.kit_tuple_bool, DL.kit_tuple_int, DL.kit_tuple_str, DL.kit_tuple_tuple, DL.kit_tuple_list, DL.kit_tuple_dict, DL.kit_list_bool, DL.kit_list_int, DL.kit_list_str, DL.kit_list_tuple, DL.kit_list_list, DL.kit_list_dict, reduceIte, cntD_n, cntD_s, List.map_cons, List.map_nil, List.length_cons, List.length_nil, List.replicate, List.cons_append, List.nil_append, List.getElem?_cons_zero, List.getElem?_cons_succ, List.set_cons_zero, List.set_cons_succ, onSome, atI_0, atI_1, atI_2, atI_3, atI_4, w_nw, w_na, w_nh, w_ng, w_wn, w_wa, w_wh, w_wg, w_an, w_aw, w_ah, w_ag, w_hn, w_hw, w_ha, w_hg, w_gn, w_gw, w_ga, w_gh, w_self, Bool.false_eq_true, if_false, if_true, Nat.reduceAdd, Nat.reduceSub]
      exact hin hw.1 p hp ν _ hk
    · simp only [DL.wSeq, DL.wAsg, DL.wOp, DL.wVar, DL.wC, DL.wIx, DL.gdName, DL.startD, wishD, DL.pv_, DL.wIfS, DL.wTest, DL.wRet, DL.wIf, DL.wCall, DL.wCons, DL.wNil, DL.wNext, DL.wEq, DL.wNe, DL.wIsN, DL.wNotN, DL.isNonD, DL.onBl, DL.wAndV, DL.wOrV, DL.wNotV, DL.wAnd, DL.wOr, DL.wNot, DL.wCB, DL.wLen, DL.wInt, DL.wAbs, DL.wMax2, DL.wMin2, DL.wTupOf, DL.wUn, DL.wU, DL.wI0, DL.wI, DL.wTup, DL.wLst, DL.wPar, DL.wPar3, DL.wDrop, DL.wSl, DL.wSlL, DL.wPart, DL.wNoPart, DL.endD, DL.wLc, DL.lcStep, DL.wipeD, DL.wYes, DL.gdTup, DL.gdCons, DL.gdNil, DL.idTup, DL.idLst, DL.idEnumL, DL.idEnumT, DL.idZip, DL.idRng1, DL.idRng2, DL.wAny, DL.wAll, DL.wChain, DL.wFor, DL.wWhile, DL.wAppend, DL.wLstM, DL.gdSub, DL.wIsi, DL.tyD, true_and, DL.sz_0, DL.sz_1, DL.sz_2, DL.sz_3, DL.sz_4, DL.sz_5, DL.sz_6, DL.sz_7, DL.sz_8, DL.sz_9, DL.sz_10, DL.sz_11, DL.sz_12, DL.sz_13, DL.sz_14, DL.sz_15, DL.sz_16, DL.sz_17, DL.sz_18, DL.sz_19, DL.sz_20, DL.sz_21, DL.sz_22, DL.sz_23, DL.sz_24, DL.sz_25, DL.sz_26, DL.ixN50, DL.ixN51, DL.ixN52, DL.ixN53, DL.ixN54, DL.Mu.set_same, DL.Mu.set_set, eq_self, decide_true, Bool.not_true, Bool.not_false, Bool.or_false, Bool.or_true, Bool.true_or, Bool.false_or, DL.kit_NoneType_bool, DL.kit_NoneType_int, DL.kit_NoneType_str, DL.kit_NoneType_tuple, DL.kit_NoneType_list, DL.kit_NoneType_dict, DL.kit_bool_bool, DL.kit_bool_int, DL.kit_bool_str, DL.kit_bool_tuple, DL.kit_bool_list, DL.kit_bool_dict, DL.kit_int_bool, DL.kit_int_int, DL.kit_int_str, DL.kit_int_tuple, DL.kit_int_list, DL.kit_int_dict, DL.kit_str_bool, DL.kit_str_int, DL.kit_str_str, DL.kit_str_tuple, DL.kit_str_list, DL.kit_str_dict, DL.kit_tuple_bool, DL.kit_tuple_int, DL.kit_tuple_str, DL.kit_tuple_tuple, DL.kit_tuple_list, DL.kit_tuple_dict, DL.kit_list_bool, DL.kit_list_int, DL.kit_list_str, DL.kit_list_tuple, DL.kit_list_list, DL.kit_list_dict, reduceIte, cntD_n, cntD_s, List.map_cons, List.map_nil, List.length_cons, List.length_nil, List.replicate, List.cons_append, List.nil_append, List.getElem?_cons_zero, List.getElem?_cons_succ, List.set_cons_zero, List.set_cons_succ, onSome, atI_0, atI_1, atI_2, atI_3, atI_4, w_nw, w_na, w_nh, w_ng, w_wn, w_wa, w_wh, w_wg, w_an, w_aw, w_ah, w_ag, w_hn, w_hw, w_ha, w_hg, w_gn, w_gw, w_ga, w_gh, w_self, Bool.false_eq_true, if_false, if_true, Nat.reduceAdd, Nat.reduceSub]
      refine ⟨by rw [List.map_take]; exact hlen, fun D hD => lcW_map placeD (fun p => .bl (inArea b p)) (ps.take (t + 1)) μ _ hD (fun p hp ν k hk => ?_) ?_⟩
      · simp only [DL.wSeq, DL.wAsg, DL.wOp, DL.wVar, DL.wC, DL.wIx, DL.gdName, DL.startD, wishD, DL.pv_, DL.wIfS, DL.wTest, DL.wRet, DL.wIf, DL.wCall, DL.wCons, DL.wNil, DL.wNext, DL.wEq, DL.wNe, DL.wIsN, DL.wNotN, DL.isNonD, DL.onBl, DL.wAndV, DL.wOrV, DL.wNotV, DL.wAnd, DL.wOr, DL.wNot, DL.wCB, DL.wLen, DL.wInt, DL.wAbs, DL.wMax2, DL.wMin2, DL.wTupOf, DL.wUn, DL.wU, DL.wI0, DL.wI, DL.wTup, DL.wLst, DL.wPar, DL.wPar3, DL.wDrop, DL.wSl, DL.wSlL, DL.wPart, DL.wNoPart, DL.endD, DL.wLc, DL.lcStep, DL.wipeD, DL.wYes, DL.gdTup, DL.gdCons, DL.gdNil, DL.idTup, DL.idLst, DL.idEnumL, DL.idEnumT, DL.idZip, DL.idRng1, DL.idRng2, DL.wAny, DL.wAll, DL.wChain, DL.wFor, DL.wWhile, DL.wAppend, DL.wLstM, DL.gdSub, DL.wIsi, DL.tyD, true_and, DL.sz_0, DL.sz_1, DL.sz_2, DL.sz_3, DL.sz_4, DL.sz_5, DL.sz_6, DL.sz_7, DL.sz_8, DL.sz_9, DL.sz_10, DL.sz_11, DL.sz_12, DL.sz_13, DL.sz_14, DL.sz_15, DL.sz_16, DL.sz_17, DL.sz_18, DL.sz_19, DL.sz_20, DL.sz_21, DL.sz_22, DL.sz_23, DL.sz_24, DL.sz_25, DL.sz_26, DL.ixN50, DL.ixN51, DL.ixN52, DL.ixN53, DL.ixN54, DL.Mu.set_same, DL.Mu.set_set, eq_self, decide_true, Bool.not_true, Bool.not_false, Bool.or_false, Bool.or_true, Bool.true_or, Bool.false_or, DL.kit_NoneType_bool, DL.kit_NoneType_int, DL.kit_NoneType_str, DL.kit_NoneType_tuple, DL.kit_NoneType_list, DL.kit_NoneType_dict, DL.kit_bool_bool, DL.kit_bool_int, DL.kit_bool_str, DL.kit_bool_tuple, DL.kit_bool_list, DL.kit_bool_dict, DL.kit_int_bool, DL.kit_int_int, DL.kit_int_str, DL.kit_int_tuple, DL.kit_int_list, DL.kit_int_dict, DL.kit_str_bool, DL.kit_str_int, DL.kit_str_str, DL.kit_str_tuple, DL.kit_str_list, DL.kit_str_dict, DL.kit_tuple_bool, DL.kit_tuple_int, DL.kit_tuple_str, DL.kit_tuple_tuple, DL.kit_tuple_list, DL.kit_tuple_dict, DL.kit_list_bool, DL.kit_list_int, DL.kit_list_str, DL.kit_list_tuple, DL.kit_list_list, DL.kit_list_dict, reduceIte, cntD_n, cntD_s, List.map_cons, List.map_nil, List.length_cons, List.length_nil, List.replicate, List.cons_append, List.nil_append, List.getElem?_cons_zero, List.getElem?_cons_succ, List.set_cons_zero, List.set_cons_succ, onSome, atI_0, atI_1, atI_2, atI_3, atI_4, w_nw, w_na, w_nh, w_ng, w_wn, w_wa, w_wh, w_wg, w_an, w_aw, w_ah, w_ag, w_hn, w_hw, w_ha, w_hg, w_gn, w_gw, w_ga, w_gh, w_self, Bool.false_eq_true, if_false, if_true, Nat.reduceAdd, Nat.reduceSub]
        exact hin hw.2.1 p hp ν _ hk
      · simp only [DL.wSeq, DL.wAsg, DL.wOp, DL.wVar, DL.wC, DL.wIx, DL.gdName, DL.startD, wishD, DL.pv_, DL.wIfS, DL.wTest, DL.wRet, DL.wIf, DL.wCall, DL.wCons, DL.wNil, DL.wNext, DL.wEq, DL.wNe, DL.wIsN, DL.wNotN, DL.isNonD, DL.onBl, DL.wAndV, DL.wOrV, DL.wNotV, DL.wAnd, DL.wOr, DL.wNot, DL.wCB, DL.wLen, DL.wInt, DL.wAbs, DL.wMax2, DL.wMin2, DL.wTupOf, DL.wUn, DL.wU, DL.wI0, DL.wI, DL.wTup, DL.wLst, DL.wPar, DL.wPar3, DL.wDrop, DL.wSl, DL.wSlL, DL.wPart, DL.wNoPart, DL.endD, DL.wLc, DL.lcStep, DL.wipeD, DL.wYes, DL.gdTup, DL.gdCons, DL.gdNil, DL.idTup, DL.idLst, DL.idEnumL, DL.idEnumT, DL.idZip, DL.idRng1, DL.idRng2, DL.wAny, DL.wAll, DL.wChain, DL.wFor, DL.wWhile, DL.wAppend, DL.wLstM, DL.gdSub, DL.wIsi, DL.tyD, true_and, DL.sz_0, DL.sz_1, DL.sz_2, DL.sz_3, DL.sz_4, DL.sz_5, DL.sz_6, DL.sz_7, DL.sz_8, DL.sz_9, DL.sz_10, DL.sz_11, DL.sz_12, DL.sz_13, DL.sz_14, DL.sz_15, DL.sz_16, DL.sz_17, DL.sz_18, DL.sz_19, DL.sz_20, DL.sz_21, DL.sz_22, DL.sz_23, DL.sz_24, DL.sz_25, DL.sz_26, DL.ixN50, DL.ixN51, DL.ixN52, DL.ixN53, DL.ixN54, DL.Mu.set_same, DL.Mu.set_set, eq_self, decide_true, Bool.not_true, Bool.not_false, Bool.or_false, Bool.or_true, Bool.true_or, Bool.false_or, DL.kit_NoneType_bool, DL.kit_NoneType_int, DL.kit_NoneType_str, DL.kit_NoneType_tuple, DL.kit_NoneType_list, DL.kit_NoneType_dict, DL.kit_bool_bool, DL.kit_bool_int, DL.kit_bool_str, DL.kit_bool_tuple, DL.kit_bool_list, DL.kit_bool_dict, DL.kit_int_bool, DL.kit_int_int, DL.kit_int_str, DL.kit_int_tuple, DL.kit_int_list, DL.kit_int_dict, DL.kit_str_bool, DL.kit_str_int, DL.kit_str_str, DL.kit_str_tuple, DL.kit_str_list, DL.kit_str_dict, DL.kit_tuple_bool, DL.kit_tuple_int, DL.kit_tuple_str, DL.kit_tuple_tuple, DL.kit_tuple_list, DL.kit_tuple_dict, DL.kit_list_bool, DL.kit_list_int, DL.kit_list_str, DL.kit_list_tuple, DL.kit_list_list, DL.kit_list_dict, reduceIte, cntD_n, cntD_s, List.map_cons, List.map_nil, List.length_cons, List.length_nil, List.replicate, List.cons_append, List.nil_append, List.getElem?_cons_zero, List.getElem?_cons_succ, List.set_cons_zero, List.set_cons_succ, onSome, atI_0, atI_1, atI_2, atI_3, atI_4, w_nw, w_na, w_nh, w_ng, w_wn, w_wa, w_wh, w_wg, w_an, w_aw, w_ah, w_ag, w_hn, w_hw, w_ha, w_hg, w_gn, w_gw, w_ga, w_gh, w_self, Bool.false_eq_true, if_false, if_true, Nat.reduceAdd, Nat.reduceSub]
        rw [fin, fin]
        simp only [breaksF] at q
        by_cases hk : kk ≤ t
        · rw [decide_eq_true (by omega), if_pos rfl, show (t : Int) - kk = ((t - kk : Nat) : Int) by omega, atI_nat (here_at a (t - kk) (by omega))]
          simp only [DL.wSeq, DL.wAsg, DL.wOp, DL.wVar, DL.wC, DL.wIx, DL.gdName, DL.startD, wishD, DL.pv_, DL.wIfS, DL.wTest, DL.wRet, DL.wIf, DL.wCall, DL.wCons, DL.wNil, DL.wNext, DL.wEq, DL.wNe, DL.wIsN, DL.wNotN, DL.isNonD, DL.onBl, DL.wAndV, DL.wOrV, DL.wNotV, DL.wAnd, DL.wOr, DL.wNot, DL.wCB, DL.wLen, DL.wInt, DL.wAbs, DL.wMax2, DL.wMin2, DL.wTupOf, DL.wUn, DL.wU, DL.wI0, DL.wI, DL.wTup, DL.wLst, DL.wPar, DL.wPar3, DL.wDrop, DL.wSl, DL.wSlL, DL.wPart, DL.wNoPart, DL.endD, DL.wLc, DL.lcStep, DL.wipeD, DL.wYes, DL.gdTup, DL.gdCons, DL.gdNil, DL.idTup, DL.idLst, DL.idEnumL, DL.idEnumT, DL.idZip, DL.idRng1, DL.idRng2, DL.wAny, DL.wAll, DL.wChain, DL.wFor, DL.wWhile, DL.wAppend, DL.wLstM, DL.gdSub, DL.wIsi, DL.tyD, true_and, DL.sz_0, DL.sz_1, DL.sz_2, DL.sz_3, DL.sz_4, DL.sz_5, DL.sz_6, DL.sz_7, DL.sz_8, DL.sz_9, DL.sz_10, DL.sz_11, DL.sz_12, DL.sz_13, DL.sz_14, DL.sz_15, DL.sz_16, DL.sz_17, DL.sz_18, DL.sz_19, DL.sz_20, DL.sz_21, DL.sz_22, DL.sz_23, DL.sz_24, DL.sz_25, DL.sz_26, DL.ixN50, DL.ixN51, DL.ixN52, DL.ixN53, DL.ixN54, DL.Mu.set_same, DL.Mu.set_set, eq_self, decide_true, Bool.not_true, Bool.not_false, Bool.or_false, Bool.or_true, Bool.true_or, Bool.false_or, DL.kit_NoneType_bool, DL.kit_NoneType_int, DL.kit_NoneType_str, DL.kit_NoneType_tuple, DL.kit_NoneType_list, DL.kit_NoneType_dict, DL.kit_bool_bool, DL.kit_bool_int, DL.kit_bool_str, DL.kit_bool_tuple, DL.kit_bool_list, DL.kit_bool_dict, DL.kit_int_bool, DL.kit_int_int, DL.kit_int_str, DL.kit_int_tuple, DL.kit_int_list, DL.kit_int_dict, DL.kit_str_bool, DL.kit_str_int, DL.kit_str_str, DL.kit_str_tuple, DL.kit_str_list, DL.kit_str_dict, DL.kit_tuple_bool, DL.kit_tuple_int, DL.kit_tuple_str, DL.kit_tuple_tuple, DL.kit_tuple_list, DL.kit_tuple_dict, DL.kit_list_bool, DL.kit_list_int, DL.kit_list_str, DL.kit_list_tuple, DL.kit_list_list, DL.kit_list_dict, reduceIte, cntD_n, cntD_s, List.map_cons, List.map_nil, List.length_cons, List.length_nil, List.replicate, List.cons_append, List.nil_append, List.getElem?_cons_zero, List.getElem?_cons_succ, List.set_cons_zero, List.set_cons_succ, onSome, atI_0, atI_1, atI_2, atI_3, atI_4, w_nw, w_na, w_nh, w_ng, w_wn, w_wa, w_wh, w_wg, w_an, w_aw, w_ah, w_ag, w_hn, w_hw, w_ha, w_hg, w_gn, w_gw, w_ga, w_gh, w_self, Bool.false_eq_true, if_false, if_true, Nat.reduceAdd, Nat.reduceSub]
          rw [decide_eq_true hk] at q
          simp only [Bool.true_and] at q
          cases h : (hereF a ps t).getD (t - kk) false
          · simp only [h, Bool.false_and, Bool.false_eq_true, if_false] at q ⊢
            exact rt_D q
          · simp only [h, Bool.true_and, if_true] at q ⊢
            rw [cut_drop, ← List.map_drop, anyv]
            simp only [DL.wSeq, DL.wAsg, DL.wOp, DL.wVar, DL.wC, DL.wIx, DL.gdName, DL.startD, wishD, DL.pv_, DL.wIfS, DL.wTest, DL.wRet, DL.wIf, DL.wCall, DL.wCons, DL.wNil, DL.wNext, DL.wEq, DL.wNe, DL.wIsN, DL.wNotN, DL.isNonD, DL.onBl, DL.wAndV, DL.wOrV, DL.wNotV, DL.wAnd, DL.wOr, DL.wNot, DL.wCB, DL.wLen, DL.wInt, DL.wAbs, DL.wMax2, DL.wMin2, DL.wTupOf, DL.wUn, DL.wU, DL.wI0, DL.wI, DL.wTup, DL.wLst, DL.wPar, DL.wPar3, DL.wDrop, DL.wSl, DL.wSlL, DL.wPart, DL.wNoPart, DL.endD, DL.wLc, DL.lcStep, DL.wipeD, DL.wYes, DL.gdTup, DL.gdCons, DL.gdNil, DL.idTup, DL.idLst, DL.idEnumL, DL.idEnumT, DL.idZip, DL.idRng1, DL.idRng2, DL.wAny, DL.wAll, DL.wChain, DL.wFor, DL.wWhile, DL.wAppend, DL.wLstM, DL.gdSub, DL.wIsi, DL.tyD, true_and, DL.sz_0, DL.sz_1, DL.sz_2, DL.sz_3, DL.sz_4, DL.sz_5, DL.sz_6, DL.sz_7, DL.sz_8, DL.sz_9, DL.sz_10, DL.sz_11, DL.sz_12, DL.sz_13, DL.sz_14, DL.sz_15, DL.sz_16, DL.sz_17, DL.sz_18, DL.sz_19, DL.sz_20, DL.sz_21, DL.sz_22, DL.sz_23, DL.sz_24, DL.sz_25, DL.sz_26, DL.ixN50, DL.ixN51, DL.ixN52, DL.ixN53, DL.ixN54, DL.Mu.set_same, DL.Mu.set_set, eq_self, decide_true, Bool.not_true, Bool.not_false, Bool.or_false, Bool.or_true, Bool.true_or, Bool.false_or, DL.kit_NoneType_bool, DL.kit_NoneType_int, DL.kit_NoneType_str, DL.kit_NoneType_tuple, DL.kit_NoneType_list, DL.kit_NoneType_dict, DL.kit_bool_bool, DL.kit_bool_int, DL.kit_bool_str, DL.kit_bool_tuple, DL.kit_bool_list, DL.kit_bool_dict, DL.kit_int_bool, DL.kit_int_int, DL.kit_int_str, DL.kit_int_tuple, DL.kit_int_list, DL.kit_int_dict, DL.kit_str_bool, DL.kit_str_int, DL.kit_str_str, DL.kit_str_tuple, DL.kit_str_list, DL.kit_str_dict, DL.kit_tuple_bool, DL.kit_tuple_int, DL.kit_tuple_str, DL.kit_tuple_tuple, DL.kit_tuple_list, DL.kit_tuple_dict, DL.kit_list_bool, DL.kit_list_int, DL.kit_list_str, DL.kit_list_tuple, DL.kit_list_list, DL.kit_list_dict, reduceIte, cntD_n, cntD_s, List.map_cons, List.map_nil, List.length_cons, List.length_nil, List.replicate, List.cons_append, List.nil_append, List.getElem?_cons_zero, List.getElem?_cons_succ, List.set_cons_zero, List.set_cons_succ, onSome, atI_0, atI_1, atI_2, atI_3, atI_4, w_nw, w_na, w_nh, w_ng, w_wn, w_wa, w_wh, w_wg, w_an, w_aw, w_ah, w_ag, w_hn, w_hw, w_ha, w_hg, w_gn, w_gw, w_ga, w_gh, w_self, Bool.false_eq_true, if_false, if_true, Nat.reduceAdd, Nat.reduceSub]
            exact rt_D q
        · rw [decide_eq_false (by omega)]
          rw [decide_eq_false hk] at q
          exact rt_D q
theorem r_u_law_is : ∀ ds μ Q, s_u_law_is ds μ Q → w_u_law_is (endD Q) (startD 4 ds) μ := by
  rintro ds μ Q ⟨cs, rfl, hl, q⟩
  unfold w_u_law_is
  simp only [cntsD]
  simp only [DL.wSeq, DL.wAsg, DL.wOp, DL.wVar, DL.wC, DL.wIx, DL.gdName, DL.startD, wishD, DL.pv_, DL.wIfS, DL.wTest, DL.wRet, DL.wIf, DL.wCall, DL.wCons, DL.wNil, DL.wNext, DL.wEq, DL.wNe, DL.wIsN, DL.wNotN, DL.isNonD, DL.onBl, DL.wAndV, DL.wOrV, DL.wNotV, DL.wAnd, DL.wOr, DL.wNot, DL.wCB, DL.wLen, DL.wInt, DL.wAbs, DL.wMax2, DL.wMin2, DL.wTupOf, DL.wUn, DL.wU, DL.wI0, DL.wI, DL.wTup, DL.wLst, DL.wPar, DL.wPar3, DL.wDrop, DL.wSl, DL.wSlL, DL.wPart, DL.wNoPart, DL.endD, DL.wLc, DL.lcStep, DL.wipeD, DL.wYes, DL.gdTup, DL.gdCons, DL.gdNil, DL.idTup, DL.idLst, DL.idEnumL, DL.idEnumT, DL.idZip, DL.idRng1, DL.idRng2, DL.wAny, DL.wAll, DL.wChain, DL.wFor, DL.wWhile, DL.wAppend, DL.wLstM, DL.gdSub, DL.wIsi, DL.tyD, true_and, DL.sz_0, DL.sz_1, DL.sz_2, DL.sz_3, DL.sz_4, DL.sz_5, DL.sz_6, DL.sz_7, DL.sz_8, DL.sz_9, DL.sz_10, DL.sz_11, DL.sz_12, DL.sz_13, DL.sz_14, DL.sz_15, DL.sz_16, DL.sz_17, DL.sz_18, DL.sz_19, DL.sz_20, DL.sz_21, DL.sz_22, DL.sz_23, DL.sz_24, DL.sz_25, DL.sz_26, DL.ixN50, DL.ixN51, DL.ixN52, DL.ixN53, DL.ixN54, DL.Mu.set_same, DL.Mu.set_set, eq_self, decide_true, Bool.not_true, Bool.not_false, Bool.or_false, Bool.or_true, Bool.true_or, Bool.false_or, DL.kit_NoneType_bool, DL.kit_NoneType_int, DL.kit_NoneType_str, DL.kit_NoneType_tuple, DL.kit_NoneType_list, DL.kit_NoneType_dict, DL.kit_bool_bool, DL.kit_bool_int, DL.kit_bool_str, DL.kit_bool_tuple, DL.kit_bool_list, DL.kit_bool_dict, DL.kit_int_bool, DL.kit_int_int, DL.kit_int_str, DL.kit_int_tuple, DL.kit_int_list, DL.kit_int_dict, DL.kit_str_bool, DL.kit_str_int, DL.kit_str_str, DL.kit_str_tuple, DL.kit_str_list, DL.kit_str_dict, DL.kit_tuple_bool, DL.kit_tuple_int, DL.kit_tuple_str, DL.kit_tuple_tuple, DL.kit_tuple_list, DL.kit_tuple_dict, DL.kit_list_bool, DL.kit_list_int, DL.kit_list_str, DL.kit_list_tuple, DL.kit_list_list, DL.kit_list_dict, reduceIte, cntD_n, cntD_s, List.map_cons, List.map_nil, List.length_cons, List.length_nil, List.replicate, List.cons_append, List.nil_append, List.getElem?_cons_zero, List.getElem?_cons_succ, List.set_cons_zero, List.set_cons_succ, onSome, atI_0, atI_1, atI_2, atI_3, atI_4, w_nw, w_na, w_nh, w_ng, w_wn, w_wa, w_wh, w_wg, w_an, w_aw, w_ah, w_ag, w_hn, w_hw, w_ha, w_hg, w_gn, w_gw, w_ga, w_gh, w_self, Bool.false_eq_true, if_false, if_true, Nat.reduceAdd, Nat.reduceSub]
  rw [zipD_map]
  refine forW_by (fun _ ρ μ' => μ' = μ ∧ ∃ x y, ρ = [some (.tup (cs.map cntD)), some (.tup (cs.map cntD)), x, y]) ⟨rfl, none, none, rfl⟩ ?_ ?_
  · rintro j d ρ μ' N hd ⟨rfl, x, y, rfl⟩ hN
    rw [List.getElem?_map] at hd
    obtain ⟨e, he, rfl⟩ := Option.map_eq_some_iff.mp hd
    have hee : e.1 = e.2 := by
      have z := List.getElem?_zip_eq_some.mp (show (cs.zip cs)[j]? = some (e.1, e.2) from he)
      exact Option.some.inj (z.1.symm.trans z.2)
    obtain ⟨c, c'⟩ := e
    cases (show c = c' from hee)
    simp only [DL.wSeq, DL.wAsg, DL.wOp, DL.wVar, DL.wC, DL.wIx, DL.gdName, DL.startD, wishD, DL.pv_, DL.wIfS, DL.wTest, DL.wRet, DL.wIf, DL.wCall, DL.wCons, DL.wNil, DL.wNext, DL.wEq, DL.wNe, DL.wIsN, DL.wNotN, DL.isNonD, DL.onBl, DL.wAndV, DL.wOrV, DL.wNotV, DL.wAnd, DL.wOr, DL.wNot, DL.wCB, DL.wLen, DL.wInt, DL.wAbs, DL.wMax2, DL.wMin2, DL.wTupOf, DL.wUn, DL.wU, DL.wI0, DL.wI, DL.wTup, DL.wLst, DL.wPar, DL.wPar3, DL.wDrop, DL.wSl, DL.wSlL, DL.wPart, DL.wNoPart, DL.endD, DL.wLc, DL.lcStep, DL.wipeD, DL.wYes, DL.gdTup, DL.gdCons, DL.gdNil, DL.idTup, DL.idLst, DL.idEnumL, DL.idEnumT, DL.idZip, DL.idRng1, DL.idRng2, DL.wAny, DL.wAll, DL.wChain, DL.wFor, DL.wWhile, DL.wAppend, DL.wLstM, DL.gdSub, DL.wIsi, DL.tyD, true_and, DL.sz_0, DL.sz_1, DL.sz_2, DL.sz_3, DL.sz_4, DL.sz_5, DL.sz_6, DL.sz_7, DL.sz_8, DL.sz_9, DL.sz_10, DL.sz_11, DL.sz_12, DL.sz_13, DL.sz_14, DL.sz_15, DL.sz_16, DL.sz_17, DL.sz_18, DL.sz_19, DL.sz_20, DL.sz_21, DL.sz_22, DL.sz_23, DL.sz_24, DL.sz_25, DL.sz_26, DL.ixN50, DL.ixN51, DL.ixN52, DL.ixN53, DL.ixN54, DL.Mu.set_same, DL.Mu.set_set, eq_self, decide_true, Bool.not_true, Bool.not_false, Bool.or_false, Bool.or_true, Bool.true_or, Bool.false_or, DL.kit_NoneType_bool, DL.kit_NoneType_int, DL.kit_NoneType_str, DL.kit_NoneType_tuple, DL.kit_NoneType_list, DL.kit_NoneType_dict, DL.kit_bool_bool, DL.kit_bool_int, DL.kit_bool_str, DL.kit_bool_tuple, DL.kit_bool_list, DL.kit_bool_dict, DL.kit_int_bool, DL.kit_int_int, DL.kit_int_str, DL.kit_int_tuple, DL.kit_int_list, DL.kit_int_dict, DL.kit_str_bool, DL.kit_str_int, DL.kit_str_str, DL.kit_str_tuple, DL.kit_str_list, DL.kit_str_dict, DL.kit_tuple_bool, DL.kit_tuple_int, DL.kit_tuple_str, DL.kit_tuple_tuple, DL.kit_tuple_list, DL.kit_tuple_dict, DL.kit_list_bool, DL.kit_list_int, DL.kit_list_str, DL.kit_list_tuple, DL.kit_list_list, DL.kit_list_dict, reduceIte, cntD_n, cntD_s, List.map_cons, List.map_nil, List.length_cons, List.length_nil, List.replicate, List.cons_append, List.nil_append, List.getElem?_cons_zero, List.getElem?_cons_succ, List.set_cons_zero, List.set_cons_succ, onSome, atI_0, atI_1, atI_2, atI_3, atI_4, w_nw, w_na, w_nh, w_ng, w_wn, w_wa, w_wh, w_wg, w_an, w_aw, w_ah, w_ag, w_hn, w_hw, w_ha, w_hg, w_gn, w_gw, w_ga, w_gh, w_self, Bool.false_eq_true, if_false, if_true, Nat.reduceAdd, Nat.reduceSub]
    cases c with
    | none =>
      simp only [DL.wSeq, DL.wAsg, DL.wOp, DL.wVar, DL.wC, DL.wIx, DL.gdName, DL.startD, wishD, DL.pv_, DL.wIfS, DL.wTest, DL.wRet, DL.wIf, DL.wCall, DL.wCons, DL.wNil, DL.wNext, DL.wEq, DL.wNe, DL.wIsN, DL.wNotN, DL.isNonD, DL.onBl, DL.wAndV, DL.wOrV, DL.wNotV, DL.wAnd, DL.wOr, DL.wNot, DL.wCB, DL.wLen, DL.wInt, DL.wAbs, DL.wMax2, DL.wMin2, DL.wTupOf, DL.wUn, DL.wU, DL.wI0, DL.wI, DL.wTup, DL.wLst, DL.wPar, DL.wPar3, DL.wDrop, DL.wSl, DL.wSlL, DL.wPart, DL.wNoPart, DL.endD, DL.wLc, DL.lcStep, DL.wipeD, DL.wYes, DL.gdTup, DL.gdCons, DL.gdNil, DL.idTup, DL.idLst, DL.idEnumL, DL.idEnumT, DL.idZip, DL.idRng1, DL.idRng2, DL.wAny, DL.wAll, DL.wChain, DL.wFor, DL.wWhile, DL.wAppend, DL.wLstM, DL.gdSub, DL.wIsi, DL.tyD, true_and, DL.sz_0, DL.sz_1, DL.sz_2, DL.sz_3, DL.sz_4, DL.sz_5, DL.sz_6, DL.sz_7, DL.sz_8, DL.sz_9, DL.sz_10, DL.sz_11, DL.sz_12, DL.sz_13, DL.sz_14, DL.sz_15, DL.sz_16, DL.sz_17, DL.sz_18, DL.sz_19, DL.sz_20, DL.sz_21, DL.sz_22, DL.sz_23, DL.sz_24, DL.sz_25, DL.sz_26, DL.ixN50, DL.ixN51, DL.ixN52, DL.ixN53, DL.ixN54, DL.Mu.set_same, DL.Mu.set_set, eq_self, decide_true, Bool.not_true, Bool.not_false, Bool.or_false, Bool.or_true, Bool.true_or, Bool.false_or, DL.kit_NoneType_bool, DL.kit_NoneType_int, DL.kit_NoneType_str, DL.kit_NoneType_tuple, DL.kit_NoneType_list, DL.kit_NoneType_dict, DL.kit_bool_bool, DL.kit_bool_int, DL.kit_bool_str, DL.kit_bool_tuple, DL.kit_bool_list, DL.kit_bool_dict, DL.kit_int_bool, DL.kit_int_int, DL.kit_int_str, DL.kit_int_tuple, DL.kit_int_list, DL.kit_int_dict, DL.kit_str_bool, DL.kit_str_int, DL.kit_str_str, DL.kit_str_tuple, DL.kit_str_list, DL.kit_str_dict, DL.kit_tuple_bool, DL.kit_tuple_int, DL.kit_tuple_str, DL.kit_tuple_tuple, DL.kit_tuple_list, DL.kit_tuple_dict, DL.kit_list_bool, DL.kit_list_int, DL.kit_list_str, DL.kit_list_tuple, DL.kit_list_list, DL.kit_list_dict, reduceIte, cntD_n, cntD_s, List.map_cons, List.map_nil, List.length_cons, List.length_nil, List.replicate, List.cons_append, List.nil_append, List.getElem?_cons_zero, List.getElem?_cons_succ, List.set_cons_zero, List.set_cons_succ, onSome, atI_0, atI_1, atI_2, atI_3, atI_4, w_nw, w_na, w_nh, w_ng, w_wn, w_wa, w_wh, w_wg, w_an, w_aw, w_ah, w_ag, w_hn, w_hw, w_ha, w_hg, w_gn, w_gw, w_ga, w_gh, w_self, Bool.false_eq_true, if_false, if_true, Nat.reduceAdd, Nat.reduceSub]
      exact hN _ _ ⟨rfl, _, _, rfl⟩
    | some i =>
      simp only [DL.wSeq, DL.wAsg, DL.wOp, DL.wVar, DL.wC, DL.wIx, DL.gdName, DL.startD, wishD, DL.pv_, DL.wIfS, DL.wTest, DL.wRet, DL.wIf, DL.wCall, DL.wCons, DL.wNil, DL.wNext, DL.wEq, DL.wNe, DL.wIsN, DL.wNotN, DL.isNonD, DL.onBl, DL.wAndV, DL.wOrV, DL.wNotV, DL.wAnd, DL.wOr, DL.wNot, DL.wCB, DL.wLen, DL.wInt, DL.wAbs, DL.wMax2, DL.wMin2, DL.wTupOf, DL.wUn, DL.wU, DL.wI0, DL.wI, DL.wTup, DL.wLst, DL.wPar, DL.wPar3, DL.wDrop, DL.wSl, DL.wSlL, DL.wPart, DL.wNoPart, DL.endD, DL.wLc, DL.lcStep, DL.wipeD, DL.wYes, DL.gdTup, DL.gdCons, DL.gdNil, DL.idTup, DL.idLst, DL.idEnumL, DL.idEnumT, DL.idZip, DL.idRng1, DL.idRng2, DL.wAny, DL.wAll, DL.wChain, DL.wFor, DL.wWhile, DL.wAppend, DL.wLstM, DL.gdSub, DL.wIsi, DL.tyD, true_and, DL.sz_0, DL.sz_1, DL.sz_2, DL.sz_3, DL.sz_4, DL.sz_5, DL.sz_6, DL.sz_7, DL.sz_8, DL.sz_9, DL.sz_10, DL.sz_11, DL.sz_12, DL.sz_13, DL.sz_14, DL.sz_15, DL.sz_16, DL.sz_17, DL.sz_18, DL.sz_19, DL.sz_20, DL.sz_21, DL.sz_22, DL.sz_23, DL.sz_24, DL.sz_25, DL.sz_26, DL.ixN50, DL.ixN51, DL.ixN52, DL.ixN53, DL.ixN54, DL.Mu.set_same, DL.Mu.set_set, eq_self, decide_true, Bool.not_true, Bool.not_false, Bool.or_false, Bool.or_true, Bool.true_or, Bool.false_or, DL.kit_NoneType_bool, DL.kit_NoneType_int, DL.kit_NoneType_str, DL.kit_NoneType_tuple, DL.kit_NoneType_list, DL.kit_NoneType_dict, DL.kit_bool_bool, DL.kit_bool_int, DL.kit_bool_str, DL.kit_bool_tuple, DL.kit_bool_list, DL.kit_bool_dict, DL.kit_int_bool, DL.kit_int_int, DL.kit_int_str, DL.kit_int_tuple, DL.kit_int_list, DL.kit_int_dict, DL.kit_str_bool, DL.kit_str_int, DL.kit_str_str, DL.kit_str_tuple, DL.kit_str_list, DL.kit_str_dict, DL.kit_tuple_bool, DL.kit_tuple_int, DL.kit_tuple_str, DL.kit_tuple_tuple, DL.kit_tuple_list, DL.kit_tuple_dict, DL.kit_list_bool, DL.kit_list_int, DL.kit_list_str, DL.kit_list_tuple, DL.kit_list_list, DL.kit_list_dict, reduceIte, cntD_n, cntD_s, List.map_cons, List.map_nil, List.length_cons, List.length_nil, List.replicate, List.cons_append, List.nil_append, List.getElem?_cons_zero, List.getElem?_cons_succ, List.set_cons_zero, List.set_cons_succ, onSome, atI_0, atI_1, atI_2, atI_3, atI_4, w_nw, w_na, w_nh, w_ng, w_wn, w_wa, w_wh, w_wg, w_an, w_aw, w_ah, w_ag, w_hn, w_hw, w_ha, w_hg, w_gn, w_gw, w_ga, w_gh, w_self, Bool.false_eq_true, if_false, if_true, Nat.reduceAdd, Nat.reduceSub]
      exact hN _ _ ⟨rfl, _, _, rfl⟩
  · rintro ρ μ' ⟨rfl, x, y, rfl⟩
    simp only [DL.wSeq, DL.wAsg, DL.wOp, DL.wVar, DL.wC, DL.wIx, DL.gdName, DL.startD, wishD, DL.pv_, DL.wIfS, DL.wTest, DL.wRet, DL.wIf, DL.wCall, DL.wCons, DL.wNil, DL.wNext, DL.wEq, DL.wNe, DL.wIsN, DL.wNotN, DL.isNonD, DL.onBl, DL.wAndV, DL.wOrV, DL.wNotV, DL.wAnd, DL.wOr, DL.wNot, DL.wCB, DL.wLen, DL.wInt, DL.wAbs, DL.wMax2, DL.wMin2, DL.wTupOf, DL.wUn, DL.wU, DL.wI0, DL.wI, DL.wTup, DL.wLst, DL.wPar, DL.wPar3, DL.wDrop, DL.wSl, DL.wSlL, DL.wPart, DL.wNoPart, DL.endD, DL.wLc, DL.lcStep, DL.wipeD, DL.wYes, DL.gdTup, DL.gdCons, DL.gdNil, DL.idTup, DL.idLst, DL.idEnumL, DL.idEnumT, DL.idZip, DL.idRng1, DL.idRng2, DL.wAny, DL.wAll, DL.wChain, DL.wFor, DL.wWhile, DL.wAppend, DL.wLstM, DL.gdSub, DL.wIsi, DL.tyD, true_and, DL.sz_0, DL.sz_1, DL.sz_2, DL.sz_3, DL.sz_4, DL.sz_5, DL.sz_6, DL.sz_7, DL.sz_8, DL.sz_9, DL.sz_10, DL.sz_11, DL.sz_12, DL.sz_13, DL.sz_14, DL.sz_15, DL.sz_16, DL.sz_17, DL.sz_18, DL.sz_19, DL.sz_20, DL.sz_21, DL.sz_22, DL.sz_23, DL.sz_24, DL.sz_25, DL.sz_26, DL.ixN50, DL.ixN51, DL.ixN52, DL.ixN53, DL.ixN54, DL.Mu.set_same, DL.Mu.set_set, eq_self, decide_true, Bool.not_true, Bool.not_false, Bool.or_false, Bool.or_true, Bool.true_or, Bool.false_or, DL.kit_NoneType_bool, DL.kit_NoneType_int, DL.kit_NoneType_str, DL.kit_NoneType_tuple, DL.kit_NoneType_list, DL.kit_NoneType_dict, DL.kit_bool_bool, DL.kit_bool_int, DL.kit_bool_str, DL.kit_bool_tuple, DL.kit_bool_list, DL.kit_bool_dict, DL.kit_int_bool, DL.kit_int_int, DL.kit_int_str, DL.kit_int_tuple, DL.kit_int_list, DL.kit_int_dict, DL.kit_str_bool, DL.kit_str_int, DL.kit_str_str, DL.kit_str_tuple, DL.kit_str_list, DL.kit_str_dict, DL.kit_tuple_bool, DL.kit_tuple_int, DL.kit_tuple_str, DL.kit_tuple_tuple, DL.kit_tuple_list, DL.kit_tuple_dict, DL.kit_list_bool, DL.kit_list_int, DL.kit_list_str, DL.kit_list_tuple, DL.kit_list_list, DL.kit_list_dict, reduceIte, cntD_n, cntD_s, List.map_cons, List.map_nil, List.length_cons, List.length_nil, List.replicate, List.cons_append, List.nil_append, List.getElem?_cons_zero, List.getElem?_cons_succ, List.set_cons_zero, List.set_cons_succ, onSome, atI_0, atI_1, atI_2, atI_3, atI_4, w_nw, w_na, w_nh, w_ng, w_wn, w_wa, w_wh, w_wg, w_an, w_aw, w_ah, w_ag, w_hn, w_hw, w_ha, w_hg, w_gn, w_gw, w_ga, w_gh, w_self, Bool.false_eq_true, if_false, if_true, Nat.reduceAdd, Nat.reduceSub]
    exact rt_D q
end K18
set_option linter.all false
set_option maxRecDepth 100000
set_option maxHeartbeats 4000000
namespace K18
open PySem L2 DL
theorem range_ok {n : Nat} (h : n ≤ 1000) : -(2 ^ 62) ≤ ((n : Nat) : Int) ∧ ((n : Nat) : Int) < 2 ^ 62 := by omega
theorem rangeD0 (n : Nat) : rangeD 0 n = (List.range n).map fun i => DV.int ((i : Nat) : Int) := by
  unfold rangeD
  refine List.map_congr_left fun i _ => ?_
  rw [Int.zero_add]
theorem any_map_bl (f : Nat → Bool) (n : Nat) : ((List.range n).map f).any id = (List.range n).any f := by
  rw [List.any_map]
  rfl
theorem tw_lt : ∀ (m : List Bool) (j : Nat), j < (m.takeWhile (! ·)).length → m[j]? = some false
  | [], _, h => by cases h
  | true :: m, j, h => by
    rw [List.takeWhile_cons] at h
    cases h
  | false :: m, 0, _ => rfl
  | false :: m, j + 1, h => by
    rw [List.takeWhile_cons] at h
    have z := tw_lt m j (by simpa using h)
    simpa using z
theorem tw_end : ∀ (m : List Bool), (m.takeWhile (! ·)).length < m.length → m[(m.takeWhile (! ·)).length]? = some true
  | [], h => by cases h
  | true :: m, _ => rfl
  | false :: m, h => by
    rw [List.takeWhile_cons] at h ⊢
    have z := tw_end m (by simpa using h)
    simpa using z
theorem trail_at {l : List Bool} {t j : Nat} (hl : l.length = t + 1) (h : j < trail l) : j ≤ t ∧ l.getD (t - j) false = false := by
  have hle := trail_le l
  have z := tw_lt l.reverse j h
  rw [List.getElem?_reverse (by omega), hl] at z
  refine ⟨by omega, ?_⟩
  rw [List.getD_eq_getElem?_getD, show t - j = t + 1 - 1 - j by omega, z]
  rfl
theorem trail_stop {l : List Bool} {t : Nat} (hl : l.length = t + 1) (h : trail l ≤ t) : l.getD (t - trail l) false = true := by
  have z := tw_end l.reverse (by rw [List.length_reverse, hl]; show trail l < t + 1; omega)
  have z' : l.reverse[trail l]? = some true := z
  rw [List.getElem?_reverse (by omega), hl] at z'
  rw [List.getD_eq_getElem?_getD, show t - trail l = t + 1 - 1 - trail l by omega, z']
  rfl
theorem r_u_law_count : ∀ ds μ Q, s_u_law_count ds μ Q → w_u_law_count (endD Q) (startD 10 ds) μ := by
  rintro ds μ Q ⟨n, w, ps, t, rfl, hw, hps, hn, ht, q⟩
  unfold w_u_law_count
  have hin : ∀ {a : List Box}, AreaOk n a → ∀ p ∈ ps.take (t + 1), ∀ ν (k : DK), k (.bl (inArea a p)) ν → s_u_law_in [areaD a, placeD p] ν k := fun ha p hp ν k hk =>
    ⟨n, _, p, rfl, ha, hps.ax p (List.mem_of_mem_take hp), hn, hk⟩
  have hfew := hps.few
  have hlen : ((ps.map placeD).take (t + 1)).length ≤ sizeLine := by
    rw [List.length_take, List.length_map]
    exact sz_le (by omega)
  have here_len : ∀ a, (hereF a ps t).length = t + 1 := fun a => by
    unfold hereF
    rw [List.length_map, List.length_take]
    omega
  have here_at : ∀ a s, s ≤ t → ((hereF a ps t).map DV.bl)[s]? = some (.bl ((hereF a ps t).getD s false)) := fun a s hs => by
    rw [List.getElem?_map, List.getD_eq_getElem?_getD, List.getElem?_eq_getElem (by rw [here_len]; omega)]
    rfl
  have fin : ∀ a, (ps.take (t + 1)).map (fun p => DV.bl (inArea a p)) = (hereF a ps t).map DV.bl := fun a => by
    unfold hereF
    rw [List.map_map]
    rfl
  have anyv : ∀ (l : List Bool), boolsD (l.map DV.bl) = some l := fun l => by
    have z := boolsD_map (fun b : Bool => b) l
    rw [List.map_id'] at z
    exact z
  simp only [placesD]
  -- if any(breaks): None
  simp only [DL.wSeq, DL.wIfS, DL.wTest, DL.wCB, DL.wCons, DL.wNil, DL.wLc, DL.idRng1, DL.wOp, DL.wVar, DL.wC, DL.wI0, DL.pv_, DL.onBl, startD, List.map_cons, List.map_nil, List.length_cons, List.length_nil, List.replicate, List.cons_append, List.nil_append, List.getElem?_cons_zero, List.getElem?_cons_succ, Nat.reduceAdd, Nat.reduceSub]
  rw [take_cast]
  have rg := range_ok (n := t + 1) (by omega)
  refine ⟨rg, ?_⟩
  rw [Int.toNat_natCast, rangeD0]
  refine ⟨by rw [List.length_map, List.length_range]; exact sz_le (by omega), fun D hD => lcW_map (fun i : Nat => DV.int ((i : Nat) : Int)) (fun i => .bl (breaksF w ps i)) (List.range (t + 1)) μ _ hD (fun i hi ν k hk => ?_) ?_⟩
  · simp only [DL.wSeq, DL.wAsg, DL.wOp, DL.wVar, DL.wC, DL.wIx, DL.gdName, DL.startD, wishD, DL.pv_, DL.wIfS, DL.wTest, DL.wRet, DL.wIf, DL.wCall, DL.wCons, DL.wNil, DL.wNext, DL.wEq, DL.wNe, DL.wIsN, DL.wNotN, DL.isNonD, DL.onBl, DL.wAndV, DL.wOrV, DL.wNotV, DL.wAnd, DL.wOr, DL.wNot, DL.wCB, DL.wLen, DL.wInt, DL.wAbs, DL.wMax2, DL.wMin2, DL.wTupOf, DL.wUn, DL.wU, DL.wI0, DL.wI, DL.wTup, DL.wLst, DL.wPar, DL.wPar3, DL.wDrop, DL.wSl, DL.wSlL, DL.wPart, DL.wNoPart, DL.endD, DL.wLc, DL.lcStep, DL.wipeD, DL.wYes, DL.gdTup, DL.gdCons, DL.gdNil, DL.idTup, DL.idLst, DL.idEnumL, DL.idEnumT, DL.idZip, DL.idRng1, DL.idRng2, DL.wAny, DL.wAll, DL.wChain, DL.wFor, DL.wWhile, DL.wAppend, DL.wLstM, DL.gdSub, DL.wIsi, DL.tyD, true_and, DL.sz_0, DL.sz_1, DL.sz_2, DL.sz_3, DL.sz_4, DL.sz_5, DL.sz_6, DL.sz_7, DL.sz_8, DL.sz_9, DL.sz_10, DL.sz_11, DL.sz_12, DL.sz_13, DL.sz_14, DL.sz_15, DL.sz_16, DL.sz_17, DL.sz_18, DL.sz_19, DL.sz_20, DL.sz_21, DL.sz_22, DL.sz_23, DL.sz_24, DL.sz_25, DL.sz_26, DL.ixN50, DL.ixN51, DL.ixN52, DL.ixN53, DL.ixN54, DL.Mu.set_same, DL.Mu.set_set, eq_self, decide_true, Bool.not_true, Bool.not_false, Bool.or_false, Bool.or_true, Bool.true_or, Bool.false_or, DL.kit_NoneType_bool, DL.kit_NoneType_int, DL.kit_NoneType_str, DL.kit_NoneType_tuple, DL.kit_NoneType_list, DL.kit_NoneType_dict, DL.kit_bool_bool, DL.kit_bool_int, DL.kit_bool_str, DL.kit_bool_tuple, DL.kit_bool_list, DL.kit_bool_dict, DL.kit_int_bool, DL.kit_int_int, DL.kit_int_str, DL.kit_int_tuple, DL.kit_int_list, DL.kit_int_dict, DL.kit_str_bool, DL.kit_str_int, DL.kit_str_str, DL.kit_str_tuple, DL.kit_str_list, DL.kit_str_dict, DL.kit_tuple_bool, DL.kit_tuple_int, DL.kit_tuple_str, DL.kit_tuple_tuple, DL.kit_tuple_list, DL.kit_tuple_dict, DL.kit_list_bool, DL.kit_list_int, DL.kit_list_str, DL.kit_list_tuple, DL.kit_list_list, DL.kit_list_dict, reduceIte, cntD_n, cntD_s, List.map_cons, List.map_nil, List.length_cons, List.length_nil, List.replicate, List.cons_append, List.nil_append, List.getElem?_cons_zero, List.getElem?_cons_succ, List.set_cons_zero, List.set_cons_succ, onSome, atI_0, atI_1, atI_2, atI_3, atI_4, w_nw, w_na, w_nh, w_ng, w_wn, w_wa, w_wh, w_wg, w_an, w_aw, w_ah, w_ag, w_hn, w_hw, w_ha, w_hg, w_gn, w_gw, w_ga, w_gh, w_self, Bool.false_eq_true, if_false, if_true, Nat.reduceAdd, Nat.reduceSub]
    exact ⟨n, w, ps, i, rfl, hw, hps, hn, by have := List.mem_range.mp hi; omega, hk⟩
  simp only [DL.wSeq, DL.wAsg, DL.wOp, DL.wVar, DL.wC, DL.wIx, DL.gdName, DL.startD, wishD, DL.pv_, DL.wIfS, DL.wTest, DL.wRet, DL.wIf, DL.wCall, DL.wCons, DL.wNil, DL.wNext, DL.wEq, DL.wNe, DL.wIsN, DL.wNotN, DL.isNonD, DL.onBl, DL.wAndV, DL.wOrV, DL.wNotV, DL.wAnd, DL.wOr, DL.wNot, DL.wCB, DL.wLen, DL.wInt, DL.wAbs, DL.wMax2, DL.wMin2, DL.wTupOf, DL.wUn, DL.wU, DL.wI0, DL.wI, DL.wTup, DL.wLst, DL.wPar, DL.wPar3, DL.wDrop, DL.wSl, DL.wSlL, DL.wPart, DL.wNoPart, DL.endD, DL.wLc, DL.lcStep, DL.wipeD, DL.wYes, DL.gdTup, DL.gdCons, DL.gdNil, DL.idTup, DL.idLst, DL.idEnumL, DL.idEnumT, DL.idZip, DL.idRng1, DL.idRng2, DL.wAny, DL.wAll, DL.wChain, DL.wFor, DL.wWhile, DL.wAppend, DL.wLstM, DL.gdSub, DL.wIsi, DL.tyD, true_and, DL.sz_0, DL.sz_1, DL.sz_2, DL.sz_3, DL.sz_4, DL.sz_5, DL.sz_6, DL.sz_7, DL.sz_8, DL.sz_9, DL.sz_10, DL.sz_11, DL.sz_12, DL.sz_13, DL.sz_14, DL.sz_15, DL.sz_16, DL.sz_17, DL.sz_18, DL.sz_19, DL.sz_20, DL.sz_21, DL.sz_22, DL.sz_23, DL.sz_24, DL.sz_25, DL.sz_26, DL.ixN50, DL.ixN51, DL.ixN52, DL.ixN53, DL.ixN54, DL.Mu.set_same, DL.Mu.set_set, eq_self, decide_true, Bool.not_true, Bool.not_false, Bool.or_false, Bool.or_true, Bool.true_or, Bool.false_or, DL.kit_NoneType_bool, DL.kit_NoneType_int, DL.kit_NoneType_str, DL.kit_NoneType_tuple, DL.kit_NoneType_list, DL.kit_NoneType_dict, DL.kit_bool_bool, DL.kit_bool_int, DL.kit_bool_str, DL.kit_bool_tuple, DL.kit_bool_list, DL.kit_bool_dict, DL.kit_int_bool, DL.kit_int_int, DL.kit_int_str, DL.kit_int_tuple, DL.kit_int_list, DL.kit_int_dict, DL.kit_str_bool, DL.kit_str_int, DL.kit_str_str, DL.kit_str_tuple, DL.kit_str_list, DL.kit_str_dict, DL.kit_tuple_bool, DL.kit_tuple_int, DL.kit_tuple_str, DL.kit_tuple_tuple, DL.kit_tuple_list, DL.kit_tuple_dict, DL.kit_list_bool, DL.kit_list_int, DL.kit_list_str, DL.kit_list_tuple, DL.kit_list_list, DL.kit_list_dict, reduceIte, cntD_n, cntD_s, List.map_cons, List.map_nil, List.length_cons, List.length_nil, List.replicate, List.cons_append, List.nil_append, List.getElem?_cons_zero, List.getElem?_cons_succ, List.set_cons_zero, List.set_cons_succ, onSome, atI_0, atI_1, atI_2, atI_3, atI_4, w_nw, w_na, w_nh, w_ng, w_wn, w_wa, w_wh, w_wg, w_an, w_aw, w_ah, w_ag, w_hn, w_hw, w_ha, w_hg, w_gn, w_gw, w_ga, w_gh, w_self, Bool.false_eq_true, if_false, if_true, Nat.reduceAdd, Nat.reduceSub]
  rw [boolsD_map]
  simp only [DL.wSeq, DL.wAsg, DL.wOp, DL.wVar, DL.wC, DL.wIx, DL.gdName, DL.startD, wishD, DL.pv_, DL.wIfS, DL.wTest, DL.wRet, DL.wIf, DL.wCall, DL.wCons, DL.wNil, DL.wNext, DL.wEq, DL.wNe, DL.wIsN, DL.wNotN, DL.isNonD, DL.onBl, DL.wAndV, DL.wOrV, DL.wNotV, DL.wAnd, DL.wOr, DL.wNot, DL.wCB, DL.wLen, DL.wInt, DL.wAbs, DL.wMax2, DL.wMin2, DL.wTupOf, DL.wUn, DL.wU, DL.wI0, DL.wI, DL.wTup, DL.wLst, DL.wPar, DL.wPar3, DL.wDrop, DL.wSl, DL.wSlL, DL.wPart, DL.wNoPart, DL.endD, DL.wLc, DL.lcStep, DL.wipeD, DL.wYes, DL.gdTup, DL.gdCons, DL.gdNil, DL.idTup, DL.idLst, DL.idEnumL, DL.idEnumT, DL.idZip, DL.idRng1, DL.idRng2, DL.wAny, DL.wAll, DL.wChain, DL.wFor, DL.wWhile, DL.wAppend, DL.wLstM, DL.gdSub, DL.wIsi, DL.tyD, true_and, DL.sz_0, DL.sz_1, DL.sz_2, DL.sz_3, DL.sz_4, DL.sz_5, DL.sz_6, DL.sz_7, DL.sz_8, DL.sz_9, DL.sz_10, DL.sz_11, DL.sz_12, DL.sz_13, DL.sz_14, DL.sz_15, DL.sz_16, DL.sz_17, DL.sz_18, DL.sz_19, DL.sz_20, DL.sz_21, DL.sz_22, DL.sz_23, DL.sz_24, DL.sz_25, DL.sz_26, DL.ixN50, DL.ixN51, DL.ixN52, DL.ixN53, DL.ixN54, DL.Mu.set_same, DL.Mu.set_set, eq_self, decide_true, Bool.not_true, Bool.not_false, Bool.or_false, Bool.or_true, Bool.true_or, Bool.false_or, DL.kit_NoneType_bool, DL.kit_NoneType_int, DL.kit_NoneType_str, DL.kit_NoneType_tuple, DL.kit_NoneType_list, DL.kit_NoneType_dict, DL.kit_bool_bool, DL.kit_bool_int, DL.kit_bool_str, DL.kit_bool_tuple, DL.kit_bool_list, DL.kit_bool_dict, DL.kit_int_bool, DL.kit_int_int, DL.kit_int_str, DL.kit_int_tuple, DL.kit_int_list, DL.kit_int_dict, DL.kit_str_bool, DL.kit_str_int, DL.kit_str_str, DL.kit_str_tuple, DL.kit_str_list, DL.kit_str_dict, DL.kit_tuple_bool, DL.kit_tuple_int, DL.kit_tuple_str, DL.kit_tuple_tuple, DL.kit_tuple_list, DL.kit_tuple_dict, DL.kit_list_bool, DL.kit_list_int, DL.kit_list_str, DL.kit_list_tuple, DL.kit_list_list, DL.kit_list_dict, reduceIte, cntD_n, cntD_s, List.map_cons, List.map_nil, List.length_cons, List.length_nil, List.replicate, List.cons_append, List.nil_append, List.getElem?_cons_zero, List.getElem?_cons_succ, List.set_cons_zero, List.set_cons_succ, onSome, atI_0, atI_1, atI_2, atI_3, atI_4, w_nw, w_na, w_nh, w_ng, w_wn, w_wa, w_wh, w_wg, w_an, w_aw, w_ah, w_ag, w_hn, w_hw, w_ha, w_hg, w_gn, w_gw, w_ga, w_gh, w_self, Bool.false_eq_true, if_false, if_true, Nat.reduceAdd, Nat.reduceSub]
  rw [any_map_bl]
  cases hb : (List.range (t + 1)).any (breaksF w ps) with
  | true =>
    simp only [if_true]
    unfold countF at q
    rw [hb] at q
    exact rt_D q
  | false =>
  simp only [Bool.false_eq_true, if_false]
  unfold countF at q
  rw [hb] at q
  simp only [Bool.false_eq_true, if_false] at q
  cases w with
  | never a =>
    simp only [DL.wSeq, DL.wAsg, DL.wOp, DL.wVar, DL.wC, DL.wIx, DL.gdName, DL.startD, wishD, DL.pv_, DL.wIfS, DL.wTest, DL.wRet, DL.wIf, DL.wCall, DL.wCons, DL.wNil, DL.wNext, DL.wEq, DL.wNe, DL.wIsN, DL.wNotN, DL.isNonD, DL.onBl, DL.wAndV, DL.wOrV, DL.wNotV, DL.wAnd, DL.wOr, DL.wNot, DL.wCB, DL.wLen, DL.wInt, DL.wAbs, DL.wMax2, DL.wMin2, DL.wTupOf, DL.wUn, DL.wU, DL.wI0, DL.wI, DL.wTup, DL.wLst, DL.wPar, DL.wPar3, DL.wDrop, DL.wSl, DL.wSlL, DL.wPart, DL.wNoPart, DL.endD, DL.wLc, DL.lcStep, DL.wipeD, DL.wYes, DL.gdTup, DL.gdCons, DL.gdNil, DL.idTup, DL.idLst, DL.idEnumL, DL.idEnumT, DL.idZip, DL.idRng1, DL.idRng2, DL.wAny, DL.wAll, DL.wChain, DL.wFor, DL.wWhile, DL.wAppend, DL.wLstM, DL.gdSub, DL.wIsi, DL.tyD, true_and, DL.sz_0, DL.sz_1, DL.sz_2, DL.sz_3, DL.sz_4, DL.sz_5, DL.sz_6, DL.sz_7, DL.sz_8, DL.sz_9, DL.sz_10, DL.sz_11, DL.sz_12, DL.sz_13, DL.sz_14, DL.sz_15, DL.sz_16, DL.sz_17, DL.sz_18, DL.sz_19, DL.sz_20, DL.sz_21, DL.sz_22, DL.sz_23, DL.sz_24, DL.sz_25, DL.sz_26, DL.ixN50, DL.ixN51, DL.ixN52, DL.ixN53, DL.ixN54, DL.Mu.set_same, DL.Mu.set_set, eq_self, decide_true, Bool.not_true, Bool.not_false, Bool.or_false, Bool.or_true, Bool.true_or, Bool.false_or, DL.kit_NoneType_bool, DL.kit_NoneType_int, DL.kit_NoneType_str, DL.kit_NoneType_tuple, DL.kit_NoneType_list, DL.kit_NoneType_dict, DL.kit_bool_bool, DL.kit_bool_int, DL.kit_bool_str, DL.kit_bool_tuple, DL.kit_bool_list, DL.kit_bool_dict, DL.kit_int_bool, DL.kit_int_int, DL.kit_int_str, DL.kit_int_tuple, DL.kit_int_list, DL.kit_int_dict, DL.kit_str_bool, DL.kit_str_int, DL.kit_str_str, DL.kit_str_tuple, DL.kit_str_list, DL.kit_str_dict, DL.kit_tuple_bool, DL.kit_tuple_int, DL.kit_tuple_str, DL.kit_tuple_tuple, DL.kit_tuple_list, DL.kit_tuple_dict, DL.kit_list_bool, DL.kit_list_int, DL.kit_list_str, DL.kit_list_tuple, DL.kit_list_list, DL.kit_list_dict, reduceIte, cntD_n, cntD_s, List.map_cons, List.map_nil, List.length_cons, List.length_nil, List.replicate, List.cons_append, List.nil_append, List.getElem?_cons_zero, List.getElem?_cons_succ, List.set_cons_zero, List.set_cons_succ, onSome, atI_0, atI_1, atI_2, atI_3, atI_4, w_nw, w_na, w_nh, w_ng, w_wn, w_wa, w_wh, w_wg, w_an, w_aw, w_ah, w_ag, w_hn, w_hw, w_ha, w_hg, w_gn, w_gw, w_ga, w_gh, w_self, Bool.false_eq_true, if_false, if_true, Nat.reduceAdd, Nat.reduceSub]
    rw [take_cast, cut_take, ← List.map_take]
    refine ⟨by rw [List.map_take]; exact hlen, fun D hD => lcW_map placeD (fun p => .bl (inArea a p)) (ps.take (t + 1)) μ _ hD (fun p hp ν k hk => ?_) ?_⟩
    · (try simp only [DL.wSeq, DL.wAsg, DL.wOp, DL.wVar, DL.wC, DL.wIx, DL.gdName, DL.startD, wishD, DL.pv_, DL.wIfS, DL.wTest, DL.wRet, DL.wIf, DL.wCall, DL.wCons, DL.wNil, DL.wNext, DL.wEq, DL.wNe, DL.wIsN, DL.wNotN, DL.isNonD, DL.onBl, DL.wAndV, DL.wOrV, DL.wNotV, DL.wAnd, DL.wOr, DL.wNot, DL.wCB, DL.wLen, DL.wInt, DL.wAbs, DL.wMax2, DL.wMin2, DL.wTupOf, DL.wUn, DL.wU, DL.wI0, DL.wI, DL.wTup, DL.wLst, DL.wPar, DL.wPar3, DL.wDrop, DL.wSl, DL.wSlL, DL.wPart, DL.wNoPart, DL.endD, DL.wLc, DL.lcStep, DL.wipeD, DL.wYes, DL.gdTup, DL.gdCons, DL.gdNil, DL.idTup, DL.idLst, DL.idEnumL, DL.idEnumT, DL.idZip, DL.idRng1, DL.idRng2, DL.wAny, DL.wAll, DL.wChain, DL.wFor, DL.wWhile, DL.wAppend, DL.wLstM, DL.gdSub, DL.wIsi, DL.tyD, true_and, DL.sz_0, DL.sz_1, DL.sz_2, DL.sz_3, DL.sz_4, DL.sz_5, DL.sz_6, DL.sz_7, DL.sz_8, DL.sz_9, DL.sz_10, DL.sz_11, DL.sz_12, DL.sz_13, DL.sz_14, DL.sz_15, DL.sz_16, DL.sz_17, DL.sz_18, DL.sz_19, DL.sz_20, DL.sz_21, DL.sz_22, DL.sz_23, DL.sz_24, DL.sz_25, DL.sz_26, DL.ixN50, DL.ixN51, DL.ixN52, DL.ixN53, DL.ixN54, DL.Mu.set_same, DL.Mu.set_set, eq_self, decide_true, Bool.not_true, Bool.not_false, Bool.or_false, Bool.or_true, Bool.true_or, Bool.false_or, DL.kit_NoneType_bool, DL.kit_NoneType_int, DL.kit_NoneType_str, DL.kit_NoneType_tuple, DL.kit_NoneType_list, DL.kit_NoneType_dict, DL.kit_bool_bool, DL.kit_bool_int, DL.kit_bool_str, DL.kit_bool_tuple, DL.kit_bool_list, DL.kit_bool_dict, DL.kit_int_bool, DL.kit_int_int, DL.kit_int_str, DL.kit_int_tuple, DL.kit_int_list, DL.kit_int_dict, DL.kit_str_bool, DL.kit_str_int, DL.kit_str_str, DL.kit_str_tuple, DL.kit_str_list, DL.kit_str_dict, DL.kit_tuple_bool, DL.kit_tuple_int, DL.kit_tuple_str, DL.kit_tuple_tuple, DL.kit_tuple_list, DL.kit_tuple_dict, DL.kit_list_bool, DL.kit_list_int, DL.kit_list_str, DL.kit_list_tuple, DL.kit_list_list, DL.kit_list_dict, reduceIte, cntD_n, cntD_s, List.map_cons, List.map_nil, List.length_cons, List.length_nil, List.replicate, List.cons_append, List.nil_append, List.getElem?_cons_zero, List.getElem?_cons_succ, List.set_cons_zero, List.set_cons_succ, onSome, atI_0, atI_1, atI_2, atI_3, atI_4, w_nw, w_na, w_nh, w_ng, w_wn, w_wa, w_wh, w_wg, w_an, w_aw, w_ah, w_ag, w_hn, w_hw, w_ha, w_hg, w_gn, w_gw, w_ga, w_gh, w_self, Bool.false_eq_true, if_false, if_true, Nat.reduceAdd, Nat.reduceSub])
      exact hin hw p hp ν _ hk
    · (try simp only [DL.wSeq, DL.wAsg, DL.wOp, DL.wVar, DL.wC, DL.wIx, DL.gdName, DL.startD, wishD, DL.pv_, DL.wIfS, DL.wTest, DL.wRet, DL.wIf, DL.wCall, DL.wCons, DL.wNil, DL.wNext, DL.wEq, DL.wNe, DL.wIsN, DL.wNotN, DL.isNonD, DL.onBl, DL.wAndV, DL.wOrV, DL.wNotV, DL.wAnd, DL.wOr, DL.wNot, DL.wCB, DL.wLen, DL.wInt, DL.wAbs, DL.wMax2, DL.wMin2, DL.wTupOf, DL.wUn, DL.wU, DL.wI0, DL.wI, DL.wTup, DL.wLst, DL.wPar, DL.wPar3, DL.wDrop, DL.wSl, DL.wSlL, DL.wPart, DL.wNoPart, DL.endD, DL.wLc, DL.lcStep, DL.wipeD, DL.wYes, DL.gdTup, DL.gdCons, DL.gdNil, DL.idTup, DL.idLst, DL.idEnumL, DL.idEnumT, DL.idZip, DL.idRng1, DL.idRng2, DL.wAny, DL.wAll, DL.wChain, DL.wFor, DL.wWhile, DL.wAppend, DL.wLstM, DL.gdSub, DL.wIsi, DL.tyD, true_and, DL.sz_0, DL.sz_1, DL.sz_2, DL.sz_3, DL.sz_4, DL.sz_5, DL.sz_6, DL.sz_7, DL.sz_8, DL.sz_9, DL.sz_10, DL.sz_11, DL.sz_12, DL.sz_13, DL.sz_14, DL.sz_15, DL.sz_16, DL.sz_17, DL.sz_18, DL.sz_19, DL.sz_20, DL.sz_21, DL.sz_22, DL.sz_23, DL.sz_24, DL.sz_25, DL.sz_26, DL.ixN50, DL.ixN51, DL.ixN52, DL.ixN53, DL.ixN54, DL.Mu.set_same, DL.Mu.set_set, eq_self, decide_true, Bool.not_true, Bool.not_false, Bool.or_false, Bool.or_true, Bool.true_or, Bool.false_or, DL.kit_NoneType_bool, DL.kit_NoneType_int, DL.kit_NoneType_str, DL.kit_NoneType_tuple, DL.kit_NoneType_list, DL.kit_NoneType_dict, DL.kit_bool_bool, DL.kit_bool_int, DL.kit_bool_str, DL.kit_bool_tuple, DL.kit_bool_list, DL.kit_bool_dict, DL.kit_int_bool, DL.kit_int_int, DL.kit_int_str, DL.kit_int_tuple, DL.kit_int_list, DL.kit_int_dict, DL.kit_str_bool, DL.kit_str_int, DL.kit_str_str, DL.kit_str_tuple, DL.kit_str_list, DL.kit_str_dict, DL.kit_tuple_bool, DL.kit_tuple_int, DL.kit_tuple_str, DL.kit_tuple_tuple, DL.kit_tuple_list, DL.kit_tuple_dict, DL.kit_list_bool, DL.kit_list_int, DL.kit_list_str, DL.kit_list_tuple, DL.kit_list_list, DL.kit_list_dict, reduceIte, cntD_n, cntD_s, List.map_cons, List.map_nil, List.length_cons, List.length_nil, List.replicate, List.cons_append, List.nil_append, List.getElem?_cons_zero, List.getElem?_cons_succ, List.set_cons_zero, List.set_cons_succ, onSome, atI_0, atI_1, atI_2, atI_3, atI_4, w_nw, w_na, w_nh, w_ng, w_wn, w_wa, w_wh, w_wg, w_an, w_aw, w_ah, w_ag, w_hn, w_hw, w_ha, w_hg, w_gn, w_gw, w_ga, w_gh, w_self, Bool.false_eq_true, if_false, if_true, Nat.reduceAdd, Nat.reduceSub])
      exact rt_D q
  | within a kk =>
    simp only [DL.wSeq, DL.wAsg, DL.wOp, DL.wVar, DL.wC, DL.wIx, DL.gdName, DL.startD, wishD, DL.pv_, DL.wIfS, DL.wTest, DL.wRet, DL.wIf, DL.wCall, DL.wCons, DL.wNil, DL.wNext, DL.wEq, DL.wNe, DL.wIsN, DL.wNotN, DL.isNonD, DL.onBl, DL.wAndV, DL.wOrV, DL.wNotV, DL.wAnd, DL.wOr, DL.wNot, DL.wCB, DL.wLen, DL.wInt, DL.wAbs, DL.wMax2, DL.wMin2, DL.wTupOf, DL.wUn, DL.wU, DL.wI0, DL.wI, DL.wTup, DL.wLst, DL.wPar, DL.wPar3, DL.wDrop, DL.wSl, DL.wSlL, DL.wPart, DL.wNoPart, DL.endD, DL.wLc, DL.lcStep, DL.wipeD, DL.wYes, DL.gdTup, DL.gdCons, DL.gdNil, DL.idTup, DL.idLst, DL.idEnumL, DL.idEnumT, DL.idZip, DL.idRng1, DL.idRng2, DL.wAny, DL.wAll, DL.wChain, DL.wFor, DL.wWhile, DL.wAppend, DL.wLstM, DL.gdSub, DL.wIsi, DL.tyD, true_and, DL.sz_0, DL.sz_1, DL.sz_2, DL.sz_3, DL.sz_4, DL.sz_5, DL.sz_6, DL.sz_7, DL.sz_8, DL.sz_9, DL.sz_10, DL.sz_11, DL.sz_12, DL.sz_13, DL.sz_14, DL.sz_15, DL.sz_16, DL.sz_17, DL.sz_18, DL.sz_19, DL.sz_20, DL.sz_21, DL.sz_22, DL.sz_23, DL.sz_24, DL.sz_25, DL.sz_26, DL.ixN50, DL.ixN51, DL.ixN52, DL.ixN53, DL.ixN54, DL.Mu.set_same, DL.Mu.set_set, eq_self, decide_true, Bool.not_true, Bool.not_false, Bool.or_false, Bool.or_true, Bool.true_or, Bool.false_or, DL.kit_NoneType_bool, DL.kit_NoneType_int, DL.kit_NoneType_str, DL.kit_NoneType_tuple, DL.kit_NoneType_list, DL.kit_NoneType_dict, DL.kit_bool_bool, DL.kit_bool_int, DL.kit_bool_str, DL.kit_bool_tuple, DL.kit_bool_list, DL.kit_bool_dict, DL.kit_int_bool, DL.kit_int_int, DL.kit_int_str, DL.kit_int_tuple, DL.kit_int_list, DL.kit_int_dict, DL.kit_str_bool, DL.kit_str_int, DL.kit_str_str, DL.kit_str_tuple, DL.kit_str_list, DL.kit_str_dict, DL.kit_tuple_bool, DL.kit_tuple_int, DL.kit_tuple_str, DL.kit_tuple_tuple, DL.kit_tuple_list, DL.kit_tuple_dict, DL.kit_list_bool, DL.kit_list_int, DL.kit_list_str, DL.kit_list_tuple, DL.kit_list_list, DL.kit_list_dict, reduceIte, cntD_n, cntD_s, List.map_cons, List.map_nil, List.length_cons, List.length_nil, List.replicate, List.cons_append, List.nil_append, List.getElem?_cons_zero, List.getElem?_cons_succ, List.set_cons_zero, List.set_cons_succ, onSome, atI_0, atI_1, atI_2, atI_3, atI_4, w_nw, w_na, w_nh, w_ng, w_wn, w_wa, w_wh, w_wg, w_an, w_aw, w_ah, w_ag, w_hn, w_hw, w_ha, w_hg, w_gn, w_gw, w_ga, w_gh, w_self, Bool.false_eq_true, if_false, if_true, Nat.reduceAdd, Nat.reduceSub]
    rw [take_cast, cut_take, ← List.map_take]
    refine ⟨by rw [List.map_take]; exact hlen, fun D hD => lcW_map placeD (fun p => .bl (inArea a p)) (ps.take (t + 1)) μ _ hD (fun p hp ν k hk => ?_) ?_⟩
    · (try simp only [DL.wSeq, DL.wAsg, DL.wOp, DL.wVar, DL.wC, DL.wIx, DL.gdName, DL.startD, wishD, DL.pv_, DL.wIfS, DL.wTest, DL.wRet, DL.wIf, DL.wCall, DL.wCons, DL.wNil, DL.wNext, DL.wEq, DL.wNe, DL.wIsN, DL.wNotN, DL.isNonD, DL.onBl, DL.wAndV, DL.wOrV, DL.wNotV, DL.wAnd, DL.wOr, DL.wNot, DL.wCB, DL.wLen, DL.wInt, DL.wAbs, DL.wMax2, DL.wMin2, DL.wTupOf, DL.wUn, DL.wU, DL.wI0, DL.wI, DL.wTup, DL.wLst, DL.wPar, DL.wPar3, DL.wDrop, DL.wSl, DL.wSlL, DL.wPart, DL.wNoPart, DL.endD, DL.wLc, DL.lcStep, DL.wipeD, DL.wYes, DL.gdTup, DL.gdCons, DL.gdNil, DL.idTup, DL.idLst, DL.idEnumL, DL.idEnumT, DL.idZip, DL.idRng1, DL.idRng2, DL.wAny, DL.wAll, DL.wChain, DL.wFor, DL.wWhile, DL.wAppend, DL.wLstM, DL.gdSub, DL.wIsi, DL.tyD, true_and, DL.sz_0, DL.sz_1, DL.sz_2, DL.sz_3, DL.sz_4, DL.sz_5, DL.sz_6, DL.sz_7, DL.sz_8, DL.sz_9, DL.sz_10, DL.sz_11, DL.sz_12, DL.sz_13, DL.sz_14, DL.sz_15, DL.sz_16, DL.sz_17, DL.sz_18, DL.sz_19, DL.sz_20, DL.sz_21, DL.sz_22, DL.sz_23, DL.sz_24, DL.sz_25, DL.sz_26, DL.ixN50, DL.ixN51, DL.ixN52, DL.ixN53, DL.ixN54, DL.Mu.set_same, DL.Mu.set_set, eq_self, decide_true, Bool.not_true, Bool.not_false, Bool.or_false, Bool.or_true, Bool.true_or, Bool.false_or, DL.kit_NoneType_bool, DL.kit_NoneType_int, DL.kit_NoneType_str, DL.kit_NoneType_tuple, DL.kit_NoneType_list, DL.kit_NoneType_dict, DL.kit_bool_bool, DL.kit_bool_int, DL.kit_bool_str, DL.kit_bool_tuple, DL.kit_bool_list, DL.kit_bool_dict, DL.kit_int_bool, DL.kit_int_int, DL.kit_int_str, DL.kit_int_tuple, DL.kit_int_list, DL.kit_int_dict, DL.kit_str_bool, DL.kit_str_int, DL.kit_str_str, DL.kit_str_tuple, DL.kit_str_list, DL.kit_str_dict, DL.kit_tuple_bool, DL.kit_tuple_int, DL.kit_tuple_str, DL.kit_tuple_tuple, DL.kit_tuple_list, DL.kit_tuple_dict, DL.kit_list_bool, DL.kit_list_int, DL.kit_list_str, DL.kit_list_tuple, DL.kit_list_list, DL.kit_list_dict, reduceIte, cntD_n, cntD_s, List.map_cons, List.map_nil, List.length_cons, List.length_nil, List.replicate, List.cons_append, List.nil_append, List.getElem?_cons_zero, List.getElem?_cons_succ, List.set_cons_zero, List.set_cons_succ, onSome, atI_0, atI_1, atI_2, atI_3, atI_4, w_nw, w_na, w_nh, w_ng, w_wn, w_wa, w_wh, w_wg, w_an, w_aw, w_ah, w_ag, w_hn, w_hw, w_ha, w_hg, w_gn, w_gw, w_ga, w_gh, w_self, Bool.false_eq_true, if_false, if_true, Nat.reduceAdd, Nat.reduceSub])
      exact hin hw.1 p hp ν _ hk
    · simp only [DL.wSeq, DL.wAsg, DL.wOp, DL.wVar, DL.wC, DL.wIx, DL.gdName, DL.startD, wishD, DL.pv_, DL.wIfS, DL.wTest, DL.wRet, DL.wIf, DL.wCall, DL.wCons, DL.wNil, DL.wNext, DL.wEq, DL.wNe, DL.wIsN, DL.wNotN, DL.isNonD, DL.onBl, DL.wAndV, DL.wOrV, DL.wNotV, DL.wAnd, DL.wOr, DL.wNot, DL.wCB, DL.wLen, DL.wInt, DL.wAbs, DL.wMax2, DL.wMin2, DL.wTupOf, DL.wUn, DL.wU, DL.wI0, DL.wI, DL.wTup, DL.wLst, DL.wPar, DL.wPar3, DL.wDrop, DL.wSl, DL.wSlL, DL.wPart, DL.wNoPart, DL.endD, DL.wLc, DL.lcStep, DL.wipeD, DL.wYes, DL.gdTup, DL.gdCons, DL.gdNil, DL.idTup, DL.idLst, DL.idEnumL, DL.idEnumT, DL.idZip, DL.idRng1, DL.idRng2, DL.wAny, DL.wAll, DL.wChain, DL.wFor, DL.wWhile, DL.wAppend, DL.wLstM, DL.gdSub, DL.wIsi, DL.tyD, true_and, DL.sz_0, DL.sz_1, DL.sz_2, DL.sz_3, DL.sz_4, DL.sz_5, DL.sz_6, DL.sz_7, DL.sz_8, DL.sz_9, DL.sz_10, DL.sz_11, DL.sz_12, DL.sz_13, DL.sz_14, DL.sz_15, DL.sz_16, DL.sz_17, DL.sz_18, DL.sz_19, DL.sz_20, DL.sz_21, DL.sz_22, DL.sz_23, DL.sz_24, DL.sz_25, DL.sz_26, DL.ixN50, DL.ixN51, DL.ixN52, DL.ixN53, DL.ixN54, DL.Mu.set_same, DL.Mu.set_set, eq_self, decide_true, Bool.not_true, Bool.not_false, Bool.or_false, Bool.or_true, Bool.true_or, Bool.false_or, DL.kit_NoneType_bool, DL.kit_NoneType_int, DL.kit_NoneType_str, DL.kit_NoneType_tuple, DL.kit_NoneType_list, DL.kit_NoneType_dict, DL.kit_bool_bool, DL.kit_bool_int, DL.kit_bool_str, DL.kit_bool_tuple, DL.kit_bool_list, DL.kit_bool_dict, DL.kit_int_bool, DL.kit_int_int, DL.kit_int_str, DL.kit_int_tuple, DL.kit_int_list, DL.kit_int_dict, DL.kit_str_bool, DL.kit_str_int, DL.kit_str_str, DL.kit_str_tuple, DL.kit_str_list, DL.kit_str_dict, DL.kit_tuple_bool, DL.kit_tuple_int, DL.kit_tuple_str, DL.kit_tuple_tuple, DL.kit_tuple_list, DL.kit_tuple_dict, DL.kit_list_bool, DL.kit_list_int, DL.kit_list_str, DL.kit_list_tuple, DL.kit_list_list, DL.kit_list_dict, reduceIte, cntD_n, cntD_s, List.map_cons, List.map_nil, List.length_cons, List.length_nil, List.replicate, List.cons_append, List.nil_append, List.getElem?_cons_zero, List.getElem?_cons_succ, List.set_cons_zero, List.set_cons_succ, onSome, atI_0, atI_1, atI_2, atI_3, atI_4, w_nw, w_na, w_nh, w_ng, w_wn, w_wa, w_wh, w_wg, w_an, w_aw, w_ah, w_ag, w_hn, w_hw, w_ha, w_hg, w_gn, w_gw, w_ga, w_gh, w_self, Bool.false_eq_true, if_false, if_true, Nat.reduceAdd, Nat.reduceSub]
      rw [fin, anyv]
      simp only [DL.wSeq, DL.wAsg, DL.wOp, DL.wVar, DL.wC, DL.wIx, DL.gdName, DL.startD, wishD, DL.pv_, DL.wIfS, DL.wTest, DL.wRet, DL.wIf, DL.wCall, DL.wCons, DL.wNil, DL.wNext, DL.wEq, DL.wNe, DL.wIsN, DL.wNotN, DL.isNonD, DL.onBl, DL.wAndV, DL.wOrV, DL.wNotV, DL.wAnd, DL.wOr, DL.wNot, DL.wCB, DL.wLen, DL.wInt, DL.wAbs, DL.wMax2, DL.wMin2, DL.wTupOf, DL.wUn, DL.wU, DL.wI0, DL.wI, DL.wTup, DL.wLst, DL.wPar, DL.wPar3, DL.wDrop, DL.wSl, DL.wSlL, DL.wPart, DL.wNoPart, DL.endD, DL.wLc, DL.lcStep, DL.wipeD, DL.wYes, DL.gdTup, DL.gdCons, DL.gdNil, DL.idTup, DL.idLst, DL.idEnumL, DL.idEnumT, DL.idZip, DL.idRng1, DL.idRng2, DL.wAny, DL.wAll, DL.wChain, DL.wFor, DL.wWhile, DL.wAppend, DL.wLstM, DL.gdSub, DL.wIsi, DL.tyD, true_and, DL.sz_0, DL.sz_1, DL.sz_2, DL.sz_3, DL.sz_4, DL.sz_5, DL.sz_6, DL.sz_7, DL.sz_8, DL.sz_9, DL.sz_10, DL.sz_11, DL.sz_12, DL.sz_13, DL.sz_14, DL.sz_15, DL.sz_16, DL.sz_17, DL.sz_18, DL.sz_19, DL.sz_20, DL.sz_21, DL.sz_22, DL.sz_23, DL.sz_24, DL.sz_25, DL.sz_26, DL.ixN50, DL.ixN51, DL.ixN52, DL.ixN53, DL.ixN54, DL.Mu.set_same, DL.Mu.set_set, eq_self, decide_true, Bool.not_true, Bool.not_false, Bool.or_false, Bool.or_true, Bool.true_or, Bool.false_or, DL.kit_NoneType_bool, DL.kit_NoneType_int, DL.kit_NoneType_str, DL.kit_NoneType_tuple, DL.kit_NoneType_list, DL.kit_NoneType_dict, DL.kit_bool_bool, DL.kit_bool_int, DL.kit_bool_str, DL.kit_bool_tuple, DL.kit_bool_list, DL.kit_bool_dict, DL.kit_int_bool, DL.kit_int_int, DL.kit_int_str, DL.kit_int_tuple, DL.kit_int_list, DL.kit_int_dict, DL.kit_str_bool, DL.kit_str_int, DL.kit_str_str, DL.kit_str_tuple, DL.kit_str_list, DL.kit_str_dict, DL.kit_tuple_bool, DL.kit_tuple_int, DL.kit_tuple_str, DL.kit_tuple_tuple, DL.kit_tuple_list, DL.kit_tuple_dict, DL.kit_list_bool, DL.kit_list_int, DL.kit_list_str, DL.kit_list_tuple, DL.kit_list_list, DL.kit_list_dict, reduceIte, cntD_n, cntD_s, List.map_cons, List.map_nil, List.length_cons, List.length_nil, List.replicate, List.cons_append, List.nil_append, List.getElem?_cons_zero, List.getElem?_cons_succ, List.set_cons_zero, List.set_cons_succ, onSome, atI_0, atI_1, atI_2, atI_3, atI_4, w_nw, w_na, w_nh, w_ng, w_wn, w_wa, w_wh, w_wg, w_an, w_aw, w_ah, w_ag, w_hn, w_hw, w_ha, w_hg, w_gn, w_gw, w_ga, w_gh, w_self, Bool.false_eq_true, if_false, if_true, Nat.reduceAdd, Nat.reduceSub]
      cases h : (hereF a ps t).any id <;> simp only [h, cntD_s, Bool.false_eq_true, if_false, if_true] at q ⊢ <;> exact rt_D q
  | again a kk =>
    simp only [DL.wSeq, DL.wAsg, DL.wOp, DL.wVar, DL.wC, DL.wIx, DL.gdName, DL.startD, wishD, DL.pv_, DL.wIfS, DL.wTest, DL.wRet, DL.wIf, DL.wCall, DL.wCons, DL.wNil, DL.wNext, DL.wEq, DL.wNe, DL.wIsN, DL.wNotN, DL.isNonD, DL.onBl, DL.wAndV, DL.wOrV, DL.wNotV, DL.wAnd, DL.wOr, DL.wNot, DL.wCB, DL.wLen, DL.wInt, DL.wAbs, DL.wMax2, DL.wMin2, DL.wTupOf, DL.wUn, DL.wU, DL.wI0, DL.wI, DL.wTup, DL.wLst, DL.wPar, DL.wPar3, DL.wDrop, DL.wSl, DL.wSlL, DL.wPart, DL.wNoPart, DL.endD, DL.wLc, DL.lcStep, DL.wipeD, DL.wYes, DL.gdTup, DL.gdCons, DL.gdNil, DL.idTup, DL.idLst, DL.idEnumL, DL.idEnumT, DL.idZip, DL.idRng1, DL.idRng2, DL.wAny, DL.wAll, DL.wChain, DL.wFor, DL.wWhile, DL.wAppend, DL.wLstM, DL.gdSub, DL.wIsi, DL.tyD, true_and, DL.sz_0, DL.sz_1, DL.sz_2, DL.sz_3, DL.sz_4, DL.sz_5, DL.sz_6, DL.sz_7, DL.sz_8, DL.sz_9, DL.sz_10, DL.sz_11, DL.sz_12, DL.sz_13, DL.sz_14, DL.sz_15, DL.sz_16, DL.sz_17, DL.sz_18, DL.sz_19, DL.sz_20, DL.sz_21, DL.sz_22, DL.sz_23, DL.sz_24, DL.sz_25, DL.sz_26, DL.ixN50, DL.ixN51, DL.ixN52, DL.ixN53, DL.ixN54, DL.Mu.set_same, DL.Mu.set_set, eq_self, decide_true, Bool.not_true, Bool.not_false, Bool.or_false, Bool.or_true, Bool.true_or, Bool.false_or, DL.kit_NoneType_bool, DL.kit_NoneType_int, DL.kit_NoneType_str, DL.kit_NoneType_tuple, DL.kit_NoneType_list, DL.kit_NoneType_dict, DL.kit_bool_bool, DL.kit_bool_int, DL.kit_bool_str, DL.kit_bool_tuple, DL.kit_bool_list, DL.kit_bool_dict, DL.kit_int_bool, DL.kit_int_int, DL.kit_int_str, DL.kit_int_tuple, DL.kit_int_list, DL.kit_int_dict, DL.kit_str_bool, DL.kit_str_int, DL.kit_str_str, DL.kit_str_tuple, DL.kit_str_list, DL.kit_str_dict, DL.kit_tuple_bool, DL.kit_tuple_int, DL.kit_tuple_str, DL.kit_tuple_tuple, DL.kit_tuple_list, DL.kit_tuple_dict, DL.kit_list_bool, DL.kit_list_int, DL.kit_list_str, DL.kit_list_tuple, DL.kit_list_list, DL.kit_list_dict, reduceIte, cntD_n, cntD_s, List.map_cons, List.map_nil, List.length_cons, List.length_nil, List.replicate, List.cons_append, List.nil_append, List.getElem?_cons_zero, List.getElem?_cons_succ, List.set_cons_zero, List.set_cons_succ, onSome, atI_0, atI_1, atI_2, atI_3, atI_4, w_nw, w_na, w_nh, w_ng, w_wn, w_wa, w_wh, w_wg, w_an, w_aw, w_ah, w_ag, w_hn, w_hw, w_ha, w_hg, w_gn, w_gw, w_ga, w_gh, w_self, Bool.false_eq_true, if_false, if_true, Nat.reduceAdd, Nat.reduceSub]
    rw [take_cast, cut_take, ← List.map_take]
    refine ⟨by rw [List.map_take]; exact hlen, fun D hD => lcW_map placeD (fun p => .bl (inArea a p)) (ps.take (t + 1)) μ _ hD (fun p hp ν k hk => ?_) ?_⟩
    · (try simp only [DL.wSeq, DL.wAsg, DL.wOp, DL.wVar, DL.wC, DL.wIx, DL.gdName, DL.startD, wishD, DL.pv_, DL.wIfS, DL.wTest, DL.wRet, DL.wIf, DL.wCall, DL.wCons, DL.wNil, DL.wNext, DL.wEq, DL.wNe, DL.wIsN, DL.wNotN, DL.isNonD, DL.onBl, DL.wAndV, DL.wOrV, DL.wNotV, DL.wAnd, DL.wOr, DL.wNot, DL.wCB, DL.wLen, DL.wInt, DL.wAbs, DL.wMax2, DL.wMin2, DL.wTupOf, DL.wUn, DL.wU, DL.wI0, DL.wI, DL.wTup, DL.wLst, DL.wPar, DL.wPar3, DL.wDrop, DL.wSl, DL.wSlL, DL.wPart, DL.wNoPart, DL.endD, DL.wLc, DL.lcStep, DL.wipeD, DL.wYes, DL.gdTup, DL.gdCons, DL.gdNil, DL.idTup, DL.idLst, DL.idEnumL, DL.idEnumT, DL.idZip, DL.idRng1, DL.idRng2, DL.wAny, DL.wAll, DL.wChain, DL.wFor, DL.wWhile, DL.wAppend, DL.wLstM, DL.gdSub, DL.wIsi, DL.tyD, true_and, DL.sz_0, DL.sz_1, DL.sz_2, DL.sz_3, DL.sz_4, DL.sz_5, DL.sz_6, DL.sz_7, DL.sz_8, DL.sz_9, DL.sz_10, DL.sz_11, DL.sz_12, DL.sz_13, DL.sz_14, DL.sz_15, DL.sz_16, DL.sz_17, DL.sz_18, DL.sz_19, DL.sz_20, DL.sz_21, DL.sz_22, DL.sz_23, DL.sz_24, DL.sz_25, DL.sz_26, DL.ixN50, DL.ixN51, DL.ixN52, DL.ixN53, DL.ixN54, DL.Mu.set_same, DL.Mu.set_set, eq_self, decide_true, Bool.not_true, Bool.not_false, Bool.or_false, Bool.or_true, Bool.true_or, Bool.false_or, DL.kit_NoneType_bool, DL.kit_NoneType_int, DL.kit_NoneType_str, DL.kit_NoneType_tuple, DL.kit_NoneType_list, DL.kit_NoneType_dict, DL.kit_bool_bool, DL.kit_bool_int, DL.kit_bool_str, DL.kit_bool_tuple, DL.kit_bool_list, DL.kit_bool_dict, DL.kit_int_bool, DL.kit_int_int, DL.kit_int_str, DL.kit_int_tuple, DL.kit_int_list, DL.kit_int_dict, DL.kit_str_bool, DL.kit_str_int, DL.kit_str_str, DL.kit_str_tuple, DL.kit_str_list, DL.kit_str_dict, DL.kit_tuple_bool, DL.kit_tuple_int, DL.kit_tuple_str, DL.kit_tuple_tuple, DL.kit_tuple_list, DL.kit_tuple_dict, DL.kit_list_bool, DL.kit_list_int, DL.kit_list_str, DL.kit_list_tuple, DL.kit_list_list, DL.kit_list_dict, reduceIte, cntD_n, cntD_s, List.map_cons, List.map_nil, List.length_cons, List.length_nil, List.replicate, List.cons_append, List.nil_append, List.getElem?_cons_zero, List.getElem?_cons_succ, List.set_cons_zero, List.set_cons_succ, onSome, atI_0, atI_1, atI_2, atI_3, atI_4, w_nw, w_na, w_nh, w_ng, w_wn, w_wa, w_wh, w_wg, w_an, w_aw, w_ah, w_ag, w_hn, w_hw, w_ha, w_hg, w_gn, w_gw, w_ga, w_gh, w_self, Bool.false_eq_true, if_false, if_true, Nat.reduceAdd, Nat.reduceSub])
      exact hin hw.1 p hp ν _ hk
    · (try simp only [DL.wSeq, DL.wAsg, DL.wOp, DL.wVar, DL.wC, DL.wIx, DL.gdName, DL.startD, wishD, DL.pv_, DL.wIfS, DL.wTest, DL.wRet, DL.wIf, DL.wCall, DL.wCons, DL.wNil, DL.wNext, DL.wEq, DL.wNe, DL.wIsN, DL.wNotN, DL.isNonD, DL.onBl, DL.wAndV, DL.wOrV, DL.wNotV, DL.wAnd, DL.wOr, DL.wNot, DL.wCB, DL.wLen, DL.wInt, DL.wAbs, DL.wMax2, DL.wMin2, DL.wTupOf, DL.wUn, DL.wU, DL.wI0, DL.wI, DL.wTup, DL.wLst, DL.wPar, DL.wPar3, DL.wDrop, DL.wSl, DL.wSlL, DL.wPart, DL.wNoPart, DL.endD, DL.wLc, DL.lcStep, DL.wipeD, DL.wYes, DL.gdTup, DL.gdCons, DL.gdNil, DL.idTup, DL.idLst, DL.idEnumL, DL.idEnumT, DL.idZip, DL.idRng1, DL.idRng2, DL.wAny, DL.wAll, DL.wChain, DL.wFor, DL.wWhile, DL.wAppend, DL.wLstM, DL.gdSub, DL.wIsi, DL.tyD, true_and, DL.sz_0, DL.sz_1, DL.sz_2, DL.sz_3, DL.sz_4, DL.sz_5, DL.sz_6, DL.sz_7, DL.sz_8, DL.sz_9, DL.sz_10, DL.sz_11, DL.sz_12, DL.sz_13, DL.sz_14, DL.sz_15, DL.sz_16, DL.sz_17, DL.sz_18, DL.sz_19, DL.sz_20, DL.sz_21, DL.sz_22, DL.sz_23, DL.sz_24, DL.sz_25, DL.sz_26, DL.ixN50, DL.ixN51, DL.ixN52, DL.ixN53, DL.ixN54, DL.Mu.set_same, DL.Mu.set_set, eq_self, decide_true, Bool.not_true, Bool.not_false, Bool.or_false, Bool.or_true, Bool.true_or, Bool.false_or, DL.kit_NoneType_bool, DL.kit_NoneType_int, DL.kit_NoneType_str, DL.kit_NoneType_tuple, DL.kit_NoneType_list, DL.kit_NoneType_dict, DL.kit_bool_bool, DL.kit_bool_int, DL.kit_bool_str, DL.kit_bool_tuple, DL.kit_bool_list, DL.kit_bool_dict, DL.kit_int_bool, DL.kit_int_int, DL.kit_int_str, DL.kit_int_tuple, DL.kit_int_list, DL.kit_int_dict, DL.kit_str_bool, DL.kit_str_int, DL.kit_str_str, DL.kit_str_tuple, DL.kit_str_list, DL.kit_str_dict, DL.kit_tuple_bool, DL.kit_tuple_int, DL.kit_tuple_str, DL.kit_tuple_tuple, DL.kit_tuple_list, DL.kit_tuple_dict, DL.kit_list_bool, DL.kit_list_int, DL.kit_list_str, DL.kit_list_tuple, DL.kit_list_list, DL.kit_list_dict, reduceIte, cntD_n, cntD_s, List.map_cons, List.map_nil, List.length_cons, List.length_nil, List.replicate, List.cons_append, List.nil_append, List.getElem?_cons_zero, List.getElem?_cons_succ, List.set_cons_zero, List.set_cons_succ, onSome, atI_0, atI_1, atI_2, atI_3, atI_4, w_nw, w_na, w_nh, w_ng, w_wn, w_wa, w_wh, w_wg, w_an, w_aw, w_ah, w_ag, w_hn, w_hw, w_ha, w_hg, w_gn, w_gw, w_ga, w_gh, w_self, Bool.false_eq_true, if_false, if_true, Nat.reduceAdd, Nat.reduceSub])
      rw [fin]
      -- while many <= at and not here[at - many]
      simp only [cntD_s] at q
      have hl := here_len a
      generalize hL : hereF a ps t = L at q hl here_at ⊢
      have ha := here_at a
      rw [hL] at ha
      refine ⟨fun m ρ μ' => μ' = μ ∧ ∃ j : Nat, j ≤ trail L ∧ m = trail L - j ∧ ρ = [some (.tup [.str "again", areaD a, .int kk]), some (.lst (ps.map placeD)), some (.int t), some (.str "again"), some (.lst (L.map DV.bl)), some (.int ((j : Nat) : Int)), none, none, none, none], ⟨_, rfl, 0, Nat.zero_le _, rfl, rfl⟩, ?_⟩
      rintro m ρ μ' ⟨rfl, j, hj, rfl, rfl⟩
      simp only [DL.wSeq, DL.wAsg, DL.wOp, DL.wVar, DL.wC, DL.wIx, DL.gdName, DL.startD, wishD, DL.pv_, DL.wIfS, DL.wTest, DL.wRet, DL.wIf, DL.wCall, DL.wCons, DL.wNil, DL.wNext, DL.wEq, DL.wNe, DL.wIsN, DL.wNotN, DL.isNonD, DL.onBl, DL.wAndV, DL.wOrV, DL.wNotV, DL.wAnd, DL.wOr, DL.wNot, DL.wCB, DL.wLen, DL.wInt, DL.wAbs, DL.wMax2, DL.wMin2, DL.wTupOf, DL.wUn, DL.wU, DL.wI0, DL.wI, DL.wTup, DL.wLst, DL.wPar, DL.wPar3, DL.wDrop, DL.wSl, DL.wSlL, DL.wPart, DL.wNoPart, DL.endD, DL.wLc, DL.lcStep, DL.wipeD, DL.wYes, DL.gdTup, DL.gdCons, DL.gdNil, DL.idTup, DL.idLst, DL.idEnumL, DL.idEnumT, DL.idZip, DL.idRng1, DL.idRng2, DL.wAny, DL.wAll, DL.wChain, DL.wFor, DL.wWhile, DL.wAppend, DL.wLstM, DL.gdSub, DL.wIsi, DL.tyD, true_and, DL.sz_0, DL.sz_1, DL.sz_2, DL.sz_3, DL.sz_4, DL.sz_5, DL.sz_6, DL.sz_7, DL.sz_8, DL.sz_9, DL.sz_10, DL.sz_11, DL.sz_12, DL.sz_13, DL.sz_14, DL.sz_15, DL.sz_16, DL.sz_17, DL.sz_18, DL.sz_19, DL.sz_20, DL.sz_21, DL.sz_22, DL.sz_23, DL.sz_24, DL.sz_25, DL.sz_26, DL.ixN50, DL.ixN51, DL.ixN52, DL.ixN53, DL.ixN54, DL.Mu.set_same, DL.Mu.set_set, eq_self, decide_true, Bool.not_true, Bool.not_false, Bool.or_false, Bool.or_true, Bool.true_or, Bool.false_or, DL.kit_NoneType_bool, DL.kit_NoneType_int, DL.kit_NoneType_str, DL.kit_NoneType_tuple, DL.kit_NoneType_list, DL.kit_NoneType_dict, DL.kit_bool_bool, DL.kit_bool_int, DL.kit_bool_str, DL.kit_bool_tuple, DL.kit_bool_list, DL.kit_bool_dict, DL.kit_int_bool, DL.kit_int_int, DL.kit_int_str, DL.kit_int_tuple, DL.kit_int_list, DL.kit_int_dict, DL.kit_str_bool, DL.kit_str_int, DL.kit_str_str, DL.kit_str_tuple, DL.kit_str_list, DL.kit_str_dict, DL.kit_tuple_bool, DL.kit_tuple_int, DL.kit_tuple_str, DL.kit_tuple_tuple, DL.kit_tuple_list, DL.kit_tuple_dict, DL.kit_list_bool, DL.kit_list_int, DL.kit_list_str, DL.kit_list_tuple, DL.kit_list_list, DL.kit_list_dict, reduceIte, cntD_n, cntD_s, List.map_cons, List.map_nil, List.length_cons, List.length_nil, List.replicate, List.cons_append, List.nil_append, List.getElem?_cons_zero, List.getElem?_cons_succ, List.set_cons_zero, List.set_cons_succ, onSome, atI_0, atI_1, atI_2, atI_3, atI_4, w_nw, w_na, w_nh, w_ng, w_wn, w_wa, w_wh, w_wg, w_an, w_aw, w_ah, w_ag, w_hn, w_hw, w_ha, w_hg, w_gn, w_gw, w_ga, w_gh, w_self, Bool.false_eq_true, if_false, if_true, Nat.reduceAdd, Nat.reduceSub]
      by_cases h : j < trail L
      · obtain ⟨h1, h2⟩ := trail_at hl h
        rw [decide_eq_true (by omega), if_pos rfl, show (t : Int) - j = ((t - j : Nat) : Int) by omega, atI_nat (ha (t - j) (by omega)), h2]
        simp only [DL.wSeq, DL.wAsg, DL.wOp, DL.wVar, DL.wC, DL.wIx, DL.gdName, DL.startD, wishD, DL.pv_, DL.wIfS, DL.wTest, DL.wRet, DL.wIf, DL.wCall, DL.wCons, DL.wNil, DL.wNext, DL.wEq, DL.wNe, DL.wIsN, DL.wNotN, DL.isNonD, DL.onBl, DL.wAndV, DL.wOrV, DL.wNotV, DL.wAnd, DL.wOr, DL.wNot, DL.wCB, DL.wLen, DL.wInt, DL.wAbs, DL.wMax2, DL.wMin2, DL.wTupOf, DL.wUn, DL.wU, DL.wI0, DL.wI, DL.wTup, DL.wLst, DL.wPar, DL.wPar3, DL.wDrop, DL.wSl, DL.wSlL, DL.wPart, DL.wNoPart, DL.endD, DL.wLc, DL.lcStep, DL.wipeD, DL.wYes, DL.gdTup, DL.gdCons, DL.gdNil, DL.idTup, DL.idLst, DL.idEnumL, DL.idEnumT, DL.idZip, DL.idRng1, DL.idRng2, DL.wAny, DL.wAll, DL.wChain, DL.wFor, DL.wWhile, DL.wAppend, DL.wLstM, DL.gdSub, DL.wIsi, DL.tyD, true_and, DL.sz_0, DL.sz_1, DL.sz_2, DL.sz_3, DL.sz_4, DL.sz_5, DL.sz_6, DL.sz_7, DL.sz_8, DL.sz_9, DL.sz_10, DL.sz_11, DL.sz_12, DL.sz_13, DL.sz_14, DL.sz_15, DL.sz_16, DL.sz_17, DL.sz_18, DL.sz_19, DL.sz_20, DL.sz_21, DL.sz_22, DL.sz_23, DL.sz_24, DL.sz_25, DL.sz_26, DL.ixN50, DL.ixN51, DL.ixN52, DL.ixN53, DL.ixN54, DL.Mu.set_same, DL.Mu.set_set, eq_self, decide_true, Bool.not_true, Bool.not_false, Bool.or_false, Bool.or_true, Bool.true_or, Bool.false_or, DL.kit_NoneType_bool, DL.kit_NoneType_int, DL.kit_NoneType_str, DL.kit_NoneType_tuple, DL.kit_NoneType_list, DL.kit_NoneType_dict, DL.kit_bool_bool, DL.kit_bool_int, DL.kit_bool_str, DL.kit_bool_tuple, DL.kit_bool_list, DL.kit_bool_dict, DL.kit_int_bool, DL.kit_int_int, DL.kit_int_str, DL.kit_int_tuple, DL.kit_int_list, DL.kit_int_dict, DL.kit_str_bool, DL.kit_str_int, DL.kit_str_str, DL.kit_str_tuple, DL.kit_str_list, DL.kit_str_dict, DL.kit_tuple_bool, DL.kit_tuple_int, DL.kit_tuple_str, DL.kit_tuple_tuple, DL.kit_tuple_list, DL.kit_tuple_dict, DL.kit_list_bool, DL.kit_list_int, DL.kit_list_str, DL.kit_list_tuple, DL.kit_list_list, DL.kit_list_dict, reduceIte, cntD_n, cntD_s, List.map_cons, List.map_nil, List.length_cons, List.length_nil, List.replicate, List.cons_append, List.nil_append, List.getElem?_cons_zero, List.getElem?_cons_succ, List.set_cons_zero, List.set_cons_succ, onSome, atI_0, atI_1, atI_2, atI_3, atI_4, w_nw, w_na, w_nh, w_ng, w_wn, w_wa, w_wh, w_wg, w_an, w_aw, w_ah, w_ag, w_hn, w_hw, w_ha, w_hg, w_gn, w_gw, w_ga, w_gh, w_self, Bool.false_eq_true, if_false, if_true, Nat.reduceAdd, Nat.reduceSub]
        refine ⟨trail L - (j + 1), by omega, j + 1, by omega, rfl, ?_⟩
        rw [take_cast]
      · have ej : j = trail L := by omega
        subst ej
        by_cases h3 : trail L ≤ t
        · rw [decide_eq_true (by omega), if_pos rfl, show (t : Int) - (trail L : Nat) = ((t - trail L : Nat) : Int) by omega, atI_nat (ha (t - trail L) (by omega)), trail_stop hl h3]
          simp only [DL.wSeq, DL.wAsg, DL.wOp, DL.wVar, DL.wC, DL.wIx, DL.gdName, DL.startD, wishD, DL.pv_, DL.wIfS, DL.wTest, DL.wRet, DL.wIf, DL.wCall, DL.wCons, DL.wNil, DL.wNext, DL.wEq, DL.wNe, DL.wIsN, DL.wNotN, DL.isNonD, DL.onBl, DL.wAndV, DL.wOrV, DL.wNotV, DL.wAnd, DL.wOr, DL.wNot, DL.wCB, DL.wLen, DL.wInt, DL.wAbs, DL.wMax2, DL.wMin2, DL.wTupOf, DL.wUn, DL.wU, DL.wI0, DL.wI, DL.wTup, DL.wLst, DL.wPar, DL.wPar3, DL.wDrop, DL.wSl, DL.wSlL, DL.wPart, DL.wNoPart, DL.endD, DL.wLc, DL.lcStep, DL.wipeD, DL.wYes, DL.gdTup, DL.gdCons, DL.gdNil, DL.idTup, DL.idLst, DL.idEnumL, DL.idEnumT, DL.idZip, DL.idRng1, DL.idRng2, DL.wAny, DL.wAll, DL.wChain, DL.wFor, DL.wWhile, DL.wAppend, DL.wLstM, DL.gdSub, DL.wIsi, DL.tyD, true_and, DL.sz_0, DL.sz_1, DL.sz_2, DL.sz_3, DL.sz_4, DL.sz_5, DL.sz_6, DL.sz_7, DL.sz_8, DL.sz_9, DL.sz_10, DL.sz_11, DL.sz_12, DL.sz_13, DL.sz_14, DL.sz_15, DL.sz_16, DL.sz_17, DL.sz_18, DL.sz_19, DL.sz_20, DL.sz_21, DL.sz_22, DL.sz_23, DL.sz_24, DL.sz_25, DL.sz_26, DL.ixN50, DL.ixN51, DL.ixN52, DL.ixN53, DL.ixN54, DL.Mu.set_same, DL.Mu.set_set, eq_self, decide_true, Bool.not_true, Bool.not_false, Bool.or_false, Bool.or_true, Bool.true_or, Bool.false_or, DL.kit_NoneType_bool, DL.kit_NoneType_int, DL.kit_NoneType_str, DL.kit_NoneType_tuple, DL.kit_NoneType_list, DL.kit_NoneType_dict, DL.kit_bool_bool, DL.kit_bool_int, DL.kit_bool_str, DL.kit_bool_tuple, DL.kit_bool_list, DL.kit_bool_dict, DL.kit_int_bool, DL.kit_int_int, DL.kit_int_str, DL.kit_int_tuple, DL.kit_int_list, DL.kit_int_dict, DL.kit_str_bool, DL.kit_str_int, DL.kit_str_str, DL.kit_str_tuple, DL.kit_str_list, DL.kit_str_dict, DL.kit_tuple_bool, DL.kit_tuple_int, DL.kit_tuple_str, DL.kit_tuple_tuple, DL.kit_tuple_list, DL.kit_tuple_dict, DL.kit_list_bool, DL.kit_list_int, DL.kit_list_str, DL.kit_list_tuple, DL.kit_list_list, DL.kit_list_dict, reduceIte, cntD_n, cntD_s, List.map_cons, List.map_nil, List.length_cons, List.length_nil, List.replicate, List.cons_append, List.nil_append, List.getElem?_cons_zero, List.getElem?_cons_succ, List.set_cons_zero, List.set_cons_succ, onSome, atI_0, atI_1, atI_2, atI_3, atI_4, w_nw, w_na, w_nh, w_ng, w_wn, w_wa, w_wh, w_wg, w_an, w_aw, w_ah, w_ag, w_hn, w_hw, w_ha, w_hg, w_gn, w_gw, w_ga, w_gh, w_self, Bool.false_eq_true, if_false, if_true, Nat.reduceAdd, Nat.reduceSub]
          exact rt_D q
        · rw [decide_eq_false (by omega), if_neg Bool.false_ne_true]
          (try simp only [DL.wSeq, DL.wAsg, DL.wOp, DL.wVar, DL.wC, DL.wIx, DL.gdName, DL.startD, wishD, DL.pv_, DL.wIfS, DL.wTest, DL.wRet, DL.wIf, DL.wCall, DL.wCons, DL.wNil, DL.wNext, DL.wEq, DL.wNe, DL.wIsN, DL.wNotN, DL.isNonD, DL.onBl, DL.wAndV, DL.wOrV, DL.wNotV, DL.wAnd, DL.wOr, DL.wNot, DL.wCB, DL.wLen, DL.wInt, DL.wAbs, DL.wMax2, DL.wMin2, DL.wTupOf, DL.wUn, DL.wU, DL.wI0, DL.wI, DL.wTup, DL.wLst, DL.wPar, DL.wPar3, DL.wDrop, DL.wSl, DL.wSlL, DL.wPart, DL.wNoPart, DL.endD, DL.wLc, DL.lcStep, DL.wipeD, DL.wYes, DL.gdTup, DL.gdCons, DL.gdNil, DL.idTup, DL.idLst, DL.idEnumL, DL.idEnumT, DL.idZip, DL.idRng1, DL.idRng2, DL.wAny, DL.wAll, DL.wChain, DL.wFor, DL.wWhile, DL.wAppend, DL.wLstM, DL.gdSub, DL.wIsi, DL.tyD, true_and, DL.sz_0, DL.sz_1, DL.sz_2, DL.sz_3, DL.sz_4, DL.sz_5, DL.sz_6, DL.sz_7, DL.sz_8, DL.sz_9, DL.sz_10, DL.sz_11, DL.sz_12, DL.sz_13, DL.sz_14, DL.sz_15, DL.sz_16, DL.sz_17, DL.sz_18, DL.sz_19, DL.sz_20, DL.sz_21, DL.sz_22, DL.sz_23, DL.sz_24, DL.sz_25, DL.sz_26, DL.ixN50, DL.ixN51, DL.ixN52, DL.ixN53, DL.ixN54, DL.Mu.set_same, DL.Mu.set_set, eq_self, decide_true, Bool.not_true, Bool.not_false, Bool.or_false, Bool.or_true, Bool.true_or, Bool.false_or, DL.kit_NoneType_bool, DL.kit_NoneType_int, DL.kit_NoneType_str, DL.kit_NoneType_tuple, DL.kit_NoneType_list, DL.kit_NoneType_dict, DL.kit_bool_bool, DL.kit_bool_int, DL.kit_bool_str, DL.kit_bool_tuple, DL.kit_bool_list, DL.kit_bool_dict, DL.kit_int_bool, DL.kit_int_int, DL.kit_int_str, DL.kit_int_tuple, DL.kit_int_list, DL.kit_int_dict, DL.kit_str_bool, DL.kit_str_int, DL.kit_str_str, DL.kit_str_tuple, DL.kit_str_list, DL.kit_str_dict, DL.kit_tuple_bool, DL.kit_tuple_int, DL.kit_tuple_str, DL.kit_tuple_tuple, DL.kit_tuple_list, DL.kit_tuple_dict, DL.kit_list_bool, DL.kit_list_int, DL.kit_list_str, DL.kit_list_tuple, DL.kit_list_list, DL.kit_list_dict, reduceIte, cntD_n, cntD_s, List.map_cons, List.map_nil, List.length_cons, List.length_nil, List.replicate, List.cons_append, List.nil_append, List.getElem?_cons_zero, List.getElem?_cons_succ, List.set_cons_zero, List.set_cons_succ, onSome, atI_0, atI_1, atI_2, atI_3, atI_4, w_nw, w_na, w_nh, w_ng, w_wn, w_wa, w_wh, w_wg, w_an, w_aw, w_ah, w_ag, w_hn, w_hw, w_ha, w_hg, w_gn, w_gw, w_ga, w_gh, w_self, Bool.false_eq_true, if_false, if_true, Nat.reduceAdd, Nat.reduceSub])
          exact rt_D q
  | ahead a b =>
    simp only [DL.wSeq, DL.wAsg, DL.wOp, DL.wVar, DL.wC, DL.wIx, DL.gdName, DL.startD, wishD, DL.pv_, DL.wIfS, DL.wTest, DL.wRet, DL.wIf, DL.wCall, DL.wCons, DL.wNil, DL.wNext, DL.wEq, DL.wNe, DL.wIsN, DL.wNotN, DL.isNonD, DL.onBl, DL.wAndV, DL.wOrV, DL.wNotV, DL.wAnd, DL.wOr, DL.wNot, DL.wCB, DL.wLen, DL.wInt, DL.wAbs, DL.wMax2, DL.wMin2, DL.wTupOf, DL.wUn, DL.wU, DL.wI0, DL.wI, DL.wTup, DL.wLst, DL.wPar, DL.wPar3, DL.wDrop, DL.wSl, DL.wSlL, DL.wPart, DL.wNoPart, DL.endD, DL.wLc, DL.lcStep, DL.wipeD, DL.wYes, DL.gdTup, DL.gdCons, DL.gdNil, DL.idTup, DL.idLst, DL.idEnumL, DL.idEnumT, DL.idZip, DL.idRng1, DL.idRng2, DL.wAny, DL.wAll, DL.wChain, DL.wFor, DL.wWhile, DL.wAppend, DL.wLstM, DL.gdSub, DL.wIsi, DL.tyD, true_and, DL.sz_0, DL.sz_1, DL.sz_2, DL.sz_3, DL.sz_4, DL.sz_5, DL.sz_6, DL.sz_7, DL.sz_8, DL.sz_9, DL.sz_10, DL.sz_11, DL.sz_12, DL.sz_13, DL.sz_14, DL.sz_15, DL.sz_16, DL.sz_17, DL.sz_18, DL.sz_19, DL.sz_20, DL.sz_21, DL.sz_22, DL.sz_23, DL.sz_24, DL.sz_25, DL.sz_26, DL.ixN50, DL.ixN51, DL.ixN52, DL.ixN53, DL.ixN54, DL.Mu.set_same, DL.Mu.set_set, eq_self, decide_true, Bool.not_true, Bool.not_false, Bool.or_false, Bool.or_true, Bool.true_or, Bool.false_or, DL.kit_NoneType_bool, DL.kit_NoneType_int, DL.kit_NoneType_str, DL.kit_NoneType_tuple, DL.kit_NoneType_list, DL.kit_NoneType_dict, DL.kit_bool_bool, DL.kit_bool_int, DL.kit_bool_str, DL.kit_bool_tuple, DL.kit_bool_list, DL.kit_bool_dict, DL.kit_int_bool, DL.kit_int_int, DL.kit_int_str, DL.kit_int_tuple, DL.kit_int_list, DL.kit_int_dict, DL.kit_str_bool, DL.kit_str_int, DL.kit_str_str, DL.kit_str_tuple, DL.kit_str_list, DL.kit_str_dict, DL.kit_tuple_bool, DL.kit_tuple_int, DL.kit_tuple_str, DL.kit_tuple_tuple, DL.kit_tuple_list, DL.kit_tuple_dict, DL.kit_list_bool, DL.kit_list_int, DL.kit_list_str, DL.kit_list_tuple, DL.kit_list_list, DL.kit_list_dict, reduceIte, cntD_n, cntD_s, List.map_cons, List.map_nil, List.length_cons, List.length_nil, List.replicate, List.cons_append, List.nil_append, List.getElem?_cons_zero, List.getElem?_cons_succ, List.set_cons_zero, List.set_cons_succ, onSome, atI_0, atI_1, atI_2, atI_3, atI_4, w_nw, w_na, w_nh, w_ng, w_wn, w_wa, w_wh, w_wg, w_an, w_aw, w_ah, w_ag, w_hn, w_hw, w_ha, w_hg, w_gn, w_gw, w_ga, w_gh, w_self, Bool.false_eq_true, if_false, if_true, Nat.reduceAdd, Nat.reduceSub]
    rw [take_cast, cut_take, ← List.map_take]
    refine ⟨by rw [List.map_take]; exact hlen, fun D hD => lcW_map placeD (fun p => .bl (inArea a p)) (ps.take (t + 1)) μ _ hD (fun p hp ν k hk => ?_) ?_⟩
    · (try simp only [DL.wSeq, DL.wAsg, DL.wOp, DL.wVar, DL.wC, DL.wIx, DL.gdName, DL.startD, wishD, DL.pv_, DL.wIfS, DL.wTest, DL.wRet, DL.wIf, DL.wCall, DL.wCons, DL.wNil, DL.wNext, DL.wEq, DL.wNe, DL.wIsN, DL.wNotN, DL.isNonD, DL.onBl, DL.wAndV, DL.wOrV, DL.wNotV, DL.wAnd, DL.wOr, DL.wNot, DL.wCB, DL.wLen, DL.wInt, DL.wAbs, DL.wMax2, DL.wMin2, DL.wTupOf, DL.wUn, DL.wU, DL.wI0, DL.wI, DL.wTup, DL.wLst, DL.wPar, DL.wPar3, DL.wDrop, DL.wSl, DL.wSlL, DL.wPart, DL.wNoPart, DL.endD, DL.wLc, DL.lcStep, DL.wipeD, DL.wYes, DL.gdTup, DL.gdCons, DL.gdNil, DL.idTup, DL.idLst, DL.idEnumL, DL.idEnumT, DL.idZip, DL.idRng1, DL.idRng2, DL.wAny, DL.wAll, DL.wChain, DL.wFor, DL.wWhile, DL.wAppend, DL.wLstM, DL.gdSub, DL.wIsi, DL.tyD, true_and, DL.sz_0, DL.sz_1, DL.sz_2, DL.sz_3, DL.sz_4, DL.sz_5, DL.sz_6, DL.sz_7, DL.sz_8, DL.sz_9, DL.sz_10, DL.sz_11, DL.sz_12, DL.sz_13, DL.sz_14, DL.sz_15, DL.sz_16, DL.sz_17, DL.sz_18, DL.sz_19, DL.sz_20, DL.sz_21, DL.sz_22, DL.sz_23, DL.sz_24, DL.sz_25, DL.sz_26, DL.ixN50, DL.ixN51, DL.ixN52, DL.ixN53, DL.ixN54, DL.Mu.set_same, DL.Mu.set_set, eq_self, decide_true, Bool.not_true, Bool.not_false, Bool.or_false, Bool.or_true, Bool.true_or, Bool.false_or, DL.kit_NoneType_bool, DL.kit_NoneType_int, DL.kit_NoneType_str, DL.kit_NoneType_tuple, DL.kit_NoneType_list, DL.kit_NoneType_dict, DL.kit_bool_bool, DL.kit_bool_int, DL.kit_bool_str, DL.kit_bool_tuple, DL.kit_bool_list, DL.kit_bool_dict, DL.kit_int_bool, DL.kit_int_int, DL.kit_int_str, DL.kit_int_tuple, DL.kit_int_list, DL.kit_int_dict, DL.kit_str_bool, DL.kit_str_int, DL.kit_str_str, DL.kit_str_tuple, DL.kit_str_list, DL.kit_str_dict, DL.kit_tuple_bool, DL.kit_tuple_int, DL.kit_tuple_str, DL.kit_tuple_tuple, DL.kit_tuple_list, DL.kit_tuple_dict, DL.kit_list_bool, DL.kit_list_int, DL.kit_list_str, DL.kit_list_tuple, DL.kit_list_list, DL.kit_list_dict, reduceIte, cntD_n, cntD_s, List.map_cons, List.map_nil, List.length_cons, List.length_nil, List.replicate, List.cons_append, List.nil_append, List.getElem?_cons_zero, List.getElem?_cons_succ, List.set_cons_zero, List.set_cons_succ, onSome, atI_0, atI_1, atI_2, atI_3, atI_4, w_nw, w_na, w_nh, w_ng, w_wn, w_wa, w_wh, w_wg, w_an, w_aw, w_ah, w_ag, w_hn, w_hw, w_ha, w_hg, w_gn, w_gw, w_ga, w_gh, w_self, Bool.false_eq_true, if_false, if_true, Nat.reduceAdd, Nat.reduceSub])
      exact hin hw.1 p hp ν _ hk
    · simp only [DL.wSeq, DL.wAsg, DL.wOp, DL.wVar, DL.wC, DL.wIx, DL.gdName, DL.startD, wishD, DL.pv_, DL.wIfS, DL.wTest, DL.wRet, DL.wIf, DL.wCall, DL.wCons, DL.wNil, DL.wNext, DL.wEq, DL.wNe, DL.wIsN, DL.wNotN, DL.isNonD, DL.onBl, DL.wAndV, DL.wOrV, DL.wNotV, DL.wAnd, DL.wOr, DL.wNot, DL.wCB, DL.wLen, DL.wInt, DL.wAbs, DL.wMax2, DL.wMin2, DL.wTupOf, DL.wUn, DL.wU, DL.wI0, DL.wI, DL.wTup, DL.wLst, DL.wPar, DL.wPar3, DL.wDrop, DL.wSl, DL.wSlL, DL.wPart, DL.wNoPart, DL.endD, DL.wLc, DL.lcStep, DL.wipeD, DL.wYes, DL.gdTup, DL.gdCons, DL.gdNil, DL.idTup, DL.idLst, DL.idEnumL, DL.idEnumT, DL.idZip, DL.idRng1, DL.idRng2, DL.wAny, DL.wAll, DL.wChain, DL.wFor, DL.wWhile, DL.wAppend, DL.wLstM, DL.gdSub, DL.wIsi, DL.tyD, true_and, DL.sz_0, DL.sz_1, DL.sz_2, DL.sz_3, DL.sz_4, DL.sz_5, DL.sz_6, DL.sz_7, DL.sz_8, DL.sz_9, DL.sz_10, DL.sz_11, DL.sz_12, DL.sz_13, DL.sz_14, DL.sz_15, DL.sz_16, DL.sz_17, DL.sz_18, DL.sz_19, DL.sz_20, DL.sz_21, DL.sz_22, DL.sz_23, DL.sz_24, DL.sz_25, DL.sz_26, DL.ixN50, DL.ixN51, DL.ixN52, DL.ixN53, DL.ixN54, DL.Mu.set_same, DL.Mu.set_set, eq_self, decide_true, Bool.not_true, Bool.not_false, Bool.or_false, Bool.or_true, Bool.true_or, Bool.false_or, DL.kit_NoneType_bool, DL.kit_NoneType_int, DL.kit_NoneType_str, DL.kit_NoneType_tuple, DL.kit_NoneType_list, DL.kit_NoneType_dict, DL.kit_bool_bool, DL.kit_bool_int, DL.kit_bool_str, DL.kit_bool_tuple, DL.kit_bool_list, DL.kit_bool_dict, DL.kit_int_bool, DL.kit_int_int, DL.kit_int_str, DL.kit_int_tuple, DL.kit_int_list, DL.kit_int_dict, DL.kit_str_bool, DL.kit_str_int, DL.kit_str_str, DL.kit_str_tuple, DL.kit_str_list, DL.kit_str_dict, DL.kit_tuple_bool, DL.kit_tuple_int, DL.kit_tuple_str, DL.kit_tuple_tuple, DL.kit_tuple_list, DL.kit_tuple_dict, DL.kit_list_bool, DL.kit_list_int, DL.kit_list_str, DL.kit_list_tuple, DL.kit_list_list, DL.kit_list_dict, reduceIte, cntD_n, cntD_s, List.map_cons, List.map_nil, List.length_cons, List.length_nil, List.replicate, List.cons_append, List.nil_append, List.getElem?_cons_zero, List.getElem?_cons_succ, List.set_cons_zero, List.set_cons_succ, onSome, atI_0, atI_1, atI_2, atI_3, atI_4, w_nw, w_na, w_nh, w_ng, w_wn, w_wa, w_wh, w_wg, w_an, w_aw, w_ah, w_ag, w_hn, w_hw, w_ha, w_hg, w_gn, w_gw, w_ga, w_gh, w_self, Bool.false_eq_true, if_false, if_true, Nat.reduceAdd, Nat.reduceSub]
      rw [fin, anyv]
      simp only [DL.wSeq, DL.wAsg, DL.wOp, DL.wVar, DL.wC, DL.wIx, DL.gdName, DL.startD, wishD, DL.pv_, DL.wIfS, DL.wTest, DL.wRet, DL.wIf, DL.wCall, DL.wCons, DL.wNil, DL.wNext, DL.wEq, DL.wNe, DL.wIsN, DL.wNotN, DL.isNonD, DL.onBl, DL.wAndV, DL.wOrV, DL.wNotV, DL.wAnd, DL.wOr, DL.wNot, DL.wCB, DL.wLen, DL.wInt, DL.wAbs, DL.wMax2, DL.wMin2, DL.wTupOf, DL.wUn, DL.wU, DL.wI0, DL.wI, DL.wTup, DL.wLst, DL.wPar, DL.wPar3, DL.wDrop, DL.wSl, DL.wSlL, DL.wPart, DL.wNoPart, DL.endD, DL.wLc, DL.lcStep, DL.wipeD, DL.wYes, DL.gdTup, DL.gdCons, DL.gdNil, DL.idTup, DL.idLst, DL.idEnumL, DL.idEnumT, DL.idZip, DL.idRng1, DL.idRng2, DL.wAny, DL.wAll, DL.wChain, DL.wFor, DL.wWhile, DL.wAppend, DL.wLstM, DL.gdSub, DL.wIsi, DL.tyD, true_and, DL.sz_0, DL.sz_1, DL.sz_2, DL.sz_3, DL.sz_4, DL.sz_5, DL.sz_6, DL.sz_7, DL.sz_8, DL.sz_9, DL.sz_10, DL.sz_11, DL.sz_12, DL.sz_13, DL.sz_14, DL.sz_15, DL.sz_16, DL.sz_17, DL.sz_18, DL.sz_19, DL.sz_20, DL.sz_21, DL.sz_22, DL.sz_23, DL.sz_24, DL.sz_25, DL.sz_26, DL.ixN50, DL.ixN51, DL.ixN52, DL.ixN53, DL.ixN54, DL.Mu.set_same, DL.Mu.set_set, eq_self, decide_true, Bool.not_true, Bool.not_false, Bool.or_false, Bool.or_true, Bool.true_or, Bool.false_or, DL.kit_NoneType_bool, DL.kit_NoneType_int, DL.kit_NoneType_str, DL.kit_NoneType_tuple, DL.kit_NoneType_list, DL.kit_NoneType_dict, DL.kit_bool_bool, DL.kit_bool_int, DL.kit_bool_str, DL.kit_bool_tuple, DL.kit_bool_list, DL.kit_bool_dict, DL.kit_int_bool, DL.kit_int_int, DL.kit_int_str, DL.kit_int_tuple, DL.kit_int_list, DL.kit_int_dict, DL.kit_str_bool, DL.kit_str_int, DL.kit_str_str, DL.kit_str_tuple, DL.kit_str_list, DL.kit_str_dict, DL.kit_tuple_bool, DL.kit_tuple_int, DL.kit_tuple_str, DL.kit_tuple_tuple, DL.kit_tuple_list, DL.kit_tuple_dict, DL.kit_list_bool, DL.kit_list_int, DL.kit_list_str, DL.kit_list_tuple, DL.kit_list_list, DL.kit_list_dict, reduceIte, cntD_n, cntD_s, List.map_cons, List.map_nil, List.length_cons, List.length_nil, List.replicate, List.cons_append, List.nil_append, List.getElem?_cons_zero, List.getElem?_cons_succ, List.set_cons_zero, List.set_cons_succ, onSome, atI_0, atI_1, atI_2, atI_3, atI_4, w_nw, w_na, w_nh, w_ng, w_wn, w_wa, w_wh, w_wg, w_an, w_aw, w_ah, w_ag, w_hn, w_hw, w_ha, w_hg, w_gn, w_gw, w_ga, w_gh, w_self, Bool.false_eq_true, if_false, if_true, Nat.reduceAdd, Nat.reduceSub]
      exact rt_D q
  | answered a b kk =>
    simp only [DL.wSeq, DL.wAsg, DL.wOp, DL.wVar, DL.wC, DL.wIx, DL.gdName, DL.startD, wishD, DL.pv_, DL.wIfS, DL.wTest, DL.wRet, DL.wIf, DL.wCall, DL.wCons, DL.wNil, DL.wNext, DL.wEq, DL.wNe, DL.wIsN, DL.wNotN, DL.isNonD, DL.onBl, DL.wAndV, DL.wOrV, DL.wNotV, DL.wAnd, DL.wOr, DL.wNot, DL.wCB, DL.wLen, DL.wInt, DL.wAbs, DL.wMax2, DL.wMin2, DL.wTupOf, DL.wUn, DL.wU, DL.wI0, DL.wI, DL.wTup, DL.wLst, DL.wPar, DL.wPar3, DL.wDrop, DL.wSl, DL.wSlL, DL.wPart, DL.wNoPart, DL.endD, DL.wLc, DL.lcStep, DL.wipeD, DL.wYes, DL.gdTup, DL.gdCons, DL.gdNil, DL.idTup, DL.idLst, DL.idEnumL, DL.idEnumT, DL.idZip, DL.idRng1, DL.idRng2, DL.wAny, DL.wAll, DL.wChain, DL.wFor, DL.wWhile, DL.wAppend, DL.wLstM, DL.gdSub, DL.wIsi, DL.tyD, true_and, DL.sz_0, DL.sz_1, DL.sz_2, DL.sz_3, DL.sz_4, DL.sz_5, DL.sz_6, DL.sz_7, DL.sz_8, DL.sz_9, DL.sz_10, DL.sz_11, DL.sz_12, DL.sz_13, DL.sz_14, DL.sz_15, DL.sz_16, DL.sz_17, DL.sz_18, DL.sz_19, DL.sz_20, DL.sz_21, DL.sz_22, DL.sz_23, DL.sz_24, DL.sz_25, DL.sz_26, DL.ixN50, DL.ixN51, DL.ixN52, DL.ixN53, DL.ixN54, DL.Mu.set_same, DL.Mu.set_set, eq_self, decide_true, Bool.not_true, Bool.not_false, Bool.or_false, Bool.or_true, Bool.true_or, Bool.false_or, DL.kit_NoneType_bool, DL.kit_NoneType_int, DL.kit_NoneType_str, DL.kit_NoneType_tuple, DL.kit_NoneType_list, DL.kit_NoneType_dict, DL.kit_bool_bool, DL.kit_bool_int, DL.kit_bool_str, DL.kit_bool_tuple, DL.kit_bool_list, DL.kit_bool_dict, DL.kit_int_bool, DL.kit_int_int, DL.kit_int_str, DL.kit_int_tuple, DL.kit_int_list, DL.kit_int_dict, DL.kit_str_bool, DL.kit_str_int, DL.kit_str_str, DL.kit_str_tuple, DL.kit_str_list, DL.kit_str_dict, DL.kit_tuple_bool, DL.kit_tuple_int, DL.kit_tuple_str, DL.kit_tuple_tuple, DL.kit_tuple_list, DL.kit_tuple_dict, DL.kit_list_bool, DL.kit_list_int, DL.kit_list_str, DL.kit_list_tuple, DL.kit_list_list, DL.kit_list_dict, reduceIte, cntD_n, cntD_s, List.map_cons, List.map_nil, List.length_cons, List.length_nil, List.replicate, List.cons_append, List.nil_append, List.getElem?_cons_zero, List.getElem?_cons_succ, List.set_cons_zero, List.set_cons_succ, onSome, atI_0, atI_1, atI_2, atI_3, atI_4, w_nw, w_na, w_nh, w_ng, w_wn, w_wa, w_wh, w_wg, w_an, w_aw, w_ah, w_ag, w_hn, w_hw, w_ha, w_hg, w_gn, w_gw, w_ga, w_gh, w_self, Bool.false_eq_true, if_false, if_true, Nat.reduceAdd, Nat.reduceSub]
    rw [take_cast, cut_take, ← List.map_take]
    refine ⟨by rw [List.map_take]; exact hlen, fun D hD => lcW_map placeD (fun p => .bl (inArea a p)) (ps.take (t + 1)) μ _ hD (fun p hp ν k hk => ?_) ?_⟩
    · (try simp only [DL.wSeq, DL.wAsg, DL.wOp, DL.wVar, DL.wC, DL.wIx, DL.gdName, DL.startD, wishD, DL.pv_, DL.wIfS, DL.wTest, DL.wRet, DL.wIf, DL.wCall, DL.wCons, DL.wNil, DL.wNext, DL.wEq, DL.wNe, DL.wIsN, DL.wNotN, DL.isNonD, DL.onBl, DL.wAndV, DL.wOrV, DL.wNotV, DL.wAnd, DL.wOr, DL.wNot, DL.wCB, DL.wLen, DL.wInt, DL.wAbs, DL.wMax2, DL.wMin2, DL.wTupOf, DL.wUn, DL.wU, DL.wI0, DL.wI, DL.wTup, DL.wLst, DL.wPar, DL.wPar3, DL.wDrop, DL.wSl, DL.wSlL, DL.wPart, DL.wNoPart, DL.endD, DL.wLc, DL.lcStep, DL.wipeD, DL.wYes, DL.gdTup, DL.gdCons, DL.gdNil, DL.idTup, DL.idLst, DL.idEnumL, DL.idEnumT, DL.idZip, DL.idRng1, DL.idRng2, DL.wAny, DL.wAll, DL.wChain, DL.wFor, DL.wWhile, DL.wAppend, DL.wLstM, DL.gdSub, DL.wIsi, DL.tyD, true_and, DL.sz_0, DL.sz_1, DL.sz_2, DL.sz_3, DL.sz_4, DL.sz_5, DL.sz_6, DL.sz_7, DL.sz_8, DL.sz_9, DL.sz_10, DL.sz_11, DL.sz_12, DL.sz_13, DL.sz_14, DL.sz_15, DL.sz_16, DL.sz_17, DL.sz_18, DL.sz_19, DL.sz_20, DL.sz_21, DL.sz_22, DL.sz_23, DL.sz_24, DL.sz_25, DL.sz_26, DL.ixN50, DL.ixN51, DL.ixN52, DL.ixN53, DL.ixN54, DL.Mu.set_same, DL.Mu.set_set, eq_self, decide_true, Bool.not_true, Bool.not_false, Bool.or_false, Bool.or_true, Bool.true_or, Bool.false_or, DL.kit_NoneType_bool, DL.kit_NoneType_int, DL.kit_NoneType_str, DL.kit_NoneType_tuple, DL.kit_NoneType_list, DL.kit_NoneType_dict, DL.kit_bool_bool, DL.kit_bool_int, DL.kit_bool_str, DL.kit_bool_tuple, DL.kit_bool_list, DL.kit_bool_dict, DL.kit_int_bool, DL.kit_int_int, DL.kit_int_str, DL.kit_int_tuple, DL.kit_int_list, DL.kit_int_dict, DL.kit_str_bool, DL.kit_str_int, DL.kit_str_str, DL.kit_str_tuple, DL.kit_str_list, DL.kit_str_dict, DL.kit_tuple_bool, DL.kit_tuple_int, DL.kit_tuple_str, DL.kit_tuple_tuple, DL.kit_tuple_list, DL.kit_tuple_dict, DL.kit_list_bool, DL.kit_list_int, DL.kit_list_str, DL.kit_list_tuple, DL.kit_list_list, DL.kit_list_dict, reduceIte, cntD_n, cntD_s, List.map_cons, List.map_nil, List.length_cons, List.length_nil, List.replicate, List.cons_append, List.nil_append, List.getElem?_cons_zero, List.getElem?_cons_succ, List.set_cons_zero, List.set_cons_succ, onSome, atI_0, atI_1, atI_2, atI_3, atI_4, w_nw, w_na, w_nh, w_ng, w_wn, w_wa, w_wh, w_wg, w_an, w_aw, w_ah, w_ag, w_hn, w_hw, w_ha, w_hg, w_gn, w_gw, w_ga, w_gh, w_self, Bool.false_eq_true, if_false, if_true, Nat.reduceAdd, Nat.reduceSub])
      exact hin hw.1 p hp ν _ hk
    · (try simp only [DL.wSeq, DL.wAsg, DL.wOp, DL.wVar, DL.wC, DL.wIx, DL.gdName, DL.startD, wishD, DL.pv_, DL.wIfS, DL.wTest, DL.wRet, DL.wIf, DL.wCall, DL.wCons, DL.wNil, DL.wNext, DL.wEq, DL.wNe, DL.wIsN, DL.wNotN, DL.isNonD, DL.onBl, DL.wAndV, DL.wOrV, DL.wNotV, DL.wAnd, DL.wOr, DL.wNot, DL.wCB, DL.wLen, DL.wInt, DL.wAbs, DL.wMax2, DL.wMin2, DL.wTupOf, DL.wUn, DL.wU, DL.wI0, DL.wI, DL.wTup, DL.wLst, DL.wPar, DL.wPar3, DL.wDrop, DL.wSl, DL.wSlL, DL.wPart, DL.wNoPart, DL.endD, DL.wLc, DL.lcStep, DL.wipeD, DL.wYes, DL.gdTup, DL.gdCons, DL.gdNil, DL.idTup, DL.idLst, DL.idEnumL, DL.idEnumT, DL.idZip, DL.idRng1, DL.idRng2, DL.wAny, DL.wAll, DL.wChain, DL.wFor, DL.wWhile, DL.wAppend, DL.wLstM, DL.gdSub, DL.wIsi, DL.tyD, true_and, DL.sz_0, DL.sz_1, DL.sz_2, DL.sz_3, DL.sz_4, DL.sz_5, DL.sz_6, DL.sz_7, DL.sz_8, DL.sz_9, DL.sz_10, DL.sz_11, DL.sz_12, DL.sz_13, DL.sz_14, DL.sz_15, DL.sz_16, DL.sz_17, DL.sz_18, DL.sz_19, DL.sz_20, DL.sz_21, DL.sz_22, DL.sz_23, DL.sz_24, DL.sz_25, DL.sz_26, DL.ixN50, DL.ixN51, DL.ixN52, DL.ixN53, DL.ixN54, DL.Mu.set_same, DL.Mu.set_set, eq_self, decide_true, Bool.not_true, Bool.not_false, Bool.or_false, Bool.or_true, Bool.true_or, Bool.false_or, DL.kit_NoneType_bool, DL.kit_NoneType_int, DL.kit_NoneType_str, DL.kit_NoneType_tuple, DL.kit_NoneType_list, DL.kit_NoneType_dict, DL.kit_bool_bool, DL.kit_bool_int, DL.kit_bool_str, DL.kit_bool_tuple, DL.kit_bool_list, DL.kit_bool_dict, DL.kit_int_bool, DL.kit_int_int, DL.kit_int_str, DL.kit_int_tuple, DL.kit_int_list, DL.kit_int_dict, DL.kit_str_bool, DL.kit_str_int, DL.kit_str_str, DL.kit_str_tuple, DL.kit_str_list, DL.kit_str_dict, DL.kit_tuple_bool, DL.kit_tuple_int, DL.kit_tuple_str, DL.kit_tuple_tuple, DL.kit_tuple_list, DL.kit_tuple_dict, DL.kit_list_bool, DL.kit_list_int, DL.kit_list_str, DL.kit_list_tuple, DL.kit_list_list, DL.kit_list_dict, reduceIte, cntD_n, cntD_s, List.map_cons, List.map_nil, List.length_cons, List.length_nil, List.replicate, List.cons_append, List.nil_append, List.getElem?_cons_zero, List.getElem?_cons_succ, List.set_cons_zero, List.set_cons_succ, onSome, atI_0, atI_1, atI_2, atI_3, atI_4, w_nw, w_na, w_nh, w_ng, w_wn, w_wa, w_wh, w_wg, w_an, w_aw, w_ah, w_ag, w_hn, w_hw, w_ha, w_hg, w_gn, w_gw, w_ga, w_gh, w_self, Bool.false_eq_true, if_false, if_true, Nat.reduceAdd, Nat.reduceSub])
      refine ⟨by rw [List.map_take]; exact hlen, fun D hD => lcW_map placeD (fun p => .bl (inArea b p)) (ps.take (t + 1)) μ _ hD (fun p hp ν k hk => ?_) ?_⟩
      · (try simp only [DL.wSeq, DL.wAsg, DL.wOp, DL.wVar, DL.wC, DL.wIx, DL.gdName, DL.startD, wishD, DL.pv_, DL.wIfS, DL.wTest, DL.wRet, DL.wIf, DL.wCall, DL.wCons, DL.wNil, DL.wNext, DL.wEq, DL.wNe, DL.wIsN, DL.wNotN, DL.isNonD, DL.onBl, DL.wAndV, DL.wOrV, DL.wNotV, DL.wAnd, DL.wOr, DL.wNot, DL.wCB, DL.wLen, DL.wInt, DL.wAbs, DL.wMax2, DL.wMin2, DL.wTupOf, DL.wUn, DL.wU, DL.wI0, DL.wI, DL.wTup, DL.wLst, DL.wPar, DL.wPar3, DL.wDrop, DL.wSl, DL.wSlL, DL.wPart, DL.wNoPart, DL.endD, DL.wLc, DL.lcStep, DL.wipeD, DL.wYes, DL.gdTup, DL.gdCons, DL.gdNil, DL.idTup, DL.idLst, DL.idEnumL, DL.idEnumT, DL.idZip, DL.idRng1, DL.idRng2, DL.wAny, DL.wAll, DL.wChain, DL.wFor, DL.wWhile, DL.wAppend, DL.wLstM, DL.gdSub, DL.wIsi, DL.tyD, true_and, DL.sz_0, DL.sz_1, DL.sz_2, DL.sz_3, DL.sz_4, DL.sz_5, DL.sz_6, DL.sz_7, DL.sz_8, DL.sz_9, DL.sz_10, DL.sz_11, DL.sz_12, DL.sz_13, DL.sz_14, DL.sz_15, DL.sz_16, DL.sz_17, DL.sz_18, DL.sz_19, DL.sz_20, DL.sz_21, DL.sz_22, DL.sz_23, DL.sz_24, DL.sz_25, DL.sz_26, DL.ixN50, DL.ixN51, DL.ixN52, DL.ixN53, DL.ixN54, DL.Mu.set_same, DL.Mu.set_set, eq_self, decide_true, Bool.not_true, Bool.not_false, Bool.or_false, Bool.or_true, Bool.true_or, Bool.false_or, DL.kit_NoneType_bool, DL.kit_NoneType_int, DL.kit_NoneType_str, DL.kit_NoneType_tuple, DL.kit_NoneType_list, DL.kit_NoneType_dict, DL.kit_bool_bool, DL.kit_bool_int, DL.kit_bool_str, DL.kit_bool_tuple, DL.kit_bool_list, DL.kit_bool_dict, DL.kit_int_bool, DL.kit_int_int, DL.kit_int_str, DL.kit_int_tuple, DL.kit_int_list, DL.kit_int_dict, DL.kit_str_bool, DL.kit_str_int, DL.kit_str_str, DL.kit_str_tuple, DL.kit_str_list, DL.kit_str_dict, DL.kit_tuple_bool, DL.kit_tuple_int, DL.kit_tuple_str, DL.kit_tuple_tuple, DL.kit_tuple_list, DL.kit_tuple_dict, DL.kit_list_bool, DL.kit_list_int, DL.kit_list_str, DL.kit_list_tuple, DL.kit_list_list, DL.kit_list_dict, reduceIte, cntD_n, cntD_s, List.map_cons, List.map_nil, List.length_cons, List.length_nil, List.replicate, List.cons_append, List.nil_append, List.getElem?_cons_zero, List.getElem?_cons_succ, List.set_cons_zero, List.set_cons_succ, onSome, atI_0, atI_1, atI_2, atI_3, atI_4, w_nw, w_na, w_nh, w_ng, w_wn, w_wa, w_wh, w_wg, w_an, w_aw, w_ah, w_ag, w_hn, w_hw, w_ha, w_hg, w_gn, w_gw, w_ga, w_gh, w_self, Bool.false_eq_true, if_false, if_true, Nat.reduceAdd, Nat.reduceSub])
        exact hin hw.2.1 p hp ν _ hk
      · (try simp only [DL.wSeq, DL.wAsg, DL.wOp, DL.wVar, DL.wC, DL.wIx, DL.gdName, DL.startD, wishD, DL.pv_, DL.wIfS, DL.wTest, DL.wRet, DL.wIf, DL.wCall, DL.wCons, DL.wNil, DL.wNext, DL.wEq, DL.wNe, DL.wIsN, DL.wNotN, DL.isNonD, DL.onBl, DL.wAndV, DL.wOrV, DL.wNotV, DL.wAnd, DL.wOr, DL.wNot, DL.wCB, DL.wLen, DL.wInt, DL.wAbs, DL.wMax2, DL.wMin2, DL.wTupOf, DL.wUn, DL.wU, DL.wI0, DL.wI, DL.wTup, DL.wLst, DL.wPar, DL.wPar3, DL.wDrop, DL.wSl, DL.wSlL, DL.wPart, DL.wNoPart, DL.endD, DL.wLc, DL.lcStep, DL.wipeD, DL.wYes, DL.gdTup, DL.gdCons, DL.gdNil, DL.idTup, DL.idLst, DL.idEnumL, DL.idEnumT, DL.idZip, DL.idRng1, DL.idRng2, DL.wAny, DL.wAll, DL.wChain, DL.wFor, DL.wWhile, DL.wAppend, DL.wLstM, DL.gdSub, DL.wIsi, DL.tyD, true_and, DL.sz_0, DL.sz_1, DL.sz_2, DL.sz_3, DL.sz_4, DL.sz_5, DL.sz_6, DL.sz_7, DL.sz_8, DL.sz_9, DL.sz_10, DL.sz_11, DL.sz_12, DL.sz_13, DL.sz_14, DL.sz_15, DL.sz_16, DL.sz_17, DL.sz_18, DL.sz_19, DL.sz_20, DL.sz_21, DL.sz_22, DL.sz_23, DL.sz_24, DL.sz_25, DL.sz_26, DL.ixN50, DL.ixN51, DL.ixN52, DL.ixN53, DL.ixN54, DL.Mu.set_same, DL.Mu.set_set, eq_self, decide_true, Bool.not_true, Bool.not_false, Bool.or_false, Bool.or_true, Bool.true_or, Bool.false_or, DL.kit_NoneType_bool, DL.kit_NoneType_int, DL.kit_NoneType_str, DL.kit_NoneType_tuple, DL.kit_NoneType_list, DL.kit_NoneType_dict, DL.kit_bool_bool, DL.kit_bool_int, DL.kit_bool_str, DL.kit_bool_tuple, DL.kit_bool_list, DL.kit_bool_dict, DL.kit_int_bool, DL.kit_int_int, DL.kit_int_str, DL.kit_int_tuple, DL.kit_int_list, DL.kit_int_dict, DL.kit_str_bool, DL.kit_str_int, DL.kit_str_str, DL.kit_str_tuple, DL.kit_str_list, DL.kit_str_dict, DL.kit_tuple_bool, DL.kit_tuple_int, DL.kit_tuple_str, DL.kit_tuple_tuple, DL.kit_tuple_list, DL.kit_tuple_dict, DL.kit_list_bool, DL.kit_list_int, DL.kit_list_str, DL.kit_list_tuple, DL.kit_list_list, DL.kit_list_dict, reduceIte, cntD_n, cntD_s, List.map_cons, List.map_nil, List.length_cons, List.length_nil, List.replicate, List.cons_append, List.nil_append, List.getElem?_cons_zero, List.getElem?_cons_succ, List.set_cons_zero, List.set_cons_succ, onSome, atI_0, atI_1, atI_2, atI_3, atI_4, w_nw, w_na, w_nh, w_ng, w_wn, w_wa, w_wh, w_wg, w_an, w_aw, w_ah, w_ag, w_hn, w_hw, w_ha, w_hg, w_gn, w_gw, w_ga, w_gh, w_self, Bool.false_eq_true, if_false, if_true, Nat.reduceAdd, Nat.reduceSub])
        refine ⟨rg, ?_⟩
        rw [Int.toNat_natCast, rangeD0, fin, fin]
        refine ⟨by rw [List.length_map, List.length_range]; exact sz_le (by omega), fun D hD => lcW_filter (fun i : Nat => DV.int ((i : Nat) : Int)) (fun s => (hereF a ps t).getD s false && !((hereF b ps t).drop s).any id) (fun i : Nat => DV.int ((i : Nat) : Int)) (List.range (t + 1)) μ _ hD (fun i hi ν k h1 h2 => ?_) ?_⟩
        · have hi' := List.mem_range.mp hi
          simp only [DL.wSeq, DL.wAsg, DL.wOp, DL.wVar, DL.wC, DL.wIx, DL.gdName, DL.startD, wishD, DL.pv_, DL.wIfS, DL.wTest, DL.wRet, DL.wIf, DL.wCall, DL.wCons, DL.wNil, DL.wNext, DL.wEq, DL.wNe, DL.wIsN, DL.wNotN, DL.isNonD, DL.onBl, DL.wAndV, DL.wOrV, DL.wNotV, DL.wAnd, DL.wOr, DL.wNot, DL.wCB, DL.wLen, DL.wInt, DL.wAbs, DL.wMax2, DL.wMin2, DL.wTupOf, DL.wUn, DL.wU, DL.wI0, DL.wI, DL.wTup, DL.wLst, DL.wPar, DL.wPar3, DL.wDrop, DL.wSl, DL.wSlL, DL.wPart, DL.wNoPart, DL.endD, DL.wLc, DL.lcStep, DL.wipeD, DL.wYes, DL.gdTup, DL.gdCons, DL.gdNil, DL.idTup, DL.idLst, DL.idEnumL, DL.idEnumT, DL.idZip, DL.idRng1, DL.idRng2, DL.wAny, DL.wAll, DL.wChain, DL.wFor, DL.wWhile, DL.wAppend, DL.wLstM, DL.gdSub, DL.wIsi, DL.tyD, true_and, DL.sz_0, DL.sz_1, DL.sz_2, DL.sz_3, DL.sz_4, DL.sz_5, DL.sz_6, DL.sz_7, DL.sz_8, DL.sz_9, DL.sz_10, DL.sz_11, DL.sz_12, DL.sz_13, DL.sz_14, DL.sz_15, DL.sz_16, DL.sz_17, DL.sz_18, DL.sz_19, DL.sz_20, DL.sz_21, DL.sz_22, DL.sz_23, DL.sz_24, DL.sz_25, DL.sz_26, DL.ixN50, DL.ixN51, DL.ixN52, DL.ixN53, DL.ixN54, DL.Mu.set_same, DL.Mu.set_set, eq_self, decide_true, Bool.not_true, Bool.not_false, Bool.or_false, Bool.or_true, Bool.true_or, Bool.false_or, DL.kit_NoneType_bool, DL.kit_NoneType_int, DL.kit_NoneType_str, DL.kit_NoneType_tuple, DL.kit_NoneType_list, DL.kit_NoneType_dict, DL.kit_bool_bool, DL.kit_bool_int, DL.kit_bool_str, DL.kit_bool_tuple, DL.kit_bool_list, DL.kit_bool_dict, DL.kit_int_bool, DL.kit_int_int, DL.kit_int_str, DL.kit_int_tuple, DL.kit_int_list, DL.kit_int_dict, DL.kit_str_bool, DL.kit_str_int, DL.kit_str_str, DL.kit_str_tuple, DL.kit_str_list, DL.kit_str_dict, DL.kit_tuple_bool, DL.kit_tuple_int, DL.kit_tuple_str, DL.kit_tuple_tuple, DL.kit_tuple_list, DL.kit_tuple_dict, DL.kit_list_bool, DL.kit_list_int, DL.kit_list_str, DL.kit_list_tuple, DL.kit_list_list, DL.kit_list_dict, reduceIte, cntD_n, cntD_s, List.map_cons, List.map_nil, List.length_cons, List.length_nil, List.replicate, List.cons_append, List.nil_append, List.getElem?_cons_zero, List.getElem?_cons_succ, List.set_cons_zero, List.set_cons_succ, onSome, atI_0, atI_1, atI_2, atI_3, atI_4, w_nw, w_na, w_nh, w_ng, w_wn, w_wa, w_wh, w_wg, w_an, w_aw, w_ah, w_ag, w_hn, w_hw, w_ha, w_hg, w_gn, w_gw, w_ga, w_gh, w_self, Bool.false_eq_true, if_false, if_true, Nat.reduceAdd, Nat.reduceSub]
          rw [atI_nat (here_at a i (by omega))]
          simp only [DL.wSeq, DL.wAsg, DL.wOp, DL.wVar, DL.wC, DL.wIx, DL.gdName, DL.startD, wishD, DL.pv_, DL.wIfS, DL.wTest, DL.wRet, DL.wIf, DL.wCall, DL.wCons, DL.wNil, DL.wNext, DL.wEq, DL.wNe, DL.wIsN, DL.wNotN, DL.isNonD, DL.onBl, DL.wAndV, DL.wOrV, DL.wNotV, DL.wAnd, DL.wOr, DL.wNot, DL.wCB, DL.wLen, DL.wInt, DL.wAbs, DL.wMax2, DL.wMin2, DL.wTupOf, DL.wUn, DL.wU, DL.wI0, DL.wI, DL.wTup, DL.wLst, DL.wPar, DL.wPar3, DL.wDrop, DL.wSl, DL.wSlL, DL.wPart, DL.wNoPart, DL.endD, DL.wLc, DL.lcStep, DL.wipeD, DL.wYes, DL.gdTup, DL.gdCons, DL.gdNil, DL.idTup, DL.idLst, DL.idEnumL, DL.idEnumT, DL.idZip, DL.idRng1, DL.idRng2, DL.wAny, DL.wAll, DL.wChain, DL.wFor, DL.wWhile, DL.wAppend, DL.wLstM, DL.gdSub, DL.wIsi, DL.tyD, true_and, DL.sz_0, DL.sz_1, DL.sz_2, DL.sz_3, DL.sz_4, DL.sz_5, DL.sz_6, DL.sz_7, DL.sz_8, DL.sz_9, DL.sz_10, DL.sz_11, DL.sz_12, DL.sz_13, DL.sz_14, DL.sz_15, DL.sz_16, DL.sz_17, DL.sz_18, DL.sz_19, DL.sz_20, DL.sz_21, DL.sz_22, DL.sz_23, DL.sz_24, DL.sz_25, DL.sz_26, DL.ixN50, DL.ixN51, DL.ixN52, DL.ixN53, DL.ixN54, DL.Mu.set_same, DL.Mu.set_set, eq_self, decide_true, Bool.not_true, Bool.not_false, Bool.or_false, Bool.or_true, Bool.true_or, Bool.false_or, DL.kit_NoneType_bool, DL.kit_NoneType_int, DL.kit_NoneType_str, DL.kit_NoneType_tuple, DL.kit_NoneType_list, DL.kit_NoneType_dict, DL.kit_bool_bool, DL.kit_bool_int, DL.kit_bool_str, DL.kit_bool_tuple, DL.kit_bool_list, DL.kit_bool_dict, DL.kit_int_bool, DL.kit_int_int, DL.kit_int_str, DL.kit_int_tuple, DL.kit_int_list, DL.kit_int_dict, DL.kit_str_bool, DL.kit_str_int, DL.kit_str_str, DL.kit_str_tuple, DL.kit_str_list, DL.kit_str_dict, DL.kit_tuple_bool, DL.kit_tuple_int, DL.kit_tuple_str, DL.kit_tuple_tuple, DL.kit_tuple_list, DL.kit_tuple_dict, DL.kit_list_bool, DL.kit_list_int, DL.kit_list_str, DL.kit_list_tuple, DL.kit_list_list, DL.kit_list_dict, reduceIte, cntD_n, cntD_s, List.map_cons, List.map_nil, List.length_cons, List.length_nil, List.replicate, List.cons_append, List.nil_append, List.getElem?_cons_zero, List.getElem?_cons_succ, List.set_cons_zero, List.set_cons_succ, onSome, atI_0, atI_1, atI_2, atI_3, atI_4, w_nw, w_na, w_nh, w_ng, w_wn, w_wa, w_wh, w_wg, w_an, w_aw, w_ah, w_ag, w_hn, w_hw, w_ha, w_hg, w_gn, w_gw, w_ga, w_gh, w_self, Bool.false_eq_true, if_false, if_true, Nat.reduceAdd, Nat.reduceSub]
          cases h : (hereF a ps t).getD i false
          · simp only [h, Bool.false_and, Bool.false_eq_true, if_false] at h1 h2 ⊢
            exact h2 trivial
          · simp only [h, Bool.true_and, if_true] at h1 h2 ⊢
            rw [cut_drop, ← List.map_drop, anyv]
            simp only [DL.wSeq, DL.wAsg, DL.wOp, DL.wVar, DL.wC, DL.wIx, DL.gdName, DL.startD, wishD, DL.pv_, DL.wIfS, DL.wTest, DL.wRet, DL.wIf, DL.wCall, DL.wCons, DL.wNil, DL.wNext, DL.wEq, DL.wNe, DL.wIsN, DL.wNotN, DL.isNonD, DL.onBl, DL.wAndV, DL.wOrV, DL.wNotV, DL.wAnd, DL.wOr, DL.wNot, DL.wCB, DL.wLen, DL.wInt, DL.wAbs, DL.wMax2, DL.wMin2, DL.wTupOf, DL.wUn, DL.wU, DL.wI0, DL.wI, DL.wTup, DL.wLst, DL.wPar, DL.wPar3, DL.wDrop, DL.wSl, DL.wSlL, DL.wPart, DL.wNoPart, DL.endD, DL.wLc, DL.lcStep, DL.wipeD, DL.wYes, DL.gdTup, DL.gdCons, DL.gdNil, DL.idTup, DL.idLst, DL.idEnumL, DL.idEnumT, DL.idZip, DL.idRng1, DL.idRng2, DL.wAny, DL.wAll, DL.wChain, DL.wFor, DL.wWhile, DL.wAppend, DL.wLstM, DL.gdSub, DL.wIsi, DL.tyD, true_and, DL.sz_0, DL.sz_1, DL.sz_2, DL.sz_3, DL.sz_4, DL.sz_5, DL.sz_6, DL.sz_7, DL.sz_8, DL.sz_9, DL.sz_10, DL.sz_11, DL.sz_12, DL.sz_13, DL.sz_14, DL.sz_15, DL.sz_16, DL.sz_17, DL.sz_18, DL.sz_19, DL.sz_20, DL.sz_21, DL.sz_22, DL.sz_23, DL.sz_24, DL.sz_25, DL.sz_26, DL.ixN50, DL.ixN51, DL.ixN52, DL.ixN53, DL.ixN54, DL.Mu.set_same, DL.Mu.set_set, eq_self, decide_true, Bool.not_true, Bool.not_false, Bool.or_false, Bool.or_true, Bool.true_or, Bool.false_or, DL.kit_NoneType_bool, DL.kit_NoneType_int, DL.kit_NoneType_str, DL.kit_NoneType_tuple, DL.kit_NoneType_list, DL.kit_NoneType_dict, DL.kit_bool_bool, DL.kit_bool_int, DL.kit_bool_str, DL.kit_bool_tuple, DL.kit_bool_list, DL.kit_bool_dict, DL.kit_int_bool, DL.kit_int_int, DL.kit_int_str, DL.kit_int_tuple, DL.kit_int_list, DL.kit_int_dict, DL.kit_str_bool, DL.kit_str_int, DL.kit_str_str, DL.kit_str_tuple, DL.kit_str_list, DL.kit_str_dict, DL.kit_tuple_bool, DL.kit_tuple_int, DL.kit_tuple_str, DL.kit_tuple_tuple, DL.kit_tuple_list, DL.kit_tuple_dict, DL.kit_list_bool, DL.kit_list_int, DL.kit_list_str, DL.kit_list_tuple, DL.kit_list_list, DL.kit_list_dict, reduceIte, cntD_n, cntD_s, List.map_cons, List.map_nil, List.length_cons, List.length_nil, List.replicate, List.cons_append, List.nil_append, List.getElem?_cons_zero, List.getElem?_cons_succ, List.set_cons_zero, List.set_cons_succ, onSome, atI_0, atI_1, atI_2, atI_3, atI_4, w_nw, w_na, w_nh, w_ng, w_wn, w_wa, w_wh, w_wg, w_an, w_aw, w_ah, w_ag, w_hn, w_hw, w_ha, w_hg, w_gn, w_gw, w_ga, w_gh, w_self, Bool.false_eq_true, if_false, if_true, Nat.reduceAdd, Nat.reduceSub]
            cases h3 : (!((hereF b ps t).drop i).any id) with
            | true => exact h1 h3
            | false => exact h2 h3
        · simp only [DL.wSeq, DL.wAsg, DL.wOp, DL.wVar, DL.wC, DL.wIx, DL.gdName, DL.startD, wishD, DL.pv_, DL.wIfS, DL.wTest, DL.wRet, DL.wIf, DL.wCall, DL.wCons, DL.wNil, DL.wNext, DL.wEq, DL.wNe, DL.wIsN, DL.wNotN, DL.isNonD, DL.onBl, DL.wAndV, DL.wOrV, DL.wNotV, DL.wAnd, DL.wOr, DL.wNot, DL.wCB, DL.wLen, DL.wInt, DL.wAbs, DL.wMax2, DL.wMin2, DL.wTupOf, DL.wUn, DL.wU, DL.wI0, DL.wI, DL.wTup, DL.wLst, DL.wPar, DL.wPar3, DL.wDrop, DL.wSl, DL.wSlL, DL.wPart, DL.wNoPart, DL.endD, DL.wLc, DL.lcStep, DL.wipeD, DL.wYes, DL.gdTup, DL.gdCons, DL.gdNil, DL.idTup, DL.idLst, DL.idEnumL, DL.idEnumT, DL.idZip, DL.idRng1, DL.idRng2, DL.wAny, DL.wAll, DL.wChain, DL.wFor, DL.wWhile, DL.wAppend, DL.wLstM, DL.gdSub, DL.wIsi, DL.tyD, true_and, DL.sz_0, DL.sz_1, DL.sz_2, DL.sz_3, DL.sz_4, DL.sz_5, DL.sz_6, DL.sz_7, DL.sz_8, DL.sz_9, DL.sz_10, DL.sz_11, DL.sz_12, DL.sz_13, DL.sz_14, DL.sz_15, DL.sz_16, DL.sz_17, DL.sz_18, DL.sz_19, DL.sz_20, DL.sz_21, DL.sz_22, DL.sz_23, DL.sz_24, DL.sz_25, DL.sz_26, DL.ixN50, DL.ixN51, DL.ixN52, DL.ixN53, DL.ixN54, DL.Mu.set_same, DL.Mu.set_set, eq_self, decide_true, Bool.not_true, Bool.not_false, Bool.or_false, Bool.or_true, Bool.true_or, Bool.false_or, DL.kit_NoneType_bool, DL.kit_NoneType_int, DL.kit_NoneType_str, DL.kit_NoneType_tuple, DL.kit_NoneType_list, DL.kit_NoneType_dict, DL.kit_bool_bool, DL.kit_bool_int, DL.kit_bool_str, DL.kit_bool_tuple, DL.kit_bool_list, DL.kit_bool_dict, DL.kit_int_bool, DL.kit_int_int, DL.kit_int_str, DL.kit_int_tuple, DL.kit_int_list, DL.kit_int_dict, DL.kit_str_bool, DL.kit_str_int, DL.kit_str_str, DL.kit_str_tuple, DL.kit_str_list, DL.kit_str_dict, DL.kit_tuple_bool, DL.kit_tuple_int, DL.kit_tuple_str, DL.kit_tuple_tuple, DL.kit_tuple_list, DL.kit_tuple_dict, DL.kit_list_bool, DL.kit_list_int, DL.kit_list_str, DL.kit_list_tuple, DL.kit_list_list, DL.kit_list_dict, reduceIte, cntD_n, cntD_s, List.map_cons, List.map_nil, List.length_cons, List.length_nil, List.replicate, List.cons_append, List.nil_append, List.getElem?_cons_zero, List.getElem?_cons_succ, List.set_cons_zero, List.set_cons_succ, onSome, atI_0, atI_1, atI_2, atI_3, atI_4, w_nw, w_na, w_nh, w_ng, w_wn, w_wa, w_wh, w_wg, w_an, w_aw, w_ah, w_ag, w_hn, w_hw, w_ha, w_hg, w_gn, w_gw, w_ga, w_gh, w_self, Bool.false_eq_true, if_false, if_true, Nat.reduceAdd, Nat.reduceSub]
          simp only [List.length_map]
          cases hf : (List.range (t + 1)).filter (fun s => (hereF a ps t).getD s false && !((hereF b ps t).drop s).any id) with
          | nil =>
            simp only [hf, cntD_s] at q
            simp only [DL.wSeq, DL.wAsg, DL.wOp, DL.wVar, DL.wC, DL.wIx, DL.gdName, DL.startD, wishD, DL.pv_, DL.wIfS, DL.wTest, DL.wRet, DL.wIf, DL.wCall, DL.wCons, DL.wNil, DL.wNext, DL.wEq, DL.wNe, DL.wIsN, DL.wNotN, DL.isNonD, DL.onBl, DL.wAndV, DL.wOrV, DL.wNotV, DL.wAnd, DL.wOr, DL.wNot, DL.wCB, DL.wLen, DL.wInt, DL.wAbs, DL.wMax2, DL.wMin2, DL.wTupOf, DL.wUn, DL.wU, DL.wI0, DL.wI, DL.wTup, DL.wLst, DL.wPar, DL.wPar3, DL.wDrop, DL.wSl, DL.wSlL, DL.wPart, DL.wNoPart, DL.endD, DL.wLc, DL.lcStep, DL.wipeD, DL.wYes, DL.gdTup, DL.gdCons, DL.gdNil, DL.idTup, DL.idLst, DL.idEnumL, DL.idEnumT, DL.idZip, DL.idRng1, DL.idRng2, DL.wAny, DL.wAll, DL.wChain, DL.wFor, DL.wWhile, DL.wAppend, DL.wLstM, DL.gdSub, DL.wIsi, DL.tyD, true_and, DL.sz_0, DL.sz_1, DL.sz_2, DL.sz_3, DL.sz_4, DL.sz_5, DL.sz_6, DL.sz_7, DL.sz_8, DL.sz_9, DL.sz_10, DL.sz_11, DL.sz_12, DL.sz_13, DL.sz_14, DL.sz_15, DL.sz_16, DL.sz_17, DL.sz_18, DL.sz_19, DL.sz_20, DL.sz_21, DL.sz_22, DL.sz_23, DL.sz_24, DL.sz_25, DL.sz_26, DL.ixN50, DL.ixN51, DL.ixN52, DL.ixN53, DL.ixN54, DL.Mu.set_same, DL.Mu.set_set, eq_self, decide_true, Bool.not_true, Bool.not_false, Bool.or_false, Bool.or_true, Bool.true_or, Bool.false_or, DL.kit_NoneType_bool, DL.kit_NoneType_int, DL.kit_NoneType_str, DL.kit_NoneType_tuple, DL.kit_NoneType_list, DL.kit_NoneType_dict, DL.kit_bool_bool, DL.kit_bool_int, DL.kit_bool_str, DL.kit_bool_tuple, DL.kit_bool_list, DL.kit_bool_dict, DL.kit_int_bool, DL.kit_int_int, DL.kit_int_str, DL.kit_int_tuple, DL.kit_int_list, DL.kit_int_dict, DL.kit_str_bool, DL.kit_str_int, DL.kit_str_str, DL.kit_str_tuple, DL.kit_str_list, DL.kit_str_dict, DL.kit_tuple_bool, DL.kit_tuple_int, DL.kit_tuple_str, DL.kit_tuple_tuple, DL.kit_tuple_list, DL.kit_tuple_dict, DL.kit_list_bool, DL.kit_list_int, DL.kit_list_str, DL.kit_list_tuple, DL.kit_list_list, DL.kit_list_dict, reduceIte, cntD_n, cntD_s, List.map_cons, List.map_nil, List.length_cons, List.length_nil, List.replicate, List.cons_append, List.nil_append, List.getElem?_cons_zero, List.getElem?_cons_succ, List.set_cons_zero, List.set_cons_succ, onSome, atI_0, atI_1, atI_2, atI_3, atI_4, w_nw, w_na, w_nh, w_ng, w_wn, w_wa, w_wh, w_wg, w_an, w_aw, w_ah, w_ag, w_hn, w_hw, w_ha, w_hg, w_gn, w_gw, w_ga, w_gh, w_self, Bool.false_eq_true, if_false, if_true, Nat.reduceAdd, Nat.reduceSub]
            simp only [Int.natCast_zero, Int.lt_irrefl, decide_false, Bool.false_eq_true, if_false]
            exact rt_D q
          | cons s r =>
            simp only [hf, cntD_s] at q
            simp only [DL.wSeq, DL.wAsg, DL.wOp, DL.wVar, DL.wC, DL.wIx, DL.gdName, DL.startD, wishD, DL.pv_, DL.wIfS, DL.wTest, DL.wRet, DL.wIf, DL.wCall, DL.wCons, DL.wNil, DL.wNext, DL.wEq, DL.wNe, DL.wIsN, DL.wNotN, DL.isNonD, DL.onBl, DL.wAndV, DL.wOrV, DL.wNotV, DL.wAnd, DL.wOr, DL.wNot, DL.wCB, DL.wLen, DL.wInt, DL.wAbs, DL.wMax2, DL.wMin2, DL.wTupOf, DL.wUn, DL.wU, DL.wI0, DL.wI, DL.wTup, DL.wLst, DL.wPar, DL.wPar3, DL.wDrop, DL.wSl, DL.wSlL, DL.wPart, DL.wNoPart, DL.endD, DL.wLc, DL.lcStep, DL.wipeD, DL.wYes, DL.gdTup, DL.gdCons, DL.gdNil, DL.idTup, DL.idLst, DL.idEnumL, DL.idEnumT, DL.idZip, DL.idRng1, DL.idRng2, DL.wAny, DL.wAll, DL.wChain, DL.wFor, DL.wWhile, DL.wAppend, DL.wLstM, DL.gdSub, DL.wIsi, DL.tyD, true_and, DL.sz_0, DL.sz_1, DL.sz_2, DL.sz_3, DL.sz_4, DL.sz_5, DL.sz_6, DL.sz_7, DL.sz_8, DL.sz_9, DL.sz_10, DL.sz_11, DL.sz_12, DL.sz_13, DL.sz_14, DL.sz_15, DL.sz_16, DL.sz_17, DL.sz_18, DL.sz_19, DL.sz_20, DL.sz_21, DL.sz_22, DL.sz_23, DL.sz_24, DL.sz_25, DL.sz_26, DL.ixN50, DL.ixN51, DL.ixN52, DL.ixN53, DL.ixN54, DL.Mu.set_same, DL.Mu.set_set, eq_self, decide_true, Bool.not_true, Bool.not_false, Bool.or_false, Bool.or_true, Bool.true_or, Bool.false_or, DL.kit_NoneType_bool, DL.kit_NoneType_int, DL.kit_NoneType_str, DL.kit_NoneType_tuple, DL.kit_NoneType_list, DL.kit_NoneType_dict, DL.kit_bool_bool, DL.kit_bool_int, DL.kit_bool_str, DL.kit_bool_tuple, DL.kit_bool_list, DL.kit_bool_dict, DL.kit_int_bool, DL.kit_int_int, DL.kit_int_str, DL.kit_int_tuple, DL.kit_int_list, DL.kit_int_dict, DL.kit_str_bool, DL.kit_str_int, DL.kit_str_str, DL.kit_str_tuple, DL.kit_str_list, DL.kit_str_dict, DL.kit_tuple_bool, DL.kit_tuple_int, DL.kit_tuple_str, DL.kit_tuple_tuple, DL.kit_tuple_list, DL.kit_tuple_dict, DL.kit_list_bool, DL.kit_list_int, DL.kit_list_str, DL.kit_list_tuple, DL.kit_list_list, DL.kit_list_dict, reduceIte, cntD_n, cntD_s, List.map_cons, List.map_nil, List.length_cons, List.length_nil, List.replicate, List.cons_append, List.nil_append, List.getElem?_cons_zero, List.getElem?_cons_succ, List.set_cons_zero, List.set_cons_succ, onSome, atI_0, atI_1, atI_2, atI_3, atI_4, w_nw, w_na, w_nh, w_ng, w_wn, w_wa, w_wh, w_wg, w_an, w_aw, w_ah, w_ag, w_hn, w_hw, w_ha, w_hg, w_gn, w_gw, w_ga, w_gh, w_self, Bool.false_eq_true, if_false, if_true, Nat.reduceAdd, Nat.reduceSub]
            rw [decide_eq_true (by omega), if_pos rfl]
            exact rt_D q
end K18
set_option linter.all false
set_option maxRecDepth 100000
set_option maxHeartbeats 4000000
namespace K18
open PySem L2 DL
theorem rangeD1 (n : Nat) : rangeD 1 n = (List.range n).map fun i => DV.int ((i + 1 : Nat) : Int) := by
  unfold rangeD
  refine List.map_congr_left fun i _ => ?_
  rw [show (1 : Int) + (i : Nat) = ((i + 1 : Nat) : Int) by omega]
theorem map_cnt (f : Wish → Cnt) (ws : List Wish) : DV.tup (ws.map fun w => cntD (f w)) = cntsD (ws.map f) := by
  unfold cntsD
  rw [List.map_map]
  rfl
theorem zipWith_self {α β γ : Type} (f : α → β → γ) (g : α → β) : ∀ xs : List α, List.zipWith f xs (xs.map g) = xs.map fun x => f x (g x)
  | [] => rfl
  | x :: xs => by
    rw [List.map_cons, List.zipWith_cons_cons, List.map_cons, zipWith_self f g xs]
theorem r_u_law_is_walk_right : ∀ ds μ Q, s_u_law_is_walk_right ds μ Q → w_u_law_is_walk_right (endD Q) (startD 5 ds) μ := by
  rintro ds μ Q ⟨n, ws, ps, rfl, hl, hw, hps, hn, h0, q⟩
  unfold w_u_law_is_walk_right
  have hfew := hps.few
  simp only [wishesD, placesD]
  simp only [DL.wSeq, DL.wAsg, DL.wOp, DL.wVar, DL.wC, DL.wIx, DL.gdName, DL.startD, wishD, DL.pv_, DL.wIfS, DL.wTest, DL.wRet, DL.wIf, DL.wCall, DL.wCons, DL.wNil, DL.wNext, DL.wEq, DL.wNe, DL.wIsN, DL.wNotN, DL.isNonD, DL.onBl, DL.wAndV, DL.wOrV, DL.wNotV, DL.wAnd, DL.wOr, DL.wNot, DL.wCB, DL.wLen, DL.wInt, DL.wAbs, DL.wMax2, DL.wMin2, DL.wTupOf, DL.wUn, DL.wU, DL.wI0, DL.wI, DL.wTup, DL.wLst, DL.wPar, DL.wPar3, DL.wDrop, DL.wSl, DL.wSlL, DL.wPart, DL.wNoPart, DL.endD, DL.wLc, DL.lcStep, DL.wipeD, DL.wYes, DL.gdTup, DL.gdCons, DL.gdNil, DL.idTup, DL.idLst, DL.idEnumL, DL.idEnumT, DL.idZip, DL.idRng1, DL.idRng2, DL.wAny, DL.wAll, DL.wChain, DL.wFor, DL.wWhile, DL.wAppend, DL.wLstM, DL.gdSub, DL.wIsi, DL.tyD, true_and, DL.sz_0, DL.sz_1, DL.sz_2, DL.sz_3, DL.sz_4, DL.sz_5, DL.sz_6, DL.sz_7, DL.sz_8, DL.sz_9, DL.sz_10, DL.sz_11, DL.sz_12, DL.sz_13, DL.sz_14, DL.sz_15, DL.sz_16, DL.sz_17, DL.sz_18, DL.sz_19, DL.sz_20, DL.sz_21, DL.sz_22, DL.sz_23, DL.sz_24, DL.sz_25, DL.sz_26, DL.ixN50, DL.ixN51, DL.ixN52, DL.ixN53, DL.ixN54, DL.Mu.set_same, DL.Mu.set_set, eq_self, decide_true, Bool.not_true, Bool.not_false, Bool.or_false, Bool.or_true, Bool.true_or, Bool.false_or, DL.kit_NoneType_bool, DL.kit_NoneType_int, DL.kit_NoneType_str, DL.kit_NoneType_tuple, DL.kit_NoneType_list, DL.kit_NoneType_dict, DL.kit_bool_bool, DL.kit_bool_int, DL.kit_bool_str, DL.kit_bool_tuple, DL.kit_bool_list, DL.kit_bool_dict, DL.kit_int_bool, DL.kit_int_int, DL.kit_int_str, DL.kit_int_tuple, DL.kit_int_list, DL.kit_int_dict, DL.kit_str_bool, DL.kit_str_int, DL.kit_str_str, DL.kit_str_tuple, DL.kit_str_list, DL.kit_str_dict, DL.kit_tuple_bool, DL.kit_tuple_int, DL.kit_tuple_str, DL.kit_tuple_tuple, DL.kit_tuple_list, DL.kit_tuple_dict, DL.kit_list_bool, DL.kit_list_int, DL.kit_list_str, DL.kit_list_tuple, DL.kit_list_list, DL.kit_list_dict, reduceIte, cntD_n, cntD_s, List.map_cons, List.map_nil, List.length_cons, List.length_nil, List.replicate, List.cons_append, List.nil_append, List.getElem?_cons_zero, List.getElem?_cons_succ, List.set_cons_zero, List.set_cons_succ, onSome, atI_0, atI_1, atI_2, atI_3, atI_4, w_nw, w_na, w_nh, w_ng, w_wn, w_wa, w_wh, w_wg, w_an, w_aw, w_ah, w_ag, w_hn, w_hw, w_ha, w_hg, w_gn, w_gw, w_ga, w_gh, w_self, Bool.false_eq_true, if_false, if_true, Nat.reduceAdd, Nat.reduceSub]
  simp only [List.length_map]
  refine ⟨range_ok hfew, ?_⟩
  rw [Int.toNat_natCast, rangeD0]
  refine ⟨by rw [List.length_map, List.length_range]; exact sz_le hfew, fun D hD => lcW_map (fun i : Nat => DV.int ((i : Nat) : Int)) (fun t => cntsD (ws.map fun w => countF w ps t)) (List.range ps.length) μ _ hD (fun t ht ν k hk => ?_) ?_⟩
  · simp only [DL.wSeq, DL.wAsg, DL.wOp, DL.wVar, DL.wC, DL.wIx, DL.gdName, DL.startD, wishD, DL.pv_, DL.wIfS, DL.wTest, DL.wRet, DL.wIf, DL.wCall, DL.wCons, DL.wNil, DL.wNext, DL.wEq, DL.wNe, DL.wIsN, DL.wNotN, DL.isNonD, DL.onBl, DL.wAndV, DL.wOrV, DL.wNotV, DL.wAnd, DL.wOr, DL.wNot, DL.wCB, DL.wLen, DL.wInt, DL.wAbs, DL.wMax2, DL.wMin2, DL.wTupOf, DL.wUn, DL.wU, DL.wI0, DL.wI, DL.wTup, DL.wLst, DL.wPar, DL.wPar3, DL.wDrop, DL.wSl, DL.wSlL, DL.wPart, DL.wNoPart, DL.endD, DL.wLc, DL.lcStep, DL.wipeD, DL.wYes, DL.gdTup, DL.gdCons, DL.gdNil, DL.idTup, DL.idLst, DL.idEnumL, DL.idEnumT, DL.idZip, DL.idRng1, DL.idRng2, DL.wAny, DL.wAll, DL.wChain, DL.wFor, DL.wWhile, DL.wAppend, DL.wLstM, DL.gdSub, DL.wIsi, DL.tyD, true_and, DL.sz_0, DL.sz_1, DL.sz_2, DL.sz_3, DL.sz_4, DL.sz_5, DL.sz_6, DL.sz_7, DL.sz_8, DL.sz_9, DL.sz_10, DL.sz_11, DL.sz_12, DL.sz_13, DL.sz_14, DL.sz_15, DL.sz_16, DL.sz_17, DL.sz_18, DL.sz_19, DL.sz_20, DL.sz_21, DL.sz_22, DL.sz_23, DL.sz_24, DL.sz_25, DL.sz_26, DL.ixN50, DL.ixN51, DL.ixN52, DL.ixN53, DL.ixN54, DL.Mu.set_same, DL.Mu.set_set, eq_self, decide_true, Bool.not_true, Bool.not_false, Bool.or_false, Bool.or_true, Bool.true_or, Bool.false_or, DL.kit_NoneType_bool, DL.kit_NoneType_int, DL.kit_NoneType_str, DL.kit_NoneType_tuple, DL.kit_NoneType_list, DL.kit_NoneType_dict, DL.kit_bool_bool, DL.kit_bool_int, DL.kit_bool_str, DL.kit_bool_tuple, DL.kit_bool_list, DL.kit_bool_dict, DL.kit_int_bool, DL.kit_int_int, DL.kit_int_str, DL.kit_int_tuple, DL.kit_int_list, DL.kit_int_dict, DL.kit_str_bool, DL.kit_str_int, DL.kit_str_str, DL.kit_str_tuple, DL.kit_str_list, DL.kit_str_dict, DL.kit_tuple_bool, DL.kit_tuple_int, DL.kit_tuple_str, DL.kit_tuple_tuple, DL.kit_tuple_list, DL.kit_tuple_dict, DL.kit_list_bool, DL.kit_list_int, DL.kit_list_str, DL.kit_list_tuple, DL.kit_list_list, DL.kit_list_dict, reduceIte, cntD_n, cntD_s, List.map_cons, List.map_nil, List.length_cons, List.length_nil, List.replicate, List.cons_append, List.nil_append, List.getElem?_cons_zero, List.getElem?_cons_succ, List.set_cons_zero, List.set_cons_succ, onSome, atI_0, atI_1, atI_2, atI_3, atI_4, w_nw, w_na, w_nh, w_ng, w_wn, w_wa, w_wh, w_wg, w_an, w_aw, w_ah, w_ag, w_hn, w_hw, w_ha, w_hg, w_gn, w_gw, w_ga, w_gh, w_self, Bool.false_eq_true, if_false, if_true, Nat.reduceAdd, Nat.reduceSub]
    refine ⟨sz_map hl, fun D' hD' => lcW_map wishD (fun w => cntD (countF w ps t)) ws ν _ hD' (fun w hw' ν' k' hk' => ?_) ?_⟩
    · simp only [DL.wSeq, DL.wAsg, DL.wOp, DL.wVar, DL.wC, DL.wIx, DL.gdName, DL.startD, wishD, DL.pv_, DL.wIfS, DL.wTest, DL.wRet, DL.wIf, DL.wCall, DL.wCons, DL.wNil, DL.wNext, DL.wEq, DL.wNe, DL.wIsN, DL.wNotN, DL.isNonD, DL.onBl, DL.wAndV, DL.wOrV, DL.wNotV, DL.wAnd, DL.wOr, DL.wNot, DL.wCB, DL.wLen, DL.wInt, DL.wAbs, DL.wMax2, DL.wMin2, DL.wTupOf, DL.wUn, DL.wU, DL.wI0, DL.wI, DL.wTup, DL.wLst, DL.wPar, DL.wPar3, DL.wDrop, DL.wSl, DL.wSlL, DL.wPart, DL.wNoPart, DL.endD, DL.wLc, DL.lcStep, DL.wipeD, DL.wYes, DL.gdTup, DL.gdCons, DL.gdNil, DL.idTup, DL.idLst, DL.idEnumL, DL.idEnumT, DL.idZip, DL.idRng1, DL.idRng2, DL.wAny, DL.wAll, DL.wChain, DL.wFor, DL.wWhile, DL.wAppend, DL.wLstM, DL.gdSub, DL.wIsi, DL.tyD, true_and, DL.sz_0, DL.sz_1, DL.sz_2, DL.sz_3, DL.sz_4, DL.sz_5, DL.sz_6, DL.sz_7, DL.sz_8, DL.sz_9, DL.sz_10, DL.sz_11, DL.sz_12, DL.sz_13, DL.sz_14, DL.sz_15, DL.sz_16, DL.sz_17, DL.sz_18, DL.sz_19, DL.sz_20, DL.sz_21, DL.sz_22, DL.sz_23, DL.sz_24, DL.sz_25, DL.sz_26, DL.ixN50, DL.ixN51, DL.ixN52, DL.ixN53, DL.ixN54, DL.Mu.set_same, DL.Mu.set_set, eq_self, decide_true, Bool.not_true, Bool.not_false, Bool.or_false, Bool.or_true, Bool.true_or, Bool.false_or, DL.kit_NoneType_bool, DL.kit_NoneType_int, DL.kit_NoneType_str, DL.kit_NoneType_tuple, DL.kit_NoneType_list, DL.kit_NoneType_dict, DL.kit_bool_bool, DL.kit_bool_int, DL.kit_bool_str, DL.kit_bool_tuple, DL.kit_bool_list, DL.kit_bool_dict, DL.kit_int_bool, DL.kit_int_int, DL.kit_int_str, DL.kit_int_tuple, DL.kit_int_list, DL.kit_int_dict, DL.kit_str_bool, DL.kit_str_int, DL.kit_str_str, DL.kit_str_tuple, DL.kit_str_list, DL.kit_str_dict, DL.kit_tuple_bool, DL.kit_tuple_int, DL.kit_tuple_str, DL.kit_tuple_tuple, DL.kit_tuple_list, DL.kit_tuple_dict, DL.kit_list_bool, DL.kit_list_int, DL.kit_list_str, DL.kit_list_tuple, DL.kit_list_list, DL.kit_list_dict, reduceIte, cntD_n, cntD_s, List.map_cons, List.map_nil, List.length_cons, List.length_nil, List.replicate, List.cons_append, List.nil_append, List.getElem?_cons_zero, List.getElem?_cons_succ, List.set_cons_zero, List.set_cons_succ, onSome, atI_0, atI_1, atI_2, atI_3, atI_4, w_nw, w_na, w_nh, w_ng, w_wn, w_wa, w_wh, w_wg, w_an, w_aw, w_ah, w_ag, w_hn, w_hw, w_ha, w_hg, w_gn, w_gw, w_ga, w_gh, w_self, Bool.false_eq_true, if_false, if_true, Nat.reduceAdd, Nat.reduceSub]
      exact ⟨n, w, ps, t, rfl, hw w hw', hps, hn, List.mem_range.mp ht, hk'⟩
    · simp only [DL.wSeq, DL.wAsg, DL.wOp, DL.wVar, DL.wC, DL.wIx, DL.gdName, DL.startD, wishD, DL.pv_, DL.wIfS, DL.wTest, DL.wRet, DL.wIf, DL.wCall, DL.wCons, DL.wNil, DL.wNext, DL.wEq, DL.wNe, DL.wIsN, DL.wNotN, DL.isNonD, DL.onBl, DL.wAndV, DL.wOrV, DL.wNotV, DL.wAnd, DL.wOr, DL.wNot, DL.wCB, DL.wLen, DL.wInt, DL.wAbs, DL.wMax2, DL.wMin2, DL.wTupOf, DL.wUn, DL.wU, DL.wI0, DL.wI, DL.wTup, DL.wLst, DL.wPar, DL.wPar3, DL.wDrop, DL.wSl, DL.wSlL, DL.wPart, DL.wNoPart, DL.endD, DL.wLc, DL.lcStep, DL.wipeD, DL.wYes, DL.gdTup, DL.gdCons, DL.gdNil, DL.idTup, DL.idLst, DL.idEnumL, DL.idEnumT, DL.idZip, DL.idRng1, DL.idRng2, DL.wAny, DL.wAll, DL.wChain, DL.wFor, DL.wWhile, DL.wAppend, DL.wLstM, DL.gdSub, DL.wIsi, DL.tyD, true_and, DL.sz_0, DL.sz_1, DL.sz_2, DL.sz_3, DL.sz_4, DL.sz_5, DL.sz_6, DL.sz_7, DL.sz_8, DL.sz_9, DL.sz_10, DL.sz_11, DL.sz_12, DL.sz_13, DL.sz_14, DL.sz_15, DL.sz_16, DL.sz_17, DL.sz_18, DL.sz_19, DL.sz_20, DL.sz_21, DL.sz_22, DL.sz_23, DL.sz_24, DL.sz_25, DL.sz_26, DL.ixN50, DL.ixN51, DL.ixN52, DL.ixN53, DL.ixN54, DL.Mu.set_same, DL.Mu.set_set, eq_self, decide_true, Bool.not_true, Bool.not_false, Bool.or_false, Bool.or_true, Bool.true_or, Bool.false_or, DL.kit_NoneType_bool, DL.kit_NoneType_int, DL.kit_NoneType_str, DL.kit_NoneType_tuple, DL.kit_NoneType_list, DL.kit_NoneType_dict, DL.kit_bool_bool, DL.kit_bool_int, DL.kit_bool_str, DL.kit_bool_tuple, DL.kit_bool_list, DL.kit_bool_dict, DL.kit_int_bool, DL.kit_int_int, DL.kit_int_str, DL.kit_int_tuple, DL.kit_int_list, DL.kit_int_dict, DL.kit_str_bool, DL.kit_str_int, DL.kit_str_str, DL.kit_str_tuple, DL.kit_str_list, DL.kit_str_dict, DL.kit_tuple_bool, DL.kit_tuple_int, DL.kit_tuple_str, DL.kit_tuple_tuple, DL.kit_tuple_list, DL.kit_tuple_dict, DL.kit_list_bool, DL.kit_list_int, DL.kit_list_str, DL.kit_list_tuple, DL.kit_list_list, DL.kit_list_dict, reduceIte, cntD_n, cntD_s, List.map_cons, List.map_nil, List.length_cons, List.length_nil, List.replicate, List.cons_append, List.nil_append, List.getElem?_cons_zero, List.getElem?_cons_succ, List.set_cons_zero, List.set_cons_succ, onSome, atI_0, atI_1, atI_2, atI_3, atI_4, w_nw, w_na, w_nh, w_ng, w_wn, w_wa, w_wh, w_wg, w_an, w_aw, w_ah, w_ag, w_hn, w_hw, w_ha, w_hg, w_gn, w_gw, w_ga, w_gh, w_self, Bool.false_eq_true, if_false, if_true, Nat.reduceAdd, Nat.reduceSub]
      rw [map_cnt]
      exact hk
  simp only [DL.wSeq, DL.wAsg, DL.wOp, DL.wVar, DL.wC, DL.wIx, DL.gdName, DL.startD, wishD, DL.pv_, DL.wIfS, DL.wTest, DL.wRet, DL.wIf, DL.wCall, DL.wCons, DL.wNil, DL.wNext, DL.wEq, DL.wNe, DL.wIsN, DL.wNotN, DL.isNonD, DL.onBl, DL.wAndV, DL.wOrV, DL.wNotV, DL.wAnd, DL.wOr, DL.wNot, DL.wCB, DL.wLen, DL.wInt, DL.wAbs, DL.wMax2, DL.wMin2, DL.wTupOf, DL.wUn, DL.wU, DL.wI0, DL.wI, DL.wTup, DL.wLst, DL.wPar, DL.wPar3, DL.wDrop, DL.wSl, DL.wSlL, DL.wPart, DL.wNoPart, DL.endD, DL.wLc, DL.lcStep, DL.wipeD, DL.wYes, DL.gdTup, DL.gdCons, DL.gdNil, DL.idTup, DL.idLst, DL.idEnumL, DL.idEnumT, DL.idZip, DL.idRng1, DL.idRng2, DL.wAny, DL.wAll, DL.wChain, DL.wFor, DL.wWhile, DL.wAppend, DL.wLstM, DL.gdSub, DL.wIsi, DL.tyD, true_and, DL.sz_0, DL.sz_1, DL.sz_2, DL.sz_3, DL.sz_4, DL.sz_5, DL.sz_6, DL.sz_7, DL.sz_8, DL.sz_9, DL.sz_10, DL.sz_11, DL.sz_12, DL.sz_13, DL.sz_14, DL.sz_15, DL.sz_16, DL.sz_17, DL.sz_18, DL.sz_19, DL.sz_20, DL.sz_21, DL.sz_22, DL.sz_23, DL.sz_24, DL.sz_25, DL.sz_26, DL.ixN50, DL.ixN51, DL.ixN52, DL.ixN53, DL.ixN54, DL.Mu.set_same, DL.Mu.set_set, eq_self, decide_true, Bool.not_true, Bool.not_false, Bool.or_false, Bool.or_true, Bool.true_or, Bool.false_or, DL.kit_NoneType_bool, DL.kit_NoneType_int, DL.kit_NoneType_str, DL.kit_NoneType_tuple, DL.kit_NoneType_list, DL.kit_NoneType_dict, DL.kit_bool_bool, DL.kit_bool_int, DL.kit_bool_str, DL.kit_bool_tuple, DL.kit_bool_list, DL.kit_bool_dict, DL.kit_int_bool, DL.kit_int_int, DL.kit_int_str, DL.kit_int_tuple, DL.kit_int_list, DL.kit_int_dict, DL.kit_str_bool, DL.kit_str_int, DL.kit_str_str, DL.kit_str_tuple, DL.kit_str_list, DL.kit_str_dict, DL.kit_tuple_bool, DL.kit_tuple_int, DL.kit_tuple_str, DL.kit_tuple_tuple, DL.kit_tuple_list, DL.kit_tuple_dict, DL.kit_list_bool, DL.kit_list_int, DL.kit_list_str, DL.kit_list_tuple, DL.kit_list_list, DL.kit_list_dict, reduceIte, cntD_n, cntD_s, List.map_cons, List.map_nil, List.length_cons, List.length_nil, List.replicate, List.cons_append, List.nil_append, List.getElem?_cons_zero, List.getElem?_cons_succ, List.set_cons_zero, List.set_cons_succ, onSome, atI_0, atI_1, atI_2, atI_3, atI_4, w_nw, w_na, w_nh, w_ng, w_wn, w_wa, w_wh, w_wg, w_an, w_aw, w_ah, w_ag, w_hn, w_hw, w_ha, w_hg, w_gn, w_gw, w_ga, w_gh, w_self, Bool.false_eq_true, if_false, if_true, Nat.reduceAdd, Nat.reduceSub]
  have pget : ∀ t, t < ps.length → ps[t]? = some (ps.getD t []) := fun t ht => by
    rw [List.getD_eq_getElem?_getD, List.getElem?_eq_getElem ht]
    rfl
  have plen : ∀ t, t < ps.length → (ps.getD t []).length = n := fun t ht => by
    rw [List.getD_eq_getElem?_getD, List.getElem?_eq_getElem ht]
    exact hps.ax _ (List.getElem_mem _)
  have a0 : ∀ t : Nat, t < ps.length → atI (ps.map placeD) ((t : Nat) : Int) = some (placeD (ps.getD t [])) := fun t ht => atI_mapD (pget t ht)
  have b0 : ∀ t : Nat, t < ps.length → atI ((List.range ps.length).map fun t => cntsD (ws.map fun w => countF w ps t)) ((t : Nat) : Int) = some (cntsD (ws.map fun w => countF w ps t)) := fun t ht => atI_mapD (List.getElem?_range ht)
  have a00 := a0 0 h0
  have b00 := b0 0 h0
  rw [Int.natCast_zero] at a00 b00
  rw [a00]
  simp only [DL.wSeq, DL.wAsg, DL.wOp, DL.wVar, DL.wC, DL.wIx, DL.gdName, DL.startD, wishD, DL.pv_, DL.wIfS, DL.wTest, DL.wRet, DL.wIf, DL.wCall, DL.wCons, DL.wNil, DL.wNext, DL.wEq, DL.wNe, DL.wIsN, DL.wNotN, DL.isNonD, DL.onBl, DL.wAndV, DL.wOrV, DL.wNotV, DL.wAnd, DL.wOr, DL.wNot, DL.wCB, DL.wLen, DL.wInt, DL.wAbs, DL.wMax2, DL.wMin2, DL.wTupOf, DL.wUn, DL.wU, DL.wI0, DL.wI, DL.wTup, DL.wLst, DL.wPar, DL.wPar3, DL.wDrop, DL.wSl, DL.wSlL, DL.wPart, DL.wNoPart, DL.endD, DL.wLc, DL.lcStep, DL.wipeD, DL.wYes, DL.gdTup, DL.gdCons, DL.gdNil, DL.idTup, DL.idLst, DL.idEnumL, DL.idEnumT, DL.idZip, DL.idRng1, DL.idRng2, DL.wAny, DL.wAll, DL.wChain, DL.wFor, DL.wWhile, DL.wAppend, DL.wLstM, DL.gdSub, DL.wIsi, DL.tyD, true_and, DL.sz_0, DL.sz_1, DL.sz_2, DL.sz_3, DL.sz_4, DL.sz_5, DL.sz_6, DL.sz_7, DL.sz_8, DL.sz_9, DL.sz_10, DL.sz_11, DL.sz_12, DL.sz_13, DL.sz_14, DL.sz_15, DL.sz_16, DL.sz_17, DL.sz_18, DL.sz_19, DL.sz_20, DL.sz_21, DL.sz_22, DL.sz_23, DL.sz_24, DL.sz_25, DL.sz_26, DL.ixN50, DL.ixN51, DL.ixN52, DL.ixN53, DL.ixN54, DL.Mu.set_same, DL.Mu.set_set, eq_self, decide_true, Bool.not_true, Bool.not_false, Bool.or_false, Bool.or_true, Bool.true_or, Bool.false_or, DL.kit_NoneType_bool, DL.kit_NoneType_int, DL.kit_NoneType_str, DL.kit_NoneType_tuple, DL.kit_NoneType_list, DL.kit_NoneType_dict, DL.kit_bool_bool, DL.kit_bool_int, DL.kit_bool_str, DL.kit_bool_tuple, DL.kit_bool_list, DL.kit_bool_dict, DL.kit_int_bool, DL.kit_int_int, DL.kit_int_str, DL.kit_int_tuple, DL.kit_int_list, DL.kit_int_dict, DL.kit_str_bool, DL.kit_str_int, DL.kit_str_str, DL.kit_str_tuple, DL.kit_str_list, DL.kit_str_dict, DL.kit_tuple_bool, DL.kit_tuple_int, DL.kit_tuple_str, DL.kit_tuple_tuple, DL.kit_tuple_list, DL.kit_tuple_dict, DL.kit_list_bool, DL.kit_list_int, DL.kit_list_str, DL.kit_list_tuple, DL.kit_list_list, DL.kit_list_dict, reduceIte, cntD_n, cntD_s, List.map_cons, List.map_nil, List.length_cons, List.length_nil, List.replicate, List.cons_append, List.nil_append, List.getElem?_cons_zero, List.getElem?_cons_succ, List.set_cons_zero, List.set_cons_succ, onSome, atI_0, atI_1, atI_2, atI_3, atI_4, w_nw, w_na, w_nh, w_ng, w_wn, w_wa, w_wh, w_wg, w_an, w_aw, w_ah, w_ag, w_hn, w_hw, w_ha, w_hg, w_gn, w_gw, w_ga, w_gh, w_self, Bool.false_eq_true, if_false, if_true, Nat.reduceAdd, Nat.reduceSub]
  refine ⟨n, ws, _, rfl, hl, hw, plen 0 h0, hn, ?_⟩
  rw [b00]
  simp only [DL.wSeq, DL.wAsg, DL.wOp, DL.wVar, DL.wC, DL.wIx, DL.gdName, DL.startD, wishD, DL.pv_, DL.wIfS, DL.wTest, DL.wRet, DL.wIf, DL.wCall, DL.wCons, DL.wNil, DL.wNext, DL.wEq, DL.wNe, DL.wIsN, DL.wNotN, DL.isNonD, DL.onBl, DL.wAndV, DL.wOrV, DL.wNotV, DL.wAnd, DL.wOr, DL.wNot, DL.wCB, DL.wLen, DL.wInt, DL.wAbs, DL.wMax2, DL.wMin2, DL.wTupOf, DL.wUn, DL.wU, DL.wI0, DL.wI, DL.wTup, DL.wLst, DL.wPar, DL.wPar3, DL.wDrop, DL.wSl, DL.wSlL, DL.wPart, DL.wNoPart, DL.endD, DL.wLc, DL.lcStep, DL.wipeD, DL.wYes, DL.gdTup, DL.gdCons, DL.gdNil, DL.idTup, DL.idLst, DL.idEnumL, DL.idEnumT, DL.idZip, DL.idRng1, DL.idRng2, DL.wAny, DL.wAll, DL.wChain, DL.wFor, DL.wWhile, DL.wAppend, DL.wLstM, DL.gdSub, DL.wIsi, DL.tyD, true_and, DL.sz_0, DL.sz_1, DL.sz_2, DL.sz_3, DL.sz_4, DL.sz_5, DL.sz_6, DL.sz_7, DL.sz_8, DL.sz_9, DL.sz_10, DL.sz_11, DL.sz_12, DL.sz_13, DL.sz_14, DL.sz_15, DL.sz_16, DL.sz_17, DL.sz_18, DL.sz_19, DL.sz_20, DL.sz_21, DL.sz_22, DL.sz_23, DL.sz_24, DL.sz_25, DL.sz_26, DL.ixN50, DL.ixN51, DL.ixN52, DL.ixN53, DL.ixN54, DL.Mu.set_same, DL.Mu.set_set, eq_self, decide_true, Bool.not_true, Bool.not_false, Bool.or_false, Bool.or_true, Bool.true_or, Bool.false_or, DL.kit_NoneType_bool, DL.kit_NoneType_int, DL.kit_NoneType_str, DL.kit_NoneType_tuple, DL.kit_NoneType_list, DL.kit_NoneType_dict, DL.kit_bool_bool, DL.kit_bool_int, DL.kit_bool_str, DL.kit_bool_tuple, DL.kit_bool_list, DL.kit_bool_dict, DL.kit_int_bool, DL.kit_int_int, DL.kit_int_str, DL.kit_int_tuple, DL.kit_int_list, DL.kit_int_dict, DL.kit_str_bool, DL.kit_str_int, DL.kit_str_str, DL.kit_str_tuple, DL.kit_str_list, DL.kit_str_dict, DL.kit_tuple_bool, DL.kit_tuple_int, DL.kit_tuple_str, DL.kit_tuple_tuple, DL.kit_tuple_list, DL.kit_tuple_dict, DL.kit_list_bool, DL.kit_list_int, DL.kit_list_str, DL.kit_list_tuple, DL.kit_list_list, DL.kit_list_dict, reduceIte, cntD_n, cntD_s, List.map_cons, List.map_nil, List.length_cons, List.length_nil, List.replicate, List.cons_append, List.nil_append, List.getElem?_cons_zero, List.getElem?_cons_succ, List.set_cons_zero, List.set_cons_succ, onSome, atI_0, atI_1, atI_2, atI_3, atI_4, w_nw, w_na, w_nh, w_ng, w_wn, w_wa, w_wh, w_wg, w_an, w_aw, w_ah, w_ag, w_hn, w_hw, w_ha, w_hg, w_gn, w_gw, w_ga, w_gh, w_self, Bool.false_eq_true, if_false, if_true, Nat.reduceAdd, Nat.reduceSub]
  refine ⟨ws.map fun w => countF w ps 0, ?_, by rw [List.length_map]; exact hl, ?_⟩
  · have e : (ws.map fun w => begunOne w (ps.getD 0 [])) = ws.map fun w => countF w ps 0 := List.map_congr_left fun w hm => fact_zero (hw w hm) h0
    rw [e]
  simp only [DL.wSeq, DL.wAsg, DL.wOp, DL.wVar, DL.wC, DL.wIx, DL.gdName, DL.startD, wishD, DL.pv_, DL.wIfS, DL.wTest, DL.wRet, DL.wIf, DL.wCall, DL.wCons, DL.wNil, DL.wNext, DL.wEq, DL.wNe, DL.wIsN, DL.wNotN, DL.isNonD, DL.onBl, DL.wAndV, DL.wOrV, DL.wNotV, DL.wAnd, DL.wOr, DL.wNot, DL.wCB, DL.wLen, DL.wInt, DL.wAbs, DL.wMax2, DL.wMin2, DL.wTupOf, DL.wUn, DL.wU, DL.wI0, DL.wI, DL.wTup, DL.wLst, DL.wPar, DL.wPar3, DL.wDrop, DL.wSl, DL.wSlL, DL.wPart, DL.wNoPart, DL.endD, DL.wLc, DL.lcStep, DL.wipeD, DL.wYes, DL.gdTup, DL.gdCons, DL.gdNil, DL.idTup, DL.idLst, DL.idEnumL, DL.idEnumT, DL.idZip, DL.idRng1, DL.idRng2, DL.wAny, DL.wAll, DL.wChain, DL.wFor, DL.wWhile, DL.wAppend, DL.wLstM, DL.gdSub, DL.wIsi, DL.tyD, true_and, DL.sz_0, DL.sz_1, DL.sz_2, DL.sz_3, DL.sz_4, DL.sz_5, DL.sz_6, DL.sz_7, DL.sz_8, DL.sz_9, DL.sz_10, DL.sz_11, DL.sz_12, DL.sz_13, DL.sz_14, DL.sz_15, DL.sz_16, DL.sz_17, DL.sz_18, DL.sz_19, DL.sz_20, DL.sz_21, DL.sz_22, DL.sz_23, DL.sz_24, DL.sz_25, DL.sz_26, DL.ixN50, DL.ixN51, DL.ixN52, DL.ixN53, DL.ixN54, DL.Mu.set_same, DL.Mu.set_set, eq_self, decide_true, Bool.not_true, Bool.not_false, Bool.or_false, Bool.or_true, Bool.true_or, Bool.false_or, DL.kit_NoneType_bool, DL.kit_NoneType_int, DL.kit_NoneType_str, DL.kit_NoneType_tuple, DL.kit_NoneType_list, DL.kit_NoneType_dict, DL.kit_bool_bool, DL.kit_bool_int, DL.kit_bool_str, DL.kit_bool_tuple, DL.kit_bool_list, DL.kit_bool_dict, DL.kit_int_bool, DL.kit_int_int, DL.kit_int_str, DL.kit_int_tuple, DL.kit_int_list, DL.kit_int_dict, DL.kit_str_bool, DL.kit_str_int, DL.kit_str_str, DL.kit_str_tuple, DL.kit_str_list, DL.kit_str_dict, DL.kit_tuple_bool, DL.kit_tuple_int, DL.kit_tuple_str, DL.kit_tuple_tuple, DL.kit_tuple_list, DL.kit_tuple_dict, DL.kit_list_bool, DL.kit_list_int, DL.kit_list_str, DL.kit_list_tuple, DL.kit_list_list, DL.kit_list_dict, reduceIte, cntD_n, cntD_s, List.map_cons, List.map_nil, List.length_cons, List.length_nil, List.replicate, List.cons_append, List.nil_append, List.getElem?_cons_zero, List.getElem?_cons_succ, List.set_cons_zero, List.set_cons_succ, onSome, atI_0, atI_1, atI_2, atI_3, atI_4, w_nw, w_na, w_nh, w_ng, w_wn, w_wa, w_wh, w_wg, w_an, w_aw, w_ah, w_ag, w_hn, w_hw, w_ha, w_hg, w_gn, w_gw, w_ga, w_gh, w_self, Bool.false_eq_true, if_false, if_true, Nat.reduceAdd, Nat.reduceSub]
  refine ⟨⟨by omega, by omega, (range_ok hfew).1, (range_ok hfew).2⟩, ?_⟩
  rw [show ((ps.length : Nat) : Int) - 1 = ((ps.length - 1 : Nat) : Int) by omega, Int.toNat_natCast, rangeD1]
  refine forW_by (fun _ ρ μ' => μ' = μ ∧ ∃ x, ρ = [some (.tup (ws.map wishD)), some (.lst (ps.map placeD)), x, some (.lst ((List.range ps.length).map fun t => cntsD (ws.map fun w => countF w ps t))), none]) ⟨rfl, none, rfl⟩ ?_ ?_
  · rintro j d ρ μ' N hd ⟨rfl, x, rfl⟩ hN
    rw [List.getElem?_map] at hd
    obtain ⟨i, hi, rfl⟩ := Option.map_eq_some_iff.mp hd
    have hj := (List.getElem?_eq_some_iff.mp hi).1
    rw [List.length_range] at hj
    rw [List.getElem?_range hj] at hi
    cases hi
    simp only [DL.wSeq, DL.wAsg, DL.wOp, DL.wVar, DL.wC, DL.wIx, DL.gdName, DL.startD, wishD, DL.pv_, DL.wIfS, DL.wTest, DL.wRet, DL.wIf, DL.wCall, DL.wCons, DL.wNil, DL.wNext, DL.wEq, DL.wNe, DL.wIsN, DL.wNotN, DL.isNonD, DL.onBl, DL.wAndV, DL.wOrV, DL.wNotV, DL.wAnd, DL.wOr, DL.wNot, DL.wCB, DL.wLen, DL.wInt, DL.wAbs, DL.wMax2, DL.wMin2, DL.wTupOf, DL.wUn, DL.wU, DL.wI0, DL.wI, DL.wTup, DL.wLst, DL.wPar, DL.wPar3, DL.wDrop, DL.wSl, DL.wSlL, DL.wPart, DL.wNoPart, DL.endD, DL.wLc, DL.lcStep, DL.wipeD, DL.wYes, DL.gdTup, DL.gdCons, DL.gdNil, DL.idTup, DL.idLst, DL.idEnumL, DL.idEnumT, DL.idZip, DL.idRng1, DL.idRng2, DL.wAny, DL.wAll, DL.wChain, DL.wFor, DL.wWhile, DL.wAppend, DL.wLstM, DL.gdSub, DL.wIsi, DL.tyD, true_and, DL.sz_0, DL.sz_1, DL.sz_2, DL.sz_3, DL.sz_4, DL.sz_5, DL.sz_6, DL.sz_7, DL.sz_8, DL.sz_9, DL.sz_10, DL.sz_11, DL.sz_12, DL.sz_13, DL.sz_14, DL.sz_15, DL.sz_16, DL.sz_17, DL.sz_18, DL.sz_19, DL.sz_20, DL.sz_21, DL.sz_22, DL.sz_23, DL.sz_24, DL.sz_25, DL.sz_26, DL.ixN50, DL.ixN51, DL.ixN52, DL.ixN53, DL.ixN54, DL.Mu.set_same, DL.Mu.set_set, eq_self, decide_true, Bool.not_true, Bool.not_false, Bool.or_false, Bool.or_true, Bool.true_or, Bool.false_or, DL.kit_NoneType_bool, DL.kit_NoneType_int, DL.kit_NoneType_str, DL.kit_NoneType_tuple, DL.kit_NoneType_list, DL.kit_NoneType_dict, DL.kit_bool_bool, DL.kit_bool_int, DL.kit_bool_str, DL.kit_bool_tuple, DL.kit_bool_list, DL.kit_bool_dict, DL.kit_int_bool, DL.kit_int_int, DL.kit_int_str, DL.kit_int_tuple, DL.kit_int_list, DL.kit_int_dict, DL.kit_str_bool, DL.kit_str_int, DL.kit_str_str, DL.kit_str_tuple, DL.kit_str_list, DL.kit_str_dict, DL.kit_tuple_bool, DL.kit_tuple_int, DL.kit_tuple_str, DL.kit_tuple_tuple, DL.kit_tuple_list, DL.kit_tuple_dict, DL.kit_list_bool, DL.kit_list_int, DL.kit_list_str, DL.kit_list_tuple, DL.kit_list_list, DL.kit_list_dict, reduceIte, cntD_n, cntD_s, List.map_cons, List.map_nil, List.length_cons, List.length_nil, List.replicate, List.cons_append, List.nil_append, List.getElem?_cons_zero, List.getElem?_cons_succ, List.set_cons_zero, List.set_cons_succ, onSome, atI_0, atI_1, atI_2, atI_3, atI_4, w_nw, w_na, w_nh, w_ng, w_wn, w_wa, w_wh, w_wg, w_an, w_aw, w_ah, w_ag, w_hn, w_hw, w_ha, w_hg, w_gn, w_gw, w_ga, w_gh, w_self, Bool.false_eq_true, if_false, if_true, Nat.reduceAdd, Nat.reduceSub]
    rw [show ((j + 1 : Nat) : Int) - 1 = ((j : Nat) : Int) by omega, b0 j (by omega), a0 (j + 1) (by omega)]
    simp only [DL.wSeq, DL.wAsg, DL.wOp, DL.wVar, DL.wC, DL.wIx, DL.gdName, DL.startD, wishD, DL.pv_, DL.wIfS, DL.wTest, DL.wRet, DL.wIf, DL.wCall, DL.wCons, DL.wNil, DL.wNext, DL.wEq, DL.wNe, DL.wIsN, DL.wNotN, DL.isNonD, DL.onBl, DL.wAndV, DL.wOrV, DL.wNotV, DL.wAnd, DL.wOr, DL.wNot, DL.wCB, DL.wLen, DL.wInt, DL.wAbs, DL.wMax2, DL.wMin2, DL.wTupOf, DL.wUn, DL.wU, DL.wI0, DL.wI, DL.wTup, DL.wLst, DL.wPar, DL.wPar3, DL.wDrop, DL.wSl, DL.wSlL, DL.wPart, DL.wNoPart, DL.endD, DL.wLc, DL.lcStep, DL.wipeD, DL.wYes, DL.gdTup, DL.gdCons, DL.gdNil, DL.idTup, DL.idLst, DL.idEnumL, DL.idEnumT, DL.idZip, DL.idRng1, DL.idRng2, DL.wAny, DL.wAll, DL.wChain, DL.wFor, DL.wWhile, DL.wAppend, DL.wLstM, DL.gdSub, DL.wIsi, DL.tyD, true_and, DL.sz_0, DL.sz_1, DL.sz_2, DL.sz_3, DL.sz_4, DL.sz_5, DL.sz_6, DL.sz_7, DL.sz_8, DL.sz_9, DL.sz_10, DL.sz_11, DL.sz_12, DL.sz_13, DL.sz_14, DL.sz_15, DL.sz_16, DL.sz_17, DL.sz_18, DL.sz_19, DL.sz_20, DL.sz_21, DL.sz_22, DL.sz_23, DL.sz_24, DL.sz_25, DL.sz_26, DL.ixN50, DL.ixN51, DL.ixN52, DL.ixN53, DL.ixN54, DL.Mu.set_same, DL.Mu.set_set, eq_self, decide_true, Bool.not_true, Bool.not_false, Bool.or_false, Bool.or_true, Bool.true_or, Bool.false_or, DL.kit_NoneType_bool, DL.kit_NoneType_int, DL.kit_NoneType_str, DL.kit_NoneType_tuple, DL.kit_NoneType_list, DL.kit_NoneType_dict, DL.kit_bool_bool, DL.kit_bool_int, DL.kit_bool_str, DL.kit_bool_tuple, DL.kit_bool_list, DL.kit_bool_dict, DL.kit_int_bool, DL.kit_int_int, DL.kit_int_str, DL.kit_int_tuple, DL.kit_int_list, DL.kit_int_dict, DL.kit_str_bool, DL.kit_str_int, DL.kit_str_str, DL.kit_str_tuple, DL.kit_str_list, DL.kit_str_dict, DL.kit_tuple_bool, DL.kit_tuple_int, DL.kit_tuple_str, DL.kit_tuple_tuple, DL.kit_tuple_list, DL.kit_tuple_dict, DL.kit_list_bool, DL.kit_list_int, DL.kit_list_str, DL.kit_list_tuple, DL.kit_list_list, DL.kit_list_dict, reduceIte, cntD_n, cntD_s, List.map_cons, List.map_nil, List.length_cons, List.length_nil, List.replicate, List.cons_append, List.nil_append, List.getElem?_cons_zero, List.getElem?_cons_succ, List.set_cons_zero, List.set_cons_succ, onSome, atI_0, atI_1, atI_2, atI_3, atI_4, w_nw, w_na, w_nh, w_ng, w_wn, w_wa, w_wh, w_wg, w_an, w_aw, w_ah, w_ag, w_hn, w_hw, w_ha, w_hg, w_gn, w_gw, w_ga, w_gh, w_self, Bool.false_eq_true, if_false, if_true, Nat.reduceAdd, Nat.reduceSub]
    refine ⟨n, ws, ws.map fun w => countF w ps j, _, rfl, hl, by rw [List.length_map], hw, plen (j + 1) (by omega), hn, ?_⟩
    rw [b0 (j + 1) (by omega)]
    simp only [DL.wSeq, DL.wAsg, DL.wOp, DL.wVar, DL.wC, DL.wIx, DL.gdName, DL.startD, wishD, DL.pv_, DL.wIfS, DL.wTest, DL.wRet, DL.wIf, DL.wCall, DL.wCons, DL.wNil, DL.wNext, DL.wEq, DL.wNe, DL.wIsN, DL.wNotN, DL.isNonD, DL.onBl, DL.wAndV, DL.wOrV, DL.wNotV, DL.wAnd, DL.wOr, DL.wNot, DL.wCB, DL.wLen, DL.wInt, DL.wAbs, DL.wMax2, DL.wMin2, DL.wTupOf, DL.wUn, DL.wU, DL.wI0, DL.wI, DL.wTup, DL.wLst, DL.wPar, DL.wPar3, DL.wDrop, DL.wSl, DL.wSlL, DL.wPart, DL.wNoPart, DL.endD, DL.wLc, DL.lcStep, DL.wipeD, DL.wYes, DL.gdTup, DL.gdCons, DL.gdNil, DL.idTup, DL.idLst, DL.idEnumL, DL.idEnumT, DL.idZip, DL.idRng1, DL.idRng2, DL.wAny, DL.wAll, DL.wChain, DL.wFor, DL.wWhile, DL.wAppend, DL.wLstM, DL.gdSub, DL.wIsi, DL.tyD, true_and, DL.sz_0, DL.sz_1, DL.sz_2, DL.sz_3, DL.sz_4, DL.sz_5, DL.sz_6, DL.sz_7, DL.sz_8, DL.sz_9, DL.sz_10, DL.sz_11, DL.sz_12, DL.sz_13, DL.sz_14, DL.sz_15, DL.sz_16, DL.sz_17, DL.sz_18, DL.sz_19, DL.sz_20, DL.sz_21, DL.sz_22, DL.sz_23, DL.sz_24, DL.sz_25, DL.sz_26, DL.ixN50, DL.ixN51, DL.ixN52, DL.ixN53, DL.ixN54, DL.Mu.set_same, DL.Mu.set_set, eq_self, decide_true, Bool.not_true, Bool.not_false, Bool.or_false, Bool.or_true, Bool.true_or, Bool.false_or, DL.kit_NoneType_bool, DL.kit_NoneType_int, DL.kit_NoneType_str, DL.kit_NoneType_tuple, DL.kit_NoneType_list, DL.kit_NoneType_dict, DL.kit_bool_bool, DL.kit_bool_int, DL.kit_bool_str, DL.kit_bool_tuple, DL.kit_bool_list, DL.kit_bool_dict, DL.kit_int_bool, DL.kit_int_int, DL.kit_int_str, DL.kit_int_tuple, DL.kit_int_list, DL.kit_int_dict, DL.kit_str_bool, DL.kit_str_int, DL.kit_str_str, DL.kit_str_tuple, DL.kit_str_list, DL.kit_str_dict, DL.kit_tuple_bool, DL.kit_tuple_int, DL.kit_tuple_str, DL.kit_tuple_tuple, DL.kit_tuple_list, DL.kit_tuple_dict, DL.kit_list_bool, DL.kit_list_int, DL.kit_list_str, DL.kit_list_tuple, DL.kit_list_list, DL.kit_list_dict, reduceIte, cntD_n, cntD_s, List.map_cons, List.map_nil, List.length_cons, List.length_nil, List.replicate, List.cons_append, List.nil_append, List.getElem?_cons_zero, List.getElem?_cons_succ, List.set_cons_zero, List.set_cons_succ, onSome, atI_0, atI_1, atI_2, atI_3, atI_4, w_nw, w_na, w_nh, w_ng, w_wn, w_wa, w_wh, w_wg, w_an, w_aw, w_ah, w_ag, w_hn, w_hw, w_ha, w_hg, w_gn, w_gw, w_ga, w_gh, w_self, Bool.false_eq_true, if_false, if_true, Nat.reduceAdd, Nat.reduceSub]
    refine ⟨ws.map fun w => countF w ps (j + 1), ?_, by rw [List.length_map]; exact hl, ?_⟩
    · rw [zipWith_self]
      have e : (ws.map fun w => countedOne w (countF w ps j) (ps.getD (j + 1) [])) = ws.map fun w => countF w ps (j + 1) := List.map_congr_left fun w hm => fact_succ (hw w hm) (by omega)
      rw [e]
    · (try simp only [DL.wSeq, DL.wAsg, DL.wOp, DL.wVar, DL.wC, DL.wIx, DL.gdName, DL.startD, wishD, DL.pv_, DL.wIfS, DL.wTest, DL.wRet, DL.wIf, DL.wCall, DL.wCons, DL.wNil, DL.wNext, DL.wEq, DL.wNe, DL.wIsN, DL.wNotN, DL.isNonD, DL.onBl, DL.wAndV, DL.wOrV, DL.wNotV, DL.wAnd, DL.wOr, DL.wNot, DL.wCB, DL.wLen, DL.wInt, DL.wAbs, DL.wMax2, DL.wMin2, DL.wTupOf, DL.wUn, DL.wU, DL.wI0, DL.wI, DL.wTup, DL.wLst, DL.wPar, DL.wPar3, DL.wDrop, DL.wSl, DL.wSlL, DL.wPart, DL.wNoPart, DL.endD, DL.wLc, DL.lcStep, DL.wipeD, DL.wYes, DL.gdTup, DL.gdCons, DL.gdNil, DL.idTup, DL.idLst, DL.idEnumL, DL.idEnumT, DL.idZip, DL.idRng1, DL.idRng2, DL.wAny, DL.wAll, DL.wChain, DL.wFor, DL.wWhile, DL.wAppend, DL.wLstM, DL.gdSub, DL.wIsi, DL.tyD, true_and, DL.sz_0, DL.sz_1, DL.sz_2, DL.sz_3, DL.sz_4, DL.sz_5, DL.sz_6, DL.sz_7, DL.sz_8, DL.sz_9, DL.sz_10, DL.sz_11, DL.sz_12, DL.sz_13, DL.sz_14, DL.sz_15, DL.sz_16, DL.sz_17, DL.sz_18, DL.sz_19, DL.sz_20, DL.sz_21, DL.sz_22, DL.sz_23, DL.sz_24, DL.sz_25, DL.sz_26, DL.ixN50, DL.ixN51, DL.ixN52, DL.ixN53, DL.ixN54, DL.Mu.set_same, DL.Mu.set_set, eq_self, decide_true, Bool.not_true, Bool.not_false, Bool.or_false, Bool.or_true, Bool.true_or, Bool.false_or, DL.kit_NoneType_bool, DL.kit_NoneType_int, DL.kit_NoneType_str, DL.kit_NoneType_tuple, DL.kit_NoneType_list, DL.kit_NoneType_dict, DL.kit_bool_bool, DL.kit_bool_int, DL.kit_bool_str, DL.kit_bool_tuple, DL.kit_bool_list, DL.kit_bool_dict, DL.kit_int_bool, DL.kit_int_int, DL.kit_int_str, DL.kit_int_tuple, DL.kit_int_list, DL.kit_int_dict, DL.kit_str_bool, DL.kit_str_int, DL.kit_str_str, DL.kit_str_tuple, DL.kit_str_list, DL.kit_str_dict, DL.kit_tuple_bool, DL.kit_tuple_int, DL.kit_tuple_str, DL.kit_tuple_tuple, DL.kit_tuple_list, DL.kit_tuple_dict, DL.kit_list_bool, DL.kit_list_int, DL.kit_list_str, DL.kit_list_tuple, DL.kit_list_list, DL.kit_list_dict, reduceIte, cntD_n, cntD_s, List.map_cons, List.map_nil, List.length_cons, List.length_nil, List.replicate, List.cons_append, List.nil_append, List.getElem?_cons_zero, List.getElem?_cons_succ, List.set_cons_zero, List.set_cons_succ, onSome, atI_0, atI_1, atI_2, atI_3, atI_4, w_nw, w_na, w_nh, w_ng, w_wn, w_wa, w_wh, w_wg, w_an, w_aw, w_ah, w_ag, w_hn, w_hw, w_ha, w_hg, w_gn, w_gw, w_ga, w_gh, w_self, Bool.false_eq_true, if_false, if_true, Nat.reduceAdd, Nat.reduceSub])
      exact hN _ _ ⟨rfl, _, rfl⟩
  · rintro ρ μ' ⟨rfl, x, rfl⟩
    simp only [DL.wSeq, DL.wAsg, DL.wOp, DL.wVar, DL.wC, DL.wIx, DL.gdName, DL.startD, wishD, DL.pv_, DL.wIfS, DL.wTest, DL.wRet, DL.wIf, DL.wCall, DL.wCons, DL.wNil, DL.wNext, DL.wEq, DL.wNe, DL.wIsN, DL.wNotN, DL.isNonD, DL.onBl, DL.wAndV, DL.wOrV, DL.wNotV, DL.wAnd, DL.wOr, DL.wNot, DL.wCB, DL.wLen, DL.wInt, DL.wAbs, DL.wMax2, DL.wMin2, DL.wTupOf, DL.wUn, DL.wU, DL.wI0, DL.wI, DL.wTup, DL.wLst, DL.wPar, DL.wPar3, DL.wDrop, DL.wSl, DL.wSlL, DL.wPart, DL.wNoPart, DL.endD, DL.wLc, DL.lcStep, DL.wipeD, DL.wYes, DL.gdTup, DL.gdCons, DL.gdNil, DL.idTup, DL.idLst, DL.idEnumL, DL.idEnumT, DL.idZip, DL.idRng1, DL.idRng2, DL.wAny, DL.wAll, DL.wChain, DL.wFor, DL.wWhile, DL.wAppend, DL.wLstM, DL.gdSub, DL.wIsi, DL.tyD, true_and, DL.sz_0, DL.sz_1, DL.sz_2, DL.sz_3, DL.sz_4, DL.sz_5, DL.sz_6, DL.sz_7, DL.sz_8, DL.sz_9, DL.sz_10, DL.sz_11, DL.sz_12, DL.sz_13, DL.sz_14, DL.sz_15, DL.sz_16, DL.sz_17, DL.sz_18, DL.sz_19, DL.sz_20, DL.sz_21, DL.sz_22, DL.sz_23, DL.sz_24, DL.sz_25, DL.sz_26, DL.ixN50, DL.ixN51, DL.ixN52, DL.ixN53, DL.ixN54, DL.Mu.set_same, DL.Mu.set_set, eq_self, decide_true, Bool.not_true, Bool.not_false, Bool.or_false, Bool.or_true, Bool.true_or, Bool.false_or, DL.kit_NoneType_bool, DL.kit_NoneType_int, DL.kit_NoneType_str, DL.kit_NoneType_tuple, DL.kit_NoneType_list, DL.kit_NoneType_dict, DL.kit_bool_bool, DL.kit_bool_int, DL.kit_bool_str, DL.kit_bool_tuple, DL.kit_bool_list, DL.kit_bool_dict, DL.kit_int_bool, DL.kit_int_int, DL.kit_int_str, DL.kit_int_tuple, DL.kit_int_list, DL.kit_int_dict, DL.kit_str_bool, DL.kit_str_int, DL.kit_str_str, DL.kit_str_tuple, DL.kit_str_list, DL.kit_str_dict, DL.kit_tuple_bool, DL.kit_tuple_int, DL.kit_tuple_str, DL.kit_tuple_tuple, DL.kit_tuple_list, DL.kit_tuple_dict, DL.kit_list_bool, DL.kit_list_int, DL.kit_list_str, DL.kit_list_tuple, DL.kit_list_list, DL.kit_list_dict, reduceIte, cntD_n, cntD_s, List.map_cons, List.map_nil, List.length_cons, List.length_nil, List.replicate, List.cons_append, List.nil_append, List.getElem?_cons_zero, List.getElem?_cons_succ, List.set_cons_zero, List.set_cons_succ, onSome, atI_0, atI_1, atI_2, atI_3, atI_4, w_nw, w_na, w_nh, w_ng, w_wn, w_wa, w_wh, w_wg, w_an, w_aw, w_ah, w_ag, w_hn, w_hw, w_ha, w_hg, w_gn, w_gw, w_ga, w_gh, w_self, Bool.false_eq_true, if_false, if_true, Nat.reduceAdd, Nat.reduceSub]
    exact rt_D q
end K18
set_option linter.all false
set_option maxRecDepth 100000
set_option maxHeartbeats 1000000
namespace K18
open PySem L2 DL
def kOne : List Box := [[(1, 1)]]
def kTwo : List Box := [[(2, 2)]]
def kLine : List (List Int) := [[0], [1], [1], [2], [0], [1], [1], [1]]
def kWishes : List Wish := [.answered kOne kTwo 2, .answered kOne kTwo 3, .within kTwo 3, .again kTwo 3]
def kMore : List Wish := [.ahead kOne kTwo, .ahead kTwo kOne, .never [[(7, 9)]], .within [[(5, 5)]] 30]
theorem area1 (b : Int × Int) : AreaOk 1 [[b]] := ⟨by simp, fun c hc => by
  rw [List.mem_singleton.mp hc]
  rfl⟩
theorem k_wishes : ∀ w ∈ kWishes, WishOk 1 w := by
  intro w hw
  have e : w = .answered kOne kTwo 2 ∨ w = .answered kOne kTwo 3 ∨ w = .within kTwo 3 ∨ w = .again kTwo 3 := by simpa [kWishes] using hw
  rcases e with rfl | rfl | rfl | rfl
  · exact ⟨area1 _, area1 _, by decide⟩
  · exact ⟨area1 _, area1 _, by decide⟩
  · exact ⟨area1 _, by decide⟩
  · exact ⟨area1 _, by decide⟩
theorem k_more : ∀ w ∈ kMore, WishOk 1 w := by
  intro w hw
  have e : w = .ahead kOne kTwo ∨ w = .ahead kTwo kOne ∨ w = .never [[(7, 9)]] ∨ w = .within [[(5, 5)]] 30 := by simpa [kMore] using hw
  rcases e with rfl | rfl | rfl | rfl
  · exact ⟨area1 _, area1 _⟩
  · exact ⟨area1 _, area1 _⟩
  · exact area1 _
  · exact ⟨area1 _, by decide⟩
theorem k_line : PlacesOk 1 kLine := ⟨by decide, by decide⟩
theorem kv1 : (kWishes.map fun w => begunOne w [2]) = [some 0, some 0, some (-1), some 0] := by decide +kernel
theorem kv2 : (kMore.map fun w => begunOne w [2]) = [none, some 1, some 0, some 0] := by decide +kernel
theorem kd1 : wishesD kWishes = .tup [.tup [.str "answered", .tup [.tup [.tup [.int 1, .int 1]]], .tup [.tup [.tup [.int 2, .int 2]]], .int 2], .tup [.str "answered", .tup [.tup [.tup [.int 1, .int 1]]], .tup [.tup [.tup [.int 2, .int 2]]], .int 3], .tup [.str "within", .tup [.tup [.tup [.int 2, .int 2]]], .int 3], .tup [.str "again", .tup [.tup [.tup [.int 2, .int 2]]], .int 3]] := by
  simp only [wishesD, kWishes, kOne, kTwo, wishD, areaD, boxD, List.map_cons, List.map_nil]
  rfl
theorem kd2 : wishesD kMore = .tup [.tup [.str "ahead", .tup [.tup [.tup [.int 1, .int 1]]], .tup [.tup [.tup [.int 2, .int 2]]]], .tup [.str "ahead", .tup [.tup [.tup [.int 2, .int 2]]], .tup [.tup [.tup [.int 1, .int 1]]]], .tup [.str "never", .tup [.tup [.tup [.int 7, .int 9]]]], .tup [.str "within", .tup [.tup [.tup [.int 5, .int 5]]], .int 30]] := by
  simp only [wishesD, kMore, kOne, kTwo, wishD, areaD, boxD, List.map_cons, List.map_nil]
  rfl
theorem kd3 : placesD kLine = .lst [.tup [.int 0], .tup [.int 1], .tup [.int 1], .tup [.int 2], .tup [.int 0], .tup [.int 1], .tup [.int 1], .tup [.int 1]] := by
  simp only [placesD, kLine, placeD, List.map_cons, List.map_nil]
theorem kd4 : wishesD [] = .tup [] := rfl
theorem kd5 : placeD [2] = .tup [.int 2] := rfl
theorem kc1 : cntsD (kWishes.map fun w => begunOne w [2]) = .tup [.int 0, .int 0, .int (-1), .int 0] := by rw [kv1] <;> rfl
theorem kc2 : cntsD (kMore.map fun w => begunOne w [2]) = .tup [.non, .int 1, .int 0, .int 0] := by rw [kv2] <;> rfl
theorem ke1 : cntsD [some 0, some 0, some (-1), some 0] = .tup [.int 0, .int 0, .int (-1), .int 0] := rfl
theorem ke2 : cntsD [none, some 1, some 0, some 0] = .tup [.non, .int 1, .int 0, .int 0] := rfl
theorem use_begun {ds : List DV} {μ : Mu} {P : DK} (ws : List Wish) (e : ds = [wishesD ws, placeD [2]]) (h1 : ws.length ≤ 1000) (h2 : ∀ w ∈ ws, WishOk 1 w) (h : P (cntsD (ws.map fun w => begunOne w [2])) μ) : s_begun ds μ P := ⟨1, ws, [2], e, h1, h2, rfl, by decide, h⟩
theorem use_is {ds : List DV} {μ : Mu} {P : DK} (cs : List Cnt) (e : ds = [cntsD cs, cntsD cs]) (h1 : cs.length ≤ 1000) (h : P (.bl true) μ) : s_u_law_is ds μ P := ⟨cs, e, h1, h⟩
theorem use_walk {ds : List DV} {μ : Mu} {P : DK} (ws : List Wish) (e : ds = [wishesD ws, placesD kLine]) (h1 : ws.length ≤ 1000) (h2 : ∀ w ∈ ws, WishOk 1 w) (h : P (.bl true) μ) : s_u_law_is_walk_right ds μ P := ⟨1, ws, kLine, e, h1, h2, k_line, by decide, by decide, h⟩
abbrev kS : DV := .tup [.tup [.tup [.int 1, .int 1]]]
abbrev kT : DV := .tup [.tup [.tup [.int 2, .int 2]]]
theorem ks0 (E : DEnds) (μ : Mu) (h : E.nx [some (placesD kLine), none, none, none, none] μ) : w_u_law_are_known_right_0 E [none, none, none, none, none] μ := by
  rw [kd3] at h
  unfold w_u_law_are_known_right_0
  simp only [DL.wSeq, DL.wAsg, DL.wOp, DL.wVar, DL.wC, DL.wIx, DL.gdName, DL.startD, wishD, DL.pv_, DL.wIfS, DL.wTest, DL.wRet, DL.wIf, DL.wCall, DL.wCons, DL.wNil, DL.wNext, DL.wEq, DL.wNe, DL.wIsN, DL.wNotN, DL.isNonD, DL.onBl, DL.wAndV, DL.wOrV, DL.wNotV, DL.wAnd, DL.wOr, DL.wNot, DL.wCB, DL.wLen, DL.wInt, DL.wAbs, DL.wMax2, DL.wMin2, DL.wTupOf, DL.wUn, DL.wU, DL.wI0, DL.wI, DL.wTup, DL.wLst, DL.wPar, DL.wPar3, DL.wDrop, DL.wSl, DL.wSlL, DL.wPart, DL.wNoPart, DL.endD, DL.wLc, DL.lcStep, DL.wipeD, DL.wYes, DL.gdTup, DL.gdCons, DL.gdNil, DL.idTup, DL.idLst, DL.idEnumL, DL.idEnumT, DL.idZip, DL.idRng1, DL.idRng2, DL.wAny, DL.wAll, DL.wChain, DL.wFor, DL.wWhile, DL.wAppend, DL.wLstM, DL.gdSub, DL.wIsi, DL.tyD, true_and, DL.sz_0, DL.sz_1, DL.sz_2, DL.sz_3, DL.sz_4, DL.sz_5, DL.sz_6, DL.sz_7, DL.sz_8, DL.sz_9, DL.sz_10, DL.sz_11, DL.sz_12, DL.sz_13, DL.sz_14, DL.sz_15, DL.sz_16, DL.sz_17, DL.sz_18, DL.sz_19, DL.sz_20, DL.sz_21, DL.sz_22, DL.sz_23, DL.sz_24, DL.sz_25, DL.sz_26, DL.ixN50, DL.ixN51, DL.ixN52, DL.ixN53, DL.ixN54, DL.Mu.set_same, DL.Mu.set_set, eq_self, decide_true, Bool.not_true, Bool.not_false, Bool.or_false, Bool.or_true, Bool.true_or, Bool.false_or, DL.kit_NoneType_bool, DL.kit_NoneType_int, DL.kit_NoneType_str, DL.kit_NoneType_tuple, DL.kit_NoneType_list, DL.kit_NoneType_dict, DL.kit_bool_bool, DL.kit_bool_int, DL.kit_bool_str, DL.kit_bool_tuple, DL.kit_bool_list, DL.kit_bool_dict, DL.kit_int_bool, DL.kit_int_int, DL.kit_int_str, DL.kit_int_tuple, DL.kit_int_list, DL.kit_int_dict, DL.kit_str_bool, DL.kit_str_int, DL.kit_str_str, DL.kit_str_tuple, DL.kit_str_list, DL.kit_str_dict, DL.kit_tuple_bool, DL.kit_tuple_int, DL.kit_tuple_str, DL.kit_tuple_tuple, DL.kit_tuple_list, DL.kit_tuple_dict, DL.kit_list_bool, DL.kit_list_int, DL.kit_list_str, DL.kit_list_tuple, DL.kit_list_list, DL.kit_list_dict, reduceIte, cntD_n, cntD_s, List.map_cons, List.map_nil, List.length_cons, List.length_nil, List.replicate, List.cons_append, List.nil_append, List.getElem?_cons_zero, List.getElem?_cons_succ, List.set_cons_zero, List.set_cons_succ, onSome, atI_0, atI_1, atI_2, atI_3, atI_4, w_nw, w_na, w_nh, w_ng, w_wn, w_wa, w_wh, w_wg, w_an, w_aw, w_ah, w_ag, w_hn, w_hw, w_ha, w_hg, w_gn, w_gw, w_ga, w_gh, w_self, Bool.false_eq_true, if_false, if_true, Nat.reduceAdd, Nat.reduceSub]
  exact h
theorem ks1 (E : DEnds) (μ : Mu) (a : Option DV) (h : E.nx [a, some kS, some kT, none, none] μ) : w_u_law_are_known_right_1 E [a, none, none, none, none] μ := by
  unfold w_u_law_are_known_right_1
  simp only [DL.wSeq, DL.wAsg, DL.wOp, DL.wVar, DL.wC, DL.wIx, DL.gdName, DL.startD, wishD, DL.pv_, DL.wIfS, DL.wTest, DL.wRet, DL.wIf, DL.wCall, DL.wCons, DL.wNil, DL.wNext, DL.wEq, DL.wNe, DL.wIsN, DL.wNotN, DL.isNonD, DL.onBl, DL.wAndV, DL.wOrV, DL.wNotV, DL.wAnd, DL.wOr, DL.wNot, DL.wCB, DL.wLen, DL.wInt, DL.wAbs, DL.wMax2, DL.wMin2, DL.wTupOf, DL.wUn, DL.wU, DL.wI0, DL.wI, DL.wTup, DL.wLst, DL.wPar, DL.wPar3, DL.wDrop, DL.wSl, DL.wSlL, DL.wPart, DL.wNoPart, DL.endD, DL.wLc, DL.lcStep, DL.wipeD, DL.wYes, DL.gdTup, DL.gdCons, DL.gdNil, DL.idTup, DL.idLst, DL.idEnumL, DL.idEnumT, DL.idZip, DL.idRng1, DL.idRng2, DL.wAny, DL.wAll, DL.wChain, DL.wFor, DL.wWhile, DL.wAppend, DL.wLstM, DL.gdSub, DL.wIsi, DL.tyD, true_and, DL.sz_0, DL.sz_1, DL.sz_2, DL.sz_3, DL.sz_4, DL.sz_5, DL.sz_6, DL.sz_7, DL.sz_8, DL.sz_9, DL.sz_10, DL.sz_11, DL.sz_12, DL.sz_13, DL.sz_14, DL.sz_15, DL.sz_16, DL.sz_17, DL.sz_18, DL.sz_19, DL.sz_20, DL.sz_21, DL.sz_22, DL.sz_23, DL.sz_24, DL.sz_25, DL.sz_26, DL.ixN50, DL.ixN51, DL.ixN52, DL.ixN53, DL.ixN54, DL.Mu.set_same, DL.Mu.set_set, eq_self, decide_true, Bool.not_true, Bool.not_false, Bool.or_false, Bool.or_true, Bool.true_or, Bool.false_or, DL.kit_NoneType_bool, DL.kit_NoneType_int, DL.kit_NoneType_str, DL.kit_NoneType_tuple, DL.kit_NoneType_list, DL.kit_NoneType_dict, DL.kit_bool_bool, DL.kit_bool_int, DL.kit_bool_str, DL.kit_bool_tuple, DL.kit_bool_list, DL.kit_bool_dict, DL.kit_int_bool, DL.kit_int_int, DL.kit_int_str, DL.kit_int_tuple, DL.kit_int_list, DL.kit_int_dict, DL.kit_str_bool, DL.kit_str_int, DL.kit_str_str, DL.kit_str_tuple, DL.kit_str_list, DL.kit_str_dict, DL.kit_tuple_bool, DL.kit_tuple_int, DL.kit_tuple_str, DL.kit_tuple_tuple, DL.kit_tuple_list, DL.kit_tuple_dict, DL.kit_list_bool, DL.kit_list_int, DL.kit_list_str, DL.kit_list_tuple, DL.kit_list_list, DL.kit_list_dict, reduceIte, cntD_n, cntD_s, List.map_cons, List.map_nil, List.length_cons, List.length_nil, List.replicate, List.cons_append, List.nil_append, List.getElem?_cons_zero, List.getElem?_cons_succ, List.set_cons_zero, List.set_cons_succ, onSome, atI_0, atI_1, atI_2, atI_3, atI_4, w_nw, w_na, w_nh, w_ng, w_wn, w_wa, w_wh, w_wg, w_an, w_aw, w_ah, w_ag, w_hn, w_hw, w_ha, w_hg, w_gn, w_gw, w_ga, w_gh, w_self, Bool.false_eq_true, if_false, if_true, Nat.reduceAdd, Nat.reduceSub]
  exact h
theorem ks2 (E : DEnds) (μ : Mu) (a : Option DV) (h : E.nx [a, some kS, some kT, some (wishesD kWishes), none] μ) : w_u_law_are_known_right_2 E [a, some kS, some kT, none, none] μ := by
  rw [kd1] at h
  unfold w_u_law_are_known_right_2
  simp only [DL.wSeq, DL.wAsg, DL.wOp, DL.wVar, DL.wC, DL.wIx, DL.gdName, DL.startD, wishD, DL.pv_, DL.wIfS, DL.wTest, DL.wRet, DL.wIf, DL.wCall, DL.wCons, DL.wNil, DL.wNext, DL.wEq, DL.wNe, DL.wIsN, DL.wNotN, DL.isNonD, DL.onBl, DL.wAndV, DL.wOrV, DL.wNotV, DL.wAnd, DL.wOr, DL.wNot, DL.wCB, DL.wLen, DL.wInt, DL.wAbs, DL.wMax2, DL.wMin2, DL.wTupOf, DL.wUn, DL.wU, DL.wI0, DL.wI, DL.wTup, DL.wLst, DL.wPar, DL.wPar3, DL.wDrop, DL.wSl, DL.wSlL, DL.wPart, DL.wNoPart, DL.endD, DL.wLc, DL.lcStep, DL.wipeD, DL.wYes, DL.gdTup, DL.gdCons, DL.gdNil, DL.idTup, DL.idLst, DL.idEnumL, DL.idEnumT, DL.idZip, DL.idRng1, DL.idRng2, DL.wAny, DL.wAll, DL.wChain, DL.wFor, DL.wWhile, DL.wAppend, DL.wLstM, DL.gdSub, DL.wIsi, DL.tyD, true_and, DL.sz_0, DL.sz_1, DL.sz_2, DL.sz_3, DL.sz_4, DL.sz_5, DL.sz_6, DL.sz_7, DL.sz_8, DL.sz_9, DL.sz_10, DL.sz_11, DL.sz_12, DL.sz_13, DL.sz_14, DL.sz_15, DL.sz_16, DL.sz_17, DL.sz_18, DL.sz_19, DL.sz_20, DL.sz_21, DL.sz_22, DL.sz_23, DL.sz_24, DL.sz_25, DL.sz_26, DL.ixN50, DL.ixN51, DL.ixN52, DL.ixN53, DL.ixN54, DL.Mu.set_same, DL.Mu.set_set, eq_self, decide_true, Bool.not_true, Bool.not_false, Bool.or_false, Bool.or_true, Bool.true_or, Bool.false_or, DL.kit_NoneType_bool, DL.kit_NoneType_int, DL.kit_NoneType_str, DL.kit_NoneType_tuple, DL.kit_NoneType_list, DL.kit_NoneType_dict, DL.kit_bool_bool, DL.kit_bool_int, DL.kit_bool_str, DL.kit_bool_tuple, DL.kit_bool_list, DL.kit_bool_dict, DL.kit_int_bool, DL.kit_int_int, DL.kit_int_str, DL.kit_int_tuple, DL.kit_int_list, DL.kit_int_dict, DL.kit_str_bool, DL.kit_str_int, DL.kit_str_str, DL.kit_str_tuple, DL.kit_str_list, DL.kit_str_dict, DL.kit_tuple_bool, DL.kit_tuple_int, DL.kit_tuple_str, DL.kit_tuple_tuple, DL.kit_tuple_list, DL.kit_tuple_dict, DL.kit_list_bool, DL.kit_list_int, DL.kit_list_str, DL.kit_list_tuple, DL.kit_list_list, DL.kit_list_dict, reduceIte, cntD_n, cntD_s, List.map_cons, List.map_nil, List.length_cons, List.length_nil, List.replicate, List.cons_append, List.nil_append, List.getElem?_cons_zero, List.getElem?_cons_succ, List.set_cons_zero, List.set_cons_succ, onSome, atI_0, atI_1, atI_2, atI_3, atI_4, w_nw, w_na, w_nh, w_ng, w_wn, w_wa, w_wh, w_wg, w_an, w_aw, w_ah, w_ag, w_hn, w_hw, w_ha, w_hg, w_gn, w_gw, w_ga, w_gh, w_self, Bool.false_eq_true, if_false, if_true, Nat.reduceAdd, Nat.reduceSub]
  exact h
theorem ks3 (E : DEnds) (μ : Mu) (a b : Option DV) (h : E.nx [a, some kS, some kT, b, some (wishesD kMore)] μ) : w_u_law_are_known_right_3 E [a, some kS, some kT, b, none] μ := by
  rw [kd2] at h
  unfold w_u_law_are_known_right_3
  simp only [DL.wSeq, DL.wAsg, DL.wOp, DL.wVar, DL.wC, DL.wIx, DL.gdName, DL.startD, wishD, DL.pv_, DL.wIfS, DL.wTest, DL.wRet, DL.wIf, DL.wCall, DL.wCons, DL.wNil, DL.wNext, DL.wEq, DL.wNe, DL.wIsN, DL.wNotN, DL.isNonD, DL.onBl, DL.wAndV, DL.wOrV, DL.wNotV, DL.wAnd, DL.wOr, DL.wNot, DL.wCB, DL.wLen, DL.wInt, DL.wAbs, DL.wMax2, DL.wMin2, DL.wTupOf, DL.wUn, DL.wU, DL.wI0, DL.wI, DL.wTup, DL.wLst, DL.wPar, DL.wPar3, DL.wDrop, DL.wSl, DL.wSlL, DL.wPart, DL.wNoPart, DL.endD, DL.wLc, DL.lcStep, DL.wipeD, DL.wYes, DL.gdTup, DL.gdCons, DL.gdNil, DL.idTup, DL.idLst, DL.idEnumL, DL.idEnumT, DL.idZip, DL.idRng1, DL.idRng2, DL.wAny, DL.wAll, DL.wChain, DL.wFor, DL.wWhile, DL.wAppend, DL.wLstM, DL.gdSub, DL.wIsi, DL.tyD, true_and, DL.sz_0, DL.sz_1, DL.sz_2, DL.sz_3, DL.sz_4, DL.sz_5, DL.sz_6, DL.sz_7, DL.sz_8, DL.sz_9, DL.sz_10, DL.sz_11, DL.sz_12, DL.sz_13, DL.sz_14, DL.sz_15, DL.sz_16, DL.sz_17, DL.sz_18, DL.sz_19, DL.sz_20, DL.sz_21, DL.sz_22, DL.sz_23, DL.sz_24, DL.sz_25, DL.sz_26, DL.ixN50, DL.ixN51, DL.ixN52, DL.ixN53, DL.ixN54, DL.Mu.set_same, DL.Mu.set_set, eq_self, decide_true, Bool.not_true, Bool.not_false, Bool.or_false, Bool.or_true, Bool.true_or, Bool.false_or, DL.kit_NoneType_bool, DL.kit_NoneType_int, DL.kit_NoneType_str, DL.kit_NoneType_tuple, DL.kit_NoneType_list, DL.kit_NoneType_dict, DL.kit_bool_bool, DL.kit_bool_int, DL.kit_bool_str, DL.kit_bool_tuple, DL.kit_bool_list, DL.kit_bool_dict, DL.kit_int_bool, DL.kit_int_int, DL.kit_int_str, DL.kit_int_tuple, DL.kit_int_list, DL.kit_int_dict, DL.kit_str_bool, DL.kit_str_int, DL.kit_str_str, DL.kit_str_tuple, DL.kit_str_list, DL.kit_str_dict, DL.kit_tuple_bool, DL.kit_tuple_int, DL.kit_tuple_str, DL.kit_tuple_tuple, DL.kit_tuple_list, DL.kit_tuple_dict, DL.kit_list_bool, DL.kit_list_int, DL.kit_list_str, DL.kit_list_tuple, DL.kit_list_list, DL.kit_list_dict, reduceIte, cntD_n, cntD_s, List.map_cons, List.map_nil, List.length_cons, List.length_nil, List.replicate, List.cons_append, List.nil_append, List.getElem?_cons_zero, List.getElem?_cons_succ, List.set_cons_zero, List.set_cons_succ, onSome, atI_0, atI_1, atI_2, atI_3, atI_4, w_nw, w_na, w_nh, w_ng, w_wn, w_wa, w_wh, w_wg, w_an, w_aw, w_ah, w_ag, w_hn, w_hw, w_ha, w_hg, w_gn, w_gw, w_ga, w_gh, w_self, Bool.false_eq_true, if_false, if_true, Nat.reduceAdd, Nat.reduceSub]
  exact h
theorem ks4 (E : DEnds) (μ : Mu) (a b c : Option DV) (h : E.nx [a, b, c, some (wishesD kWishes), some (wishesD kMore)] μ) : w_u_law_are_known_right_4 E [a, b, c, some (wishesD kWishes), some (wishesD kMore)] μ := by
  unfold w_u_law_are_known_right_4
  simp only [DL.wSeq, DL.wAsg, DL.wOp, DL.wVar, DL.wC, DL.wIx, DL.gdName, DL.startD, wishD, DL.pv_, DL.wIfS, DL.wTest, DL.wRet, DL.wIf, DL.wCall, DL.wCons, DL.wNil, DL.wNext, DL.wEq, DL.wNe, DL.wIsN, DL.wNotN, DL.isNonD, DL.onBl, DL.wAndV, DL.wOrV, DL.wNotV, DL.wAnd, DL.wOr, DL.wNot, DL.wCB, DL.wLen, DL.wInt, DL.wAbs, DL.wMax2, DL.wMin2, DL.wTupOf, DL.wUn, DL.wU, DL.wI0, DL.wI, DL.wTup, DL.wLst, DL.wPar, DL.wPar3, DL.wDrop, DL.wSl, DL.wSlL, DL.wPart, DL.wNoPart, DL.endD, DL.wLc, DL.lcStep, DL.wipeD, DL.wYes, DL.gdTup, DL.gdCons, DL.gdNil, DL.idTup, DL.idLst, DL.idEnumL, DL.idEnumT, DL.idZip, DL.idRng1, DL.idRng2, DL.wAny, DL.wAll, DL.wChain, DL.wFor, DL.wWhile, DL.wAppend, DL.wLstM, DL.gdSub, DL.wIsi, DL.tyD, true_and, DL.sz_0, DL.sz_1, DL.sz_2, DL.sz_3, DL.sz_4, DL.sz_5, DL.sz_6, DL.sz_7, DL.sz_8, DL.sz_9, DL.sz_10, DL.sz_11, DL.sz_12, DL.sz_13, DL.sz_14, DL.sz_15, DL.sz_16, DL.sz_17, DL.sz_18, DL.sz_19, DL.sz_20, DL.sz_21, DL.sz_22, DL.sz_23, DL.sz_24, DL.sz_25, DL.sz_26, DL.ixN50, DL.ixN51, DL.ixN52, DL.ixN53, DL.ixN54, DL.Mu.set_same, DL.Mu.set_set, eq_self, decide_true, Bool.not_true, Bool.not_false, Bool.or_false, Bool.or_true, Bool.true_or, Bool.false_or, DL.kit_NoneType_bool, DL.kit_NoneType_int, DL.kit_NoneType_str, DL.kit_NoneType_tuple, DL.kit_NoneType_list, DL.kit_NoneType_dict, DL.kit_bool_bool, DL.kit_bool_int, DL.kit_bool_str, DL.kit_bool_tuple, DL.kit_bool_list, DL.kit_bool_dict, DL.kit_int_bool, DL.kit_int_int, DL.kit_int_str, DL.kit_int_tuple, DL.kit_int_list, DL.kit_int_dict, DL.kit_str_bool, DL.kit_str_int, DL.kit_str_str, DL.kit_str_tuple, DL.kit_str_list, DL.kit_str_dict, DL.kit_tuple_bool, DL.kit_tuple_int, DL.kit_tuple_str, DL.kit_tuple_tuple, DL.kit_tuple_list, DL.kit_tuple_dict, DL.kit_list_bool, DL.kit_list_int, DL.kit_list_str, DL.kit_list_tuple, DL.kit_list_list, DL.kit_list_dict, reduceIte, cntD_n, cntD_s, List.map_cons, List.map_nil, List.length_cons, List.length_nil, List.replicate, List.cons_append, List.nil_append, List.getElem?_cons_zero, List.getElem?_cons_succ, List.set_cons_zero, List.set_cons_succ, onSome, atI_0, atI_1, atI_2, atI_3, atI_4, w_nw, w_na, w_nh, w_ng, w_wn, w_wa, w_wh, w_wg, w_an, w_aw, w_ah, w_ag, w_hn, w_hw, w_ha, w_hg, w_gn, w_gw, w_ga, w_gh, w_self, Bool.false_eq_true, if_false, if_true, Nat.reduceAdd, Nat.reduceSub]
  refine use_begun kWishes (by rw [kd5]) (by decide) k_wishes ?_
  rw [kc1]
  refine use_is [some 0, some 0, some (-1), some 0] (by rw [ke1]) (by decide) ?_
  simp only [DL.wSeq, DL.wAsg, DL.wOp, DL.wVar, DL.wC, DL.wIx, DL.gdName, DL.startD, wishD, DL.pv_, DL.wIfS, DL.wTest, DL.wRet, DL.wIf, DL.wCall, DL.wCons, DL.wNil, DL.wNext, DL.wEq, DL.wNe, DL.wIsN, DL.wNotN, DL.isNonD, DL.onBl, DL.wAndV, DL.wOrV, DL.wNotV, DL.wAnd, DL.wOr, DL.wNot, DL.wCB, DL.wLen, DL.wInt, DL.wAbs, DL.wMax2, DL.wMin2, DL.wTupOf, DL.wUn, DL.wU, DL.wI0, DL.wI, DL.wTup, DL.wLst, DL.wPar, DL.wPar3, DL.wDrop, DL.wSl, DL.wSlL, DL.wPart, DL.wNoPart, DL.endD, DL.wLc, DL.lcStep, DL.wipeD, DL.wYes, DL.gdTup, DL.gdCons, DL.gdNil, DL.idTup, DL.idLst, DL.idEnumL, DL.idEnumT, DL.idZip, DL.idRng1, DL.idRng2, DL.wAny, DL.wAll, DL.wChain, DL.wFor, DL.wWhile, DL.wAppend, DL.wLstM, DL.gdSub, DL.wIsi, DL.tyD, true_and, DL.sz_0, DL.sz_1, DL.sz_2, DL.sz_3, DL.sz_4, DL.sz_5, DL.sz_6, DL.sz_7, DL.sz_8, DL.sz_9, DL.sz_10, DL.sz_11, DL.sz_12, DL.sz_13, DL.sz_14, DL.sz_15, DL.sz_16, DL.sz_17, DL.sz_18, DL.sz_19, DL.sz_20, DL.sz_21, DL.sz_22, DL.sz_23, DL.sz_24, DL.sz_25, DL.sz_26, DL.ixN50, DL.ixN51, DL.ixN52, DL.ixN53, DL.ixN54, DL.Mu.set_same, DL.Mu.set_set, eq_self, decide_true, Bool.not_true, Bool.not_false, Bool.or_false, Bool.or_true, Bool.true_or, Bool.false_or, DL.kit_NoneType_bool, DL.kit_NoneType_int, DL.kit_NoneType_str, DL.kit_NoneType_tuple, DL.kit_NoneType_list, DL.kit_NoneType_dict, DL.kit_bool_bool, DL.kit_bool_int, DL.kit_bool_str, DL.kit_bool_tuple, DL.kit_bool_list, DL.kit_bool_dict, DL.kit_int_bool, DL.kit_int_int, DL.kit_int_str, DL.kit_int_tuple, DL.kit_int_list, DL.kit_int_dict, DL.kit_str_bool, DL.kit_str_int, DL.kit_str_str, DL.kit_str_tuple, DL.kit_str_list, DL.kit_str_dict, DL.kit_tuple_bool, DL.kit_tuple_int, DL.kit_tuple_str, DL.kit_tuple_tuple, DL.kit_tuple_list, DL.kit_tuple_dict, DL.kit_list_bool, DL.kit_list_int, DL.kit_list_str, DL.kit_list_tuple, DL.kit_list_list, DL.kit_list_dict, reduceIte, cntD_n, cntD_s, List.map_cons, List.map_nil, List.length_cons, List.length_nil, List.replicate, List.cons_append, List.nil_append, List.getElem?_cons_zero, List.getElem?_cons_succ, List.set_cons_zero, List.set_cons_succ, onSome, atI_0, atI_1, atI_2, atI_3, atI_4, w_nw, w_na, w_nh, w_ng, w_wn, w_wa, w_wh, w_wg, w_an, w_aw, w_ah, w_ag, w_hn, w_hw, w_ha, w_hg, w_gn, w_gw, w_ga, w_gh, w_self, Bool.false_eq_true, if_false, if_true, Nat.reduceAdd, Nat.reduceSub]
  refine use_begun kMore (by rw [kd5]) (by decide) k_more ?_
  rw [kc2]
  refine use_is [none, some 1, some 0, some 0] (by rw [ke2]) (by decide) ?_
  simp only [DL.wSeq, DL.wAsg, DL.wOp, DL.wVar, DL.wC, DL.wIx, DL.gdName, DL.startD, wishD, DL.pv_, DL.wIfS, DL.wTest, DL.wRet, DL.wIf, DL.wCall, DL.wCons, DL.wNil, DL.wNext, DL.wEq, DL.wNe, DL.wIsN, DL.wNotN, DL.isNonD, DL.onBl, DL.wAndV, DL.wOrV, DL.wNotV, DL.wAnd, DL.wOr, DL.wNot, DL.wCB, DL.wLen, DL.wInt, DL.wAbs, DL.wMax2, DL.wMin2, DL.wTupOf, DL.wUn, DL.wU, DL.wI0, DL.wI, DL.wTup, DL.wLst, DL.wPar, DL.wPar3, DL.wDrop, DL.wSl, DL.wSlL, DL.wPart, DL.wNoPart, DL.endD, DL.wLc, DL.lcStep, DL.wipeD, DL.wYes, DL.gdTup, DL.gdCons, DL.gdNil, DL.idTup, DL.idLst, DL.idEnumL, DL.idEnumT, DL.idZip, DL.idRng1, DL.idRng2, DL.wAny, DL.wAll, DL.wChain, DL.wFor, DL.wWhile, DL.wAppend, DL.wLstM, DL.gdSub, DL.wIsi, DL.tyD, true_and, DL.sz_0, DL.sz_1, DL.sz_2, DL.sz_3, DL.sz_4, DL.sz_5, DL.sz_6, DL.sz_7, DL.sz_8, DL.sz_9, DL.sz_10, DL.sz_11, DL.sz_12, DL.sz_13, DL.sz_14, DL.sz_15, DL.sz_16, DL.sz_17, DL.sz_18, DL.sz_19, DL.sz_20, DL.sz_21, DL.sz_22, DL.sz_23, DL.sz_24, DL.sz_25, DL.sz_26, DL.ixN50, DL.ixN51, DL.ixN52, DL.ixN53, DL.ixN54, DL.Mu.set_same, DL.Mu.set_set, eq_self, decide_true, Bool.not_true, Bool.not_false, Bool.or_false, Bool.or_true, Bool.true_or, Bool.false_or, DL.kit_NoneType_bool, DL.kit_NoneType_int, DL.kit_NoneType_str, DL.kit_NoneType_tuple, DL.kit_NoneType_list, DL.kit_NoneType_dict, DL.kit_bool_bool, DL.kit_bool_int, DL.kit_bool_str, DL.kit_bool_tuple, DL.kit_bool_list, DL.kit_bool_dict, DL.kit_int_bool, DL.kit_int_int, DL.kit_int_str, DL.kit_int_tuple, DL.kit_int_list, DL.kit_int_dict, DL.kit_str_bool, DL.kit_str_int, DL.kit_str_str, DL.kit_str_tuple, DL.kit_str_list, DL.kit_str_dict, DL.kit_tuple_bool, DL.kit_tuple_int, DL.kit_tuple_str, DL.kit_tuple_tuple, DL.kit_tuple_list, DL.kit_tuple_dict, DL.kit_list_bool, DL.kit_list_int, DL.kit_list_str, DL.kit_list_tuple, DL.kit_list_list, DL.kit_list_dict, reduceIte, cntD_n, cntD_s, List.map_cons, List.map_nil, List.length_cons, List.length_nil, List.replicate, List.cons_append, List.nil_append, List.getElem?_cons_zero, List.getElem?_cons_succ, List.set_cons_zero, List.set_cons_succ, onSome, atI_0, atI_1, atI_2, atI_3, atI_4, w_nw, w_na, w_nh, w_ng, w_wn, w_wa, w_wh, w_wg, w_an, w_aw, w_ah, w_ag, w_hn, w_hw, w_ha, w_hg, w_gn, w_gw, w_ga, w_gh, w_self, Bool.false_eq_true, if_false, if_true, Nat.reduceAdd, Nat.reduceSub]
  exact h
theorem ks5 (E : DEnds) (μ : Mu) (b c : Option DV) (h : E.rt (.bl true) μ) : w_u_law_are_known_right_5 E [some (placesD kLine), b, c, some (wishesD kWishes), some (wishesD kMore)] μ := by
  unfold w_u_law_are_known_right_5
  simp only [DL.wSeq, DL.wAsg, DL.wOp, DL.wVar, DL.wC, DL.wIx, DL.gdName, DL.startD, wishD, DL.pv_, DL.wIfS, DL.wTest, DL.wRet, DL.wIf, DL.wCall, DL.wCons, DL.wNil, DL.wNext, DL.wEq, DL.wNe, DL.wIsN, DL.wNotN, DL.isNonD, DL.onBl, DL.wAndV, DL.wOrV, DL.wNotV, DL.wAnd, DL.wOr, DL.wNot, DL.wCB, DL.wLen, DL.wInt, DL.wAbs, DL.wMax2, DL.wMin2, DL.wTupOf, DL.wUn, DL.wU, DL.wI0, DL.wI, DL.wTup, DL.wLst, DL.wPar, DL.wPar3, DL.wDrop, DL.wSl, DL.wSlL, DL.wPart, DL.wNoPart, DL.endD, DL.wLc, DL.lcStep, DL.wipeD, DL.wYes, DL.gdTup, DL.gdCons, DL.gdNil, DL.idTup, DL.idLst, DL.idEnumL, DL.idEnumT, DL.idZip, DL.idRng1, DL.idRng2, DL.wAny, DL.wAll, DL.wChain, DL.wFor, DL.wWhile, DL.wAppend, DL.wLstM, DL.gdSub, DL.wIsi, DL.tyD, true_and, DL.sz_0, DL.sz_1, DL.sz_2, DL.sz_3, DL.sz_4, DL.sz_5, DL.sz_6, DL.sz_7, DL.sz_8, DL.sz_9, DL.sz_10, DL.sz_11, DL.sz_12, DL.sz_13, DL.sz_14, DL.sz_15, DL.sz_16, DL.sz_17, DL.sz_18, DL.sz_19, DL.sz_20, DL.sz_21, DL.sz_22, DL.sz_23, DL.sz_24, DL.sz_25, DL.sz_26, DL.ixN50, DL.ixN51, DL.ixN52, DL.ixN53, DL.ixN54, DL.Mu.set_same, DL.Mu.set_set, eq_self, decide_true, Bool.not_true, Bool.not_false, Bool.or_false, Bool.or_true, Bool.true_or, Bool.false_or, DL.kit_NoneType_bool, DL.kit_NoneType_int, DL.kit_NoneType_str, DL.kit_NoneType_tuple, DL.kit_NoneType_list, DL.kit_NoneType_dict, DL.kit_bool_bool, DL.kit_bool_int, DL.kit_bool_str, DL.kit_bool_tuple, DL.kit_bool_list, DL.kit_bool_dict, DL.kit_int_bool, DL.kit_int_int, DL.kit_int_str, DL.kit_int_tuple, DL.kit_int_list, DL.kit_int_dict, DL.kit_str_bool, DL.kit_str_int, DL.kit_str_str, DL.kit_str_tuple, DL.kit_str_list, DL.kit_str_dict, DL.kit_tuple_bool, DL.kit_tuple_int, DL.kit_tuple_str, DL.kit_tuple_tuple, DL.kit_tuple_list, DL.kit_tuple_dict, DL.kit_list_bool, DL.kit_list_int, DL.kit_list_str, DL.kit_list_tuple, DL.kit_list_list, DL.kit_list_dict, reduceIte, cntD_n, cntD_s, List.map_cons, List.map_nil, List.length_cons, List.length_nil, List.replicate, List.cons_append, List.nil_append, List.getElem?_cons_zero, List.getElem?_cons_succ, List.set_cons_zero, List.set_cons_succ, onSome, atI_0, atI_1, atI_2, atI_3, atI_4, w_nw, w_na, w_nh, w_ng, w_wn, w_wa, w_wh, w_wg, w_an, w_aw, w_ah, w_ag, w_hn, w_hw, w_ha, w_hg, w_gn, w_gw, w_ga, w_gh, w_self, Bool.false_eq_true, if_false, if_true, Nat.reduceAdd, Nat.reduceSub]
  refine use_walk kWishes rfl (by decide) k_wishes ?_
  simp only [DL.wSeq, DL.wAsg, DL.wOp, DL.wVar, DL.wC, DL.wIx, DL.gdName, DL.startD, wishD, DL.pv_, DL.wIfS, DL.wTest, DL.wRet, DL.wIf, DL.wCall, DL.wCons, DL.wNil, DL.wNext, DL.wEq, DL.wNe, DL.wIsN, DL.wNotN, DL.isNonD, DL.onBl, DL.wAndV, DL.wOrV, DL.wNotV, DL.wAnd, DL.wOr, DL.wNot, DL.wCB, DL.wLen, DL.wInt, DL.wAbs, DL.wMax2, DL.wMin2, DL.wTupOf, DL.wUn, DL.wU, DL.wI0, DL.wI, DL.wTup, DL.wLst, DL.wPar, DL.wPar3, DL.wDrop, DL.wSl, DL.wSlL, DL.wPart, DL.wNoPart, DL.endD, DL.wLc, DL.lcStep, DL.wipeD, DL.wYes, DL.gdTup, DL.gdCons, DL.gdNil, DL.idTup, DL.idLst, DL.idEnumL, DL.idEnumT, DL.idZip, DL.idRng1, DL.idRng2, DL.wAny, DL.wAll, DL.wChain, DL.wFor, DL.wWhile, DL.wAppend, DL.wLstM, DL.gdSub, DL.wIsi, DL.tyD, true_and, DL.sz_0, DL.sz_1, DL.sz_2, DL.sz_3, DL.sz_4, DL.sz_5, DL.sz_6, DL.sz_7, DL.sz_8, DL.sz_9, DL.sz_10, DL.sz_11, DL.sz_12, DL.sz_13, DL.sz_14, DL.sz_15, DL.sz_16, DL.sz_17, DL.sz_18, DL.sz_19, DL.sz_20, DL.sz_21, DL.sz_22, DL.sz_23, DL.sz_24, DL.sz_25, DL.sz_26, DL.ixN50, DL.ixN51, DL.ixN52, DL.ixN53, DL.ixN54, DL.Mu.set_same, DL.Mu.set_set, eq_self, decide_true, Bool.not_true, Bool.not_false, Bool.or_false, Bool.or_true, Bool.true_or, Bool.false_or, DL.kit_NoneType_bool, DL.kit_NoneType_int, DL.kit_NoneType_str, DL.kit_NoneType_tuple, DL.kit_NoneType_list, DL.kit_NoneType_dict, DL.kit_bool_bool, DL.kit_bool_int, DL.kit_bool_str, DL.kit_bool_tuple, DL.kit_bool_list, DL.kit_bool_dict, DL.kit_int_bool, DL.kit_int_int, DL.kit_int_str, DL.kit_int_tuple, DL.kit_int_list, DL.kit_int_dict, DL.kit_str_bool, DL.kit_str_int, DL.kit_str_str, DL.kit_str_tuple, DL.kit_str_list, DL.kit_str_dict, DL.kit_tuple_bool, DL.kit_tuple_int, DL.kit_tuple_str, DL.kit_tuple_tuple, DL.kit_tuple_list, DL.kit_tuple_dict, DL.kit_list_bool, DL.kit_list_int, DL.kit_list_str, DL.kit_list_tuple, DL.kit_list_list, DL.kit_list_dict, reduceIte, cntD_n, cntD_s, List.map_cons, List.map_nil, List.length_cons, List.length_nil, List.replicate, List.cons_append, List.nil_append, List.getElem?_cons_zero, List.getElem?_cons_succ, List.set_cons_zero, List.set_cons_succ, onSome, atI_0, atI_1, atI_2, atI_3, atI_4, w_nw, w_na, w_nh, w_ng, w_wn, w_wa, w_wh, w_wg, w_an, w_aw, w_ah, w_ag, w_hn, w_hw, w_ha, w_hg, w_gn, w_gw, w_ga, w_gh, w_self, Bool.false_eq_true, if_false, if_true, Nat.reduceAdd, Nat.reduceSub]
  refine use_walk kMore rfl (by decide) k_more ?_
  simp only [DL.wSeq, DL.wAsg, DL.wOp, DL.wVar, DL.wC, DL.wIx, DL.gdName, DL.startD, wishD, DL.pv_, DL.wIfS, DL.wTest, DL.wRet, DL.wIf, DL.wCall, DL.wCons, DL.wNil, DL.wNext, DL.wEq, DL.wNe, DL.wIsN, DL.wNotN, DL.isNonD, DL.onBl, DL.wAndV, DL.wOrV, DL.wNotV, DL.wAnd, DL.wOr, DL.wNot, DL.wCB, DL.wLen, DL.wInt, DL.wAbs, DL.wMax2, DL.wMin2, DL.wTupOf, DL.wUn, DL.wU, DL.wI0, DL.wI, DL.wTup, DL.wLst, DL.wPar, DL.wPar3, DL.wDrop, DL.wSl, DL.wSlL, DL.wPart, DL.wNoPart, DL.endD, DL.wLc, DL.lcStep, DL.wipeD, DL.wYes, DL.gdTup, DL.gdCons, DL.gdNil, DL.idTup, DL.idLst, DL.idEnumL, DL.idEnumT, DL.idZip, DL.idRng1, DL.idRng2, DL.wAny, DL.wAll, DL.wChain, DL.wFor, DL.wWhile, DL.wAppend, DL.wLstM, DL.gdSub, DL.wIsi, DL.tyD, true_and, DL.sz_0, DL.sz_1, DL.sz_2, DL.sz_3, DL.sz_4, DL.sz_5, DL.sz_6, DL.sz_7, DL.sz_8, DL.sz_9, DL.sz_10, DL.sz_11, DL.sz_12, DL.sz_13, DL.sz_14, DL.sz_15, DL.sz_16, DL.sz_17, DL.sz_18, DL.sz_19, DL.sz_20, DL.sz_21, DL.sz_22, DL.sz_23, DL.sz_24, DL.sz_25, DL.sz_26, DL.ixN50, DL.ixN51, DL.ixN52, DL.ixN53, DL.ixN54, DL.Mu.set_same, DL.Mu.set_set, eq_self, decide_true, Bool.not_true, Bool.not_false, Bool.or_false, Bool.or_true, Bool.true_or, Bool.false_or, DL.kit_NoneType_bool, DL.kit_NoneType_int, DL.kit_NoneType_str, DL.kit_NoneType_tuple, DL.kit_NoneType_list, DL.kit_NoneType_dict, DL.kit_bool_bool, DL.kit_bool_int, DL.kit_bool_str, DL.kit_bool_tuple, DL.kit_bool_list, DL.kit_bool_dict, DL.kit_int_bool, DL.kit_int_int, DL.kit_int_str, DL.kit_int_tuple, DL.kit_int_list, DL.kit_int_dict, DL.kit_str_bool, DL.kit_str_int, DL.kit_str_str, DL.kit_str_tuple, DL.kit_str_list, DL.kit_str_dict, DL.kit_tuple_bool, DL.kit_tuple_int, DL.kit_tuple_str, DL.kit_tuple_tuple, DL.kit_tuple_list, DL.kit_tuple_dict, DL.kit_list_bool, DL.kit_list_int, DL.kit_list_str, DL.kit_list_tuple, DL.kit_list_list, DL.kit_list_dict, reduceIte, cntD_n, cntD_s, List.map_cons, List.map_nil, List.length_cons, List.length_nil, List.replicate, List.cons_append, List.nil_append, List.getElem?_cons_zero, List.getElem?_cons_succ, List.set_cons_zero, List.set_cons_succ, onSome, atI_0, atI_1, atI_2, atI_3, atI_4, w_nw, w_na, w_nh, w_ng, w_wn, w_wa, w_wh, w_wg, w_an, w_aw, w_ah, w_ag, w_hn, w_hw, w_ha, w_hg, w_gn, w_gw, w_ga, w_gh, w_self, Bool.false_eq_true, if_false, if_true, Nat.reduceAdd, Nat.reduceSub]
  refine use_walk [] (by rw [kd4]) (by decide) (fun w h => by cases h) ?_
  exact h
theorem r_u_law_are_known_right : ∀ ds μ Q, s_u_law_are_known_right ds μ Q → w_u_law_are_known_right (endD Q) (startD 5 ds) μ := by
  rintro ds μ Q ⟨rfl, q⟩
  unfold w_u_law_are_known_right
  have hs : startD 5 [] = [none, none, none, none, none] := rfl
  rw [hs]
  simp only [DL.wSeq]
  refine ks0 _ _ ?_
  dsimp only
  refine ks1 _ _ _ ?_
  dsimp only
  refine ks2 _ _ _ ?_
  dsimp only
  refine ks3 _ _ _ _ ?_
  dsimp only
  refine ks4 _ _ _ _ _ ?_
  dsimp only
  refine ks5 _ _ _ _ ?_
  exact rt_D q
end K18
set_option linter.all false
set_option maxRecDepth 100000
set_option maxHeartbeats 4000000
namespace K18
open PySem L2 DL
theorem lstI_eq (ns : List Int) : lstI ns = .lst (ns.map DV.int) := rfl
theorem hand_ok {cells : List Int} {i left mix cnt : Int} {x : DV} (e : x = lstI cells) (hc : ∀ c ∈ cells, 0 ≤ c) (hn : cells.length ≤ 63) (h1 : 0 ≤ i) (h2 : 0 ≤ left) (h3 : 0 ≤ mix) (h4 : 0 ≤ cnt) : HandOk [x, .int i, .int left, .int mix, .int cnt] := by
  subst e
  exact ⟨cells, i, left, mix, cnt, rfl, hc, hn, h1, h2, h3, h4⟩
theorem r_u_law_hand : ∀ ds μ Q, s_u_law_hand ds μ Q → w_u_law_hand (endD Q) (startD 3 ds) μ := by
  rintro ds μ Q ⟨ns, rfl, hn, q⟩
  unfold w_u_law_hand
  simp only [lstI_eq]
  simp only [DL.wSeq, DL.wAsg, DL.wOp, DL.wVar, DL.wC, DL.wIx, DL.gdName, DL.startD, wishD, DL.pv_, DL.wIfS, DL.wTest, DL.wRet, DL.wIf, DL.wCall, DL.wCons, DL.wNil, DL.wNext, DL.wEq, DL.wNe, DL.wIsN, DL.wNotN, DL.isNonD, DL.onBl, DL.wAndV, DL.wOrV, DL.wNotV, DL.wAnd, DL.wOr, DL.wNot, DL.wCB, DL.wLen, DL.wInt, DL.wAbs, DL.wMax2, DL.wMin2, DL.wTupOf, DL.wUn, DL.wU, DL.wI0, DL.wI, DL.wTup, DL.wLst, DL.wPar, DL.wPar3, DL.wDrop, DL.wSl, DL.wSlL, DL.wPart, DL.wNoPart, DL.endD, DL.wLc, DL.lcStep, DL.wipeD, DL.wYes, DL.gdTup, DL.gdCons, DL.gdNil, DL.idTup, DL.idLst, DL.idEnumL, DL.idEnumT, DL.idZip, DL.idRng1, DL.idRng2, DL.wAny, DL.wAll, DL.wChain, DL.wFor, DL.wWhile, DL.wAppend, DL.wLstM, DL.gdSub, DL.wIsi, DL.tyD, true_and, DL.sz_0, DL.sz_1, DL.sz_2, DL.sz_3, DL.sz_4, DL.sz_5, DL.sz_6, DL.sz_7, DL.sz_8, DL.sz_9, DL.sz_10, DL.sz_11, DL.sz_12, DL.sz_13, DL.sz_14, DL.sz_15, DL.sz_16, DL.sz_17, DL.sz_18, DL.sz_19, DL.sz_20, DL.sz_21, DL.sz_22, DL.sz_23, DL.sz_24, DL.sz_25, DL.sz_26, DL.ixN50, DL.ixN51, DL.ixN52, DL.ixN53, DL.ixN54, DL.Mu.set_same, DL.Mu.set_set, eq_self, decide_true, Bool.not_true, Bool.not_false, Bool.or_false, Bool.or_true, Bool.true_or, Bool.false_or, DL.kit_NoneType_bool, DL.kit_NoneType_int, DL.kit_NoneType_str, DL.kit_NoneType_tuple, DL.kit_NoneType_list, DL.kit_NoneType_dict, DL.kit_bool_bool, DL.kit_bool_int, DL.kit_bool_str, DL.kit_bool_tuple, DL.kit_bool_list, DL.kit_bool_dict, DL.kit_int_bool, DL.kit_int_int, DL.kit_int_str, DL.kit_int_tuple, DL.kit_int_list, DL.kit_int_dict, DL.kit_str_bool, DL.kit_str_int, DL.kit_str_str, DL.kit_str_tuple, DL.kit_str_list, DL.kit_str_dict, DL.kit_tuple_bool, DL.kit_tuple_int, DL.kit_tuple_str, DL.kit_tuple_tuple, DL.kit_tuple_list, DL.kit_tuple_dict, DL.kit_list_bool, DL.kit_list_int, DL.kit_list_str, DL.kit_list_tuple, DL.kit_list_list, DL.kit_list_dict, reduceIte, cntD_n, cntD_s, List.map_cons, List.map_nil, List.length_cons, List.length_nil, List.replicate, List.cons_append, List.nil_append, List.getElem?_cons_zero, List.getElem?_cons_succ, List.set_cons_zero, List.set_cons_succ, onSome, atI_0, atI_1, atI_2, atI_3, atI_4, w_nw, w_na, w_nh, w_ng, w_wn, w_wa, w_wh, w_wg, w_an, w_aw, w_ah, w_ag, w_hn, w_hw, w_ha, w_hg, w_gn, w_gw, w_ga, w_gh, w_self, Bool.false_eq_true, if_false, if_true, Nat.reduceAdd, Nat.reduceSub]
  rw [show (63 : Int) = ((63 : Nat) : Int) from rfl, cut_take, ← List.map_take]
  refine ⟨sz_map (by rw [List.length_take]; omega), fun D hD => lcW_map DV.int (fun c => .int (if c < 0 then -c else c)) (ns.take 63) μ _ hD (fun c hc ν k hk => ?_) ?_⟩
  · simp only [DL.wSeq, DL.wAsg, DL.wOp, DL.wVar, DL.wC, DL.wIx, DL.gdName, DL.startD, wishD, DL.pv_, DL.wIfS, DL.wTest, DL.wRet, DL.wIf, DL.wCall, DL.wCons, DL.wNil, DL.wNext, DL.wEq, DL.wNe, DL.wIsN, DL.wNotN, DL.isNonD, DL.onBl, DL.wAndV, DL.wOrV, DL.wNotV, DL.wAnd, DL.wOr, DL.wNot, DL.wCB, DL.wLen, DL.wInt, DL.wAbs, DL.wMax2, DL.wMin2, DL.wTupOf, DL.wUn, DL.wU, DL.wI0, DL.wI, DL.wTup, DL.wLst, DL.wPar, DL.wPar3, DL.wDrop, DL.wSl, DL.wSlL, DL.wPart, DL.wNoPart, DL.endD, DL.wLc, DL.lcStep, DL.wipeD, DL.wYes, DL.gdTup, DL.gdCons, DL.gdNil, DL.idTup, DL.idLst, DL.idEnumL, DL.idEnumT, DL.idZip, DL.idRng1, DL.idRng2, DL.wAny, DL.wAll, DL.wChain, DL.wFor, DL.wWhile, DL.wAppend, DL.wLstM, DL.gdSub, DL.wIsi, DL.tyD, true_and, DL.sz_0, DL.sz_1, DL.sz_2, DL.sz_3, DL.sz_4, DL.sz_5, DL.sz_6, DL.sz_7, DL.sz_8, DL.sz_9, DL.sz_10, DL.sz_11, DL.sz_12, DL.sz_13, DL.sz_14, DL.sz_15, DL.sz_16, DL.sz_17, DL.sz_18, DL.sz_19, DL.sz_20, DL.sz_21, DL.sz_22, DL.sz_23, DL.sz_24, DL.sz_25, DL.sz_26, DL.ixN50, DL.ixN51, DL.ixN52, DL.ixN53, DL.ixN54, DL.Mu.set_same, DL.Mu.set_set, eq_self, decide_true, Bool.not_true, Bool.not_false, Bool.or_false, Bool.or_true, Bool.true_or, Bool.false_or, DL.kit_NoneType_bool, DL.kit_NoneType_int, DL.kit_NoneType_str, DL.kit_NoneType_tuple, DL.kit_NoneType_list, DL.kit_NoneType_dict, DL.kit_bool_bool, DL.kit_bool_int, DL.kit_bool_str, DL.kit_bool_tuple, DL.kit_bool_list, DL.kit_bool_dict, DL.kit_int_bool, DL.kit_int_int, DL.kit_int_str, DL.kit_int_tuple, DL.kit_int_list, DL.kit_int_dict, DL.kit_str_bool, DL.kit_str_int, DL.kit_str_str, DL.kit_str_tuple, DL.kit_str_list, DL.kit_str_dict, DL.kit_tuple_bool, DL.kit_tuple_int, DL.kit_tuple_str, DL.kit_tuple_tuple, DL.kit_tuple_list, DL.kit_tuple_dict, DL.kit_list_bool, DL.kit_list_int, DL.kit_list_str, DL.kit_list_tuple, DL.kit_list_list, DL.kit_list_dict, reduceIte, cntD_n, cntD_s, List.map_cons, List.map_nil, List.length_cons, List.length_nil, List.replicate, List.cons_append, List.nil_append, List.getElem?_cons_zero, List.getElem?_cons_succ, List.set_cons_zero, List.set_cons_succ, onSome, atI_0, atI_1, atI_2, atI_3, atI_4, w_nw, w_na, w_nh, w_ng, w_wn, w_wa, w_wh, w_wg, w_an, w_aw, w_ah, w_ag, w_hn, w_hw, w_ha, w_hg, w_gn, w_gw, w_ga, w_gh, w_self, Bool.false_eq_true, if_false, if_true, Nat.reduceAdd, Nat.reduceSub]
    exact hk
  · simp only [DL.wSeq, DL.wAsg, DL.wOp, DL.wVar, DL.wC, DL.wIx, DL.gdName, DL.startD, wishD, DL.pv_, DL.wIfS, DL.wTest, DL.wRet, DL.wIf, DL.wCall, DL.wCons, DL.wNil, DL.wNext, DL.wEq, DL.wNe, DL.wIsN, DL.wNotN, DL.isNonD, DL.onBl, DL.wAndV, DL.wOrV, DL.wNotV, DL.wAnd, DL.wOr, DL.wNot, DL.wCB, DL.wLen, DL.wInt, DL.wAbs, DL.wMax2, DL.wMin2, DL.wTupOf, DL.wUn, DL.wU, DL.wI0, DL.wI, DL.wTup, DL.wLst, DL.wPar, DL.wPar3, DL.wDrop, DL.wSl, DL.wSlL, DL.wPart, DL.wNoPart, DL.endD, DL.wLc, DL.lcStep, DL.wipeD, DL.wYes, DL.gdTup, DL.gdCons, DL.gdNil, DL.idTup, DL.idLst, DL.idEnumL, DL.idEnumT, DL.idZip, DL.idRng1, DL.idRng2, DL.wAny, DL.wAll, DL.wChain, DL.wFor, DL.wWhile, DL.wAppend, DL.wLstM, DL.gdSub, DL.wIsi, DL.tyD, true_and, DL.sz_0, DL.sz_1, DL.sz_2, DL.sz_3, DL.sz_4, DL.sz_5, DL.sz_6, DL.sz_7, DL.sz_8, DL.sz_9, DL.sz_10, DL.sz_11, DL.sz_12, DL.sz_13, DL.sz_14, DL.sz_15, DL.sz_16, DL.sz_17, DL.sz_18, DL.sz_19, DL.sz_20, DL.sz_21, DL.sz_22, DL.sz_23, DL.sz_24, DL.sz_25, DL.sz_26, DL.ixN50, DL.ixN51, DL.ixN52, DL.ixN53, DL.ixN54, DL.Mu.set_same, DL.Mu.set_set, eq_self, decide_true, Bool.not_true, Bool.not_false, Bool.or_false, Bool.or_true, Bool.true_or, Bool.false_or, DL.kit_NoneType_bool, DL.kit_NoneType_int, DL.kit_NoneType_str, DL.kit_NoneType_tuple, DL.kit_NoneType_list, DL.kit_NoneType_dict, DL.kit_bool_bool, DL.kit_bool_int, DL.kit_bool_str, DL.kit_bool_tuple, DL.kit_bool_list, DL.kit_bool_dict, DL.kit_int_bool, DL.kit_int_int, DL.kit_int_str, DL.kit_int_tuple, DL.kit_int_list, DL.kit_int_dict, DL.kit_str_bool, DL.kit_str_int, DL.kit_str_str, DL.kit_str_tuple, DL.kit_str_list, DL.kit_str_dict, DL.kit_tuple_bool, DL.kit_tuple_int, DL.kit_tuple_str, DL.kit_tuple_tuple, DL.kit_tuple_list, DL.kit_tuple_dict, DL.kit_list_bool, DL.kit_list_int, DL.kit_list_str, DL.kit_list_tuple, DL.kit_list_list, DL.kit_list_dict, reduceIte, cntD_n, cntD_s, List.map_cons, List.map_nil, List.length_cons, List.length_nil, List.replicate, List.cons_append, List.nil_append, List.getElem?_cons_zero, List.getElem?_cons_succ, List.set_cons_zero, List.set_cons_succ, onSome, atI_0, atI_1, atI_2, atI_3, atI_4, w_nw, w_na, w_nh, w_ng, w_wn, w_wa, w_wh, w_wg, w_an, w_aw, w_ah, w_ag, w_hn, w_hw, w_ha, w_hg, w_gn, w_gw, w_ga, w_gh, w_self, Bool.false_eq_true, if_false, if_true, Nat.reduceAdd, Nat.reduceSub]
    refine ⟨.inl ⟨by decide, by decide⟩, fun a ha => rt_D (q a _ ha (hand_ok (cells := (ns.take 63).map fun c => if c < 0 then -c else c) ?_ ?_ ?_ (by decide) (by decide) ?_ (by decide)))⟩
    · rw [lstI_eq, List.map_map]
      rfl
    · intro c hc
      obtain ⟨d, _, rfl⟩ := List.mem_map.mp hc
      show 0 ≤ if d < 0 then -d else d
      split <;> omega
    · rw [List.length_map, List.length_take]
      omega
    · omega
theorem atI_cell {cells : List Int} {i : Int} (h0 : 0 ≤ i) (h1 : i < cells.length) (hc : ∀ c ∈ cells, 0 ≤ c) : ∃ c, 0 ≤ c ∧ atI (cells.map DV.int) i = some (.int c) := by
  obtain ⟨n, rfl⟩ : ∃ n : Nat, i = n := ⟨i.toNat, by omega⟩
  have hn : n < cells.length := by omega
  exact ⟨cells[n], hc _ (List.getElem_mem hn), atI_mapD (List.getElem?_eq_getElem hn)⟩
theorem d0 (E : DEnds) (μ : Mu) (p : Addr) (m : DV) (l : List DV) (hμ : μ p = some l) (hl : HandOk l) (h : ∀ c l', HandOk l' → E.nx [some (.obj p), some m, c, none, none] (Mu.set μ p l')) : w_u_law_draw_0 E [some (.obj p), some m, none, none, none] μ := by
  obtain ⟨cells, i, left, mix, cnt, rfl, hc, hn, hi, hleft, hmix, hcnt⟩ := hl
  have keep : E.nx [some (.obj p), some m, none, none, none] μ := by
    have z := h none _ ⟨cells, i, left, mix, cnt, rfl, hc, hn, hi, hleft, hmix, hcnt⟩
    rw [Mu.set_id hμ] at z
    exact z
  unfold w_u_law_draw_0
  simp only [lstI_eq] at hμ
  simp only [DL.wSeq, DL.wAsg, DL.wOp, DL.wVar, DL.wC, DL.wIx, DL.gdName, DL.startD, wishD, DL.pv_, DL.wIfS, DL.wTest, DL.wRet, DL.wIf, DL.wCall, DL.wCons, DL.wNil, DL.wNext, DL.wEq, DL.wNe, DL.wIsN, DL.wNotN, DL.isNonD, DL.onBl, DL.wAndV, DL.wOrV, DL.wNotV, DL.wAnd, DL.wOr, DL.wNot, DL.wCB, DL.wLen, DL.wInt, DL.wAbs, DL.wMax2, DL.wMin2, DL.wTupOf, DL.wUn, DL.wU, DL.wI0, DL.wI, DL.wTup, DL.wLst, DL.wPar, DL.wPar3, DL.wDrop, DL.wSl, DL.wSlL, DL.wPart, DL.wNoPart, DL.endD, DL.wLc, DL.lcStep, DL.wipeD, DL.wYes, DL.gdTup, DL.gdCons, DL.gdNil, DL.idTup, DL.idLst, DL.idEnumL, DL.idEnumT, DL.idZip, DL.idRng1, DL.idRng2, DL.wAny, DL.wAll, DL.wChain, DL.wFor, DL.wWhile, DL.wAppend, DL.wLstM, DL.gdSub, DL.wIsi, DL.tyD, true_and, DL.sz_0, DL.sz_1, DL.sz_2, DL.sz_3, DL.sz_4, DL.sz_5, DL.sz_6, DL.sz_7, DL.sz_8, DL.sz_9, DL.sz_10, DL.sz_11, DL.sz_12, DL.sz_13, DL.sz_14, DL.sz_15, DL.sz_16, DL.sz_17, DL.sz_18, DL.sz_19, DL.sz_20, DL.sz_21, DL.sz_22, DL.sz_23, DL.sz_24, DL.sz_25, DL.sz_26, DL.ixN50, DL.ixN51, DL.ixN52, DL.ixN53, DL.ixN54, DL.Mu.set_same, DL.Mu.set_set, eq_self, decide_true, Bool.not_true, Bool.not_false, Bool.or_false, Bool.or_true, Bool.true_or, Bool.false_or, DL.kit_NoneType_bool, DL.kit_NoneType_int, DL.kit_NoneType_str, DL.kit_NoneType_tuple, DL.kit_NoneType_list, DL.kit_NoneType_dict, DL.kit_bool_bool, DL.kit_bool_int, DL.kit_bool_str, DL.kit_bool_tuple, DL.kit_bool_list, DL.kit_bool_dict, DL.kit_int_bool, DL.kit_int_int, DL.kit_int_str, DL.kit_int_tuple, DL.kit_int_list, DL.kit_int_dict, DL.kit_str_bool, DL.kit_str_int, DL.kit_str_str, DL.kit_str_tuple, DL.kit_str_list, DL.kit_str_dict, DL.kit_tuple_bool, DL.kit_tuple_int, DL.kit_tuple_str, DL.kit_tuple_tuple, DL.kit_tuple_list, DL.kit_tuple_dict, DL.kit_list_bool, DL.kit_list_int, DL.kit_list_str, DL.kit_list_tuple, DL.kit_list_list, DL.kit_list_dict, reduceIte, cntD_n, cntD_s, List.map_cons, List.map_nil, List.length_cons, List.length_nil, List.replicate, List.cons_append, List.nil_append, List.getElem?_cons_zero, List.getElem?_cons_succ, List.set_cons_zero, List.set_cons_succ, onSome, atI_0, atI_1, atI_2, atI_3, atI_4, w_nw, w_na, w_nh, w_ng, w_wn, w_wa, w_wh, w_wg, w_an, w_aw, w_ah, w_ag, w_hn, w_hw, w_ha, w_hg, w_gn, w_gw, w_ga, w_gh, w_self, Bool.false_eq_true, if_false, if_true, Nat.reduceAdd, Nat.reduceSub, hμ, List.length_map]
  by_cases h1 : left = 0
  · rw [decide_eq_true h1, if_pos rfl]
    by_cases h2 : i < cells.length
    · rw [decide_eq_true h2, if_pos rfl]
      obtain ⟨c, hc0, hce⟩ := atI_cell hi h2 hc
      rw [hce]
      simp only [DL.wSeq, DL.wAsg, DL.wOp, DL.wVar, DL.wC, DL.wIx, DL.gdName, DL.startD, wishD, DL.pv_, DL.wIfS, DL.wTest, DL.wRet, DL.wIf, DL.wCall, DL.wCons, DL.wNil, DL.wNext, DL.wEq, DL.wNe, DL.wIsN, DL.wNotN, DL.isNonD, DL.onBl, DL.wAndV, DL.wOrV, DL.wNotV, DL.wAnd, DL.wOr, DL.wNot, DL.wCB, DL.wLen, DL.wInt, DL.wAbs, DL.wMax2, DL.wMin2, DL.wTupOf, DL.wUn, DL.wU, DL.wI0, DL.wI, DL.wTup, DL.wLst, DL.wPar, DL.wPar3, DL.wDrop, DL.wSl, DL.wSlL, DL.wPart, DL.wNoPart, DL.endD, DL.wLc, DL.lcStep, DL.wipeD, DL.wYes, DL.gdTup, DL.gdCons, DL.gdNil, DL.idTup, DL.idLst, DL.idEnumL, DL.idEnumT, DL.idZip, DL.idRng1, DL.idRng2, DL.wAny, DL.wAll, DL.wChain, DL.wFor, DL.wWhile, DL.wAppend, DL.wLstM, DL.gdSub, DL.wIsi, DL.tyD, true_and, DL.sz_0, DL.sz_1, DL.sz_2, DL.sz_3, DL.sz_4, DL.sz_5, DL.sz_6, DL.sz_7, DL.sz_8, DL.sz_9, DL.sz_10, DL.sz_11, DL.sz_12, DL.sz_13, DL.sz_14, DL.sz_15, DL.sz_16, DL.sz_17, DL.sz_18, DL.sz_19, DL.sz_20, DL.sz_21, DL.sz_22, DL.sz_23, DL.sz_24, DL.sz_25, DL.sz_26, DL.ixN50, DL.ixN51, DL.ixN52, DL.ixN53, DL.ixN54, DL.Mu.set_same, DL.Mu.set_set, eq_self, decide_true, Bool.not_true, Bool.not_false, Bool.or_false, Bool.or_true, Bool.true_or, Bool.false_or, DL.kit_NoneType_bool, DL.kit_NoneType_int, DL.kit_NoneType_str, DL.kit_NoneType_tuple, DL.kit_NoneType_list, DL.kit_NoneType_dict, DL.kit_bool_bool, DL.kit_bool_int, DL.kit_bool_str, DL.kit_bool_tuple, DL.kit_bool_list, DL.kit_bool_dict, DL.kit_int_bool, DL.kit_int_int, DL.kit_int_str, DL.kit_int_tuple, DL.kit_int_list, DL.kit_int_dict, DL.kit_str_bool, DL.kit_str_int, DL.kit_str_str, DL.kit_str_tuple, DL.kit_str_list, DL.kit_str_dict, DL.kit_tuple_bool, DL.kit_tuple_int, DL.kit_tuple_str, DL.kit_tuple_tuple, DL.kit_tuple_list, DL.kit_tuple_dict, DL.kit_list_bool, DL.kit_list_int, DL.kit_list_str, DL.kit_list_tuple, DL.kit_list_list, DL.kit_list_dict, reduceIte, cntD_n, cntD_s, List.map_cons, List.map_nil, List.length_cons, List.length_nil, List.replicate, List.cons_append, List.nil_append, List.getElem?_cons_zero, List.getElem?_cons_succ, List.set_cons_zero, List.set_cons_succ, onSome, atI_0, atI_1, atI_2, atI_3, atI_4, w_nw, w_na, w_nh, w_ng, w_wn, w_wa, w_wh, w_wg, w_an, w_aw, w_ah, w_ag, w_hn, w_hw, w_ha, w_hg, w_gn, w_gw, w_ga, w_gh, w_self, Bool.false_eq_true, if_false, if_true, Nat.reduceAdd, Nat.reduceSub, hμ, List.length_map]
      refine ⟨.inr ⟨by decide, by decide⟩, by decide, ?_⟩
      have hm : 0 ≤ (mix * 69621 + c + 97) % 2147483629 := Int.emod_nonneg _ (by decide)
      refine ⟨⟨by decide, by decide, by decide⟩, ?_⟩
      split
      · exact h _ _ ⟨cells, _, c, _, cnt, rfl, hc, hn, by omega, hc0, hm, hcnt⟩
      · exact h _ _ ⟨cells, _, left, _, cnt, rfl, hc, hn, by omega, hleft, hm, hcnt⟩
    · rw [decide_eq_false h2]
      (try simp only [DL.wSeq, DL.wAsg, DL.wOp, DL.wVar, DL.wC, DL.wIx, DL.gdName, DL.startD, wishD, DL.pv_, DL.wIfS, DL.wTest, DL.wRet, DL.wIf, DL.wCall, DL.wCons, DL.wNil, DL.wNext, DL.wEq, DL.wNe, DL.wIsN, DL.wNotN, DL.isNonD, DL.onBl, DL.wAndV, DL.wOrV, DL.wNotV, DL.wAnd, DL.wOr, DL.wNot, DL.wCB, DL.wLen, DL.wInt, DL.wAbs, DL.wMax2, DL.wMin2, DL.wTupOf, DL.wUn, DL.wU, DL.wI0, DL.wI, DL.wTup, DL.wLst, DL.wPar, DL.wPar3, DL.wDrop, DL.wSl, DL.wSlL, DL.wPart, DL.wNoPart, DL.endD, DL.wLc, DL.lcStep, DL.wipeD, DL.wYes, DL.gdTup, DL.gdCons, DL.gdNil, DL.idTup, DL.idLst, DL.idEnumL, DL.idEnumT, DL.idZip, DL.idRng1, DL.idRng2, DL.wAny, DL.wAll, DL.wChain, DL.wFor, DL.wWhile, DL.wAppend, DL.wLstM, DL.gdSub, DL.wIsi, DL.tyD, true_and, DL.sz_0, DL.sz_1, DL.sz_2, DL.sz_3, DL.sz_4, DL.sz_5, DL.sz_6, DL.sz_7, DL.sz_8, DL.sz_9, DL.sz_10, DL.sz_11, DL.sz_12, DL.sz_13, DL.sz_14, DL.sz_15, DL.sz_16, DL.sz_17, DL.sz_18, DL.sz_19, DL.sz_20, DL.sz_21, DL.sz_22, DL.sz_23, DL.sz_24, DL.sz_25, DL.sz_26, DL.ixN50, DL.ixN51, DL.ixN52, DL.ixN53, DL.ixN54, DL.Mu.set_same, DL.Mu.set_set, eq_self, decide_true, Bool.not_true, Bool.not_false, Bool.or_false, Bool.or_true, Bool.true_or, Bool.false_or, DL.kit_NoneType_bool, DL.kit_NoneType_int, DL.kit_NoneType_str, DL.kit_NoneType_tuple, DL.kit_NoneType_list, DL.kit_NoneType_dict, DL.kit_bool_bool, DL.kit_bool_int, DL.kit_bool_str, DL.kit_bool_tuple, DL.kit_bool_list, DL.kit_bool_dict, DL.kit_int_bool, DL.kit_int_int, DL.kit_int_str, DL.kit_int_tuple, DL.kit_int_list, DL.kit_int_dict, DL.kit_str_bool, DL.kit_str_int, DL.kit_str_str, DL.kit_str_tuple, DL.kit_str_list, DL.kit_str_dict, DL.kit_tuple_bool, DL.kit_tuple_int, DL.kit_tuple_str, DL.kit_tuple_tuple, DL.kit_tuple_list, DL.kit_tuple_dict, DL.kit_list_bool, DL.kit_list_int, DL.kit_list_str, DL.kit_list_tuple, DL.kit_list_list, DL.kit_list_dict, reduceIte, cntD_n, cntD_s, List.map_cons, List.map_nil, List.length_cons, List.length_nil, List.replicate, List.cons_append, List.nil_append, List.getElem?_cons_zero, List.getElem?_cons_succ, List.set_cons_zero, List.set_cons_succ, onSome, atI_0, atI_1, atI_2, atI_3, atI_4, w_nw, w_na, w_nh, w_ng, w_wn, w_wa, w_wh, w_wg, w_an, w_aw, w_ah, w_ag, w_hn, w_hw, w_ha, w_hg, w_gn, w_gw, w_ga, w_gh, w_self, Bool.false_eq_true, if_false, if_true, Nat.reduceAdd, Nat.reduceSub])
      exact keep
  · rw [decide_eq_false h1]
    (try simp only [DL.wSeq, DL.wAsg, DL.wOp, DL.wVar, DL.wC, DL.wIx, DL.gdName, DL.startD, wishD, DL.pv_, DL.wIfS, DL.wTest, DL.wRet, DL.wIf, DL.wCall, DL.wCons, DL.wNil, DL.wNext, DL.wEq, DL.wNe, DL.wIsN, DL.wNotN, DL.isNonD, DL.onBl, DL.wAndV, DL.wOrV, DL.wNotV, DL.wAnd, DL.wOr, DL.wNot, DL.wCB, DL.wLen, DL.wInt, DL.wAbs, DL.wMax2, DL.wMin2, DL.wTupOf, DL.wUn, DL.wU, DL.wI0, DL.wI, DL.wTup, DL.wLst, DL.wPar, DL.wPar3, DL.wDrop, DL.wSl, DL.wSlL, DL.wPart, DL.wNoPart, DL.endD, DL.wLc, DL.lcStep, DL.wipeD, DL.wYes, DL.gdTup, DL.gdCons, DL.gdNil, DL.idTup, DL.idLst, DL.idEnumL, DL.idEnumT, DL.idZip, DL.idRng1, DL.idRng2, DL.wAny, DL.wAll, DL.wChain, DL.wFor, DL.wWhile, DL.wAppend, DL.wLstM, DL.gdSub, DL.wIsi, DL.tyD, true_and, DL.sz_0, DL.sz_1, DL.sz_2, DL.sz_3, DL.sz_4, DL.sz_5, DL.sz_6, DL.sz_7, DL.sz_8, DL.sz_9, DL.sz_10, DL.sz_11, DL.sz_12, DL.sz_13, DL.sz_14, DL.sz_15, DL.sz_16, DL.sz_17, DL.sz_18, DL.sz_19, DL.sz_20, DL.sz_21, DL.sz_22, DL.sz_23, DL.sz_24, DL.sz_25, DL.sz_26, DL.ixN50, DL.ixN51, DL.ixN52, DL.ixN53, DL.ixN54, DL.Mu.set_same, DL.Mu.set_set, eq_self, decide_true, Bool.not_true, Bool.not_false, Bool.or_false, Bool.or_true, Bool.true_or, Bool.false_or, DL.kit_NoneType_bool, DL.kit_NoneType_int, DL.kit_NoneType_str, DL.kit_NoneType_tuple, DL.kit_NoneType_list, DL.kit_NoneType_dict, DL.kit_bool_bool, DL.kit_bool_int, DL.kit_bool_str, DL.kit_bool_tuple, DL.kit_bool_list, DL.kit_bool_dict, DL.kit_int_bool, DL.kit_int_int, DL.kit_int_str, DL.kit_int_tuple, DL.kit_int_list, DL.kit_int_dict, DL.kit_str_bool, DL.kit_str_int, DL.kit_str_str, DL.kit_str_tuple, DL.kit_str_list, DL.kit_str_dict, DL.kit_tuple_bool, DL.kit_tuple_int, DL.kit_tuple_str, DL.kit_tuple_tuple, DL.kit_tuple_list, DL.kit_tuple_dict, DL.kit_list_bool, DL.kit_list_int, DL.kit_list_str, DL.kit_list_tuple, DL.kit_list_list, DL.kit_list_dict, reduceIte, cntD_n, cntD_s, List.map_cons, List.map_nil, List.length_cons, List.length_nil, List.replicate, List.cons_append, List.nil_append, List.getElem?_cons_zero, List.getElem?_cons_succ, List.set_cons_zero, List.set_cons_succ, onSome, atI_0, atI_1, atI_2, atI_3, atI_4, w_nw, w_na, w_nh, w_ng, w_wn, w_wa, w_wh, w_wg, w_an, w_aw, w_ah, w_ag, w_hn, w_hw, w_ha, w_hg, w_gn, w_gw, w_ga, w_gh, w_self, Bool.false_eq_true, if_false, if_true, Nat.reduceAdd, Nat.reduceSub])
    exact keep
theorem d1 (E : DEnds) (μ : Mu) (p : Addr) (m : Int) (c : Option DV) (l : List DV) (hμ : μ p = some l) (hl : HandOk l) (hm : 0 < m) (hm2 : m < 1000000000)
    (h : E.nx [some (.obj p), some (.int m), c, none, none] μ) (hr : ∀ d l', HandOk l' → 0 ≤ d → d < m → E.rt (.int d) (Mu.set μ p l')) : w_u_law_draw_1 E [some (.obj p), some (.int m), c, none, none] μ := by
  obtain ⟨cells, i, left, mix, cnt, rfl, hc, hn, hi, hleft, hmix, hcnt⟩ := hl
  unfold w_u_law_draw_1
  simp only [DL.wSeq, DL.wAsg, DL.wOp, DL.wVar, DL.wC, DL.wIx, DL.gdName, DL.startD, wishD, DL.pv_, DL.wIfS, DL.wTest, DL.wRet, DL.wIf, DL.wCall, DL.wCons, DL.wNil, DL.wNext, DL.wEq, DL.wNe, DL.wIsN, DL.wNotN, DL.isNonD, DL.onBl, DL.wAndV, DL.wOrV, DL.wNotV, DL.wAnd, DL.wOr, DL.wNot, DL.wCB, DL.wLen, DL.wInt, DL.wAbs, DL.wMax2, DL.wMin2, DL.wTupOf, DL.wUn, DL.wU, DL.wI0, DL.wI, DL.wTup, DL.wLst, DL.wPar, DL.wPar3, DL.wDrop, DL.wSl, DL.wSlL, DL.wPart, DL.wNoPart, DL.endD, DL.wLc, DL.lcStep, DL.wipeD, DL.wYes, DL.gdTup, DL.gdCons, DL.gdNil, DL.idTup, DL.idLst, DL.idEnumL, DL.idEnumT, DL.idZip, DL.idRng1, DL.idRng2, DL.wAny, DL.wAll, DL.wChain, DL.wFor, DL.wWhile, DL.wAppend, DL.wLstM, DL.gdSub, DL.wIsi, DL.tyD, true_and, DL.sz_0, DL.sz_1, DL.sz_2, DL.sz_3, DL.sz_4, DL.sz_5, DL.sz_6, DL.sz_7, DL.sz_8, DL.sz_9, DL.sz_10, DL.sz_11, DL.sz_12, DL.sz_13, DL.sz_14, DL.sz_15, DL.sz_16, DL.sz_17, DL.sz_18, DL.sz_19, DL.sz_20, DL.sz_21, DL.sz_22, DL.sz_23, DL.sz_24, DL.sz_25, DL.sz_26, DL.ixN50, DL.ixN51, DL.ixN52, DL.ixN53, DL.ixN54, DL.Mu.set_same, DL.Mu.set_set, eq_self, decide_true, Bool.not_true, Bool.not_false, Bool.or_false, Bool.or_true, Bool.true_or, Bool.false_or, DL.kit_NoneType_bool, DL.kit_NoneType_int, DL.kit_NoneType_str, DL.kit_NoneType_tuple, DL.kit_NoneType_list, DL.kit_NoneType_dict, DL.kit_bool_bool, DL.kit_bool_int, DL.kit_bool_str, DL.kit_bool_tuple, DL.kit_bool_list, DL.kit_bool_dict, DL.kit_int_bool, DL.kit_int_int, DL.kit_int_str, DL.kit_int_tuple, DL.kit_int_list, DL.kit_int_dict, DL.kit_str_bool, DL.kit_str_int, DL.kit_str_str, DL.kit_str_tuple, DL.kit_str_list, DL.kit_str_dict, DL.kit_tuple_bool, DL.kit_tuple_int, DL.kit_tuple_str, DL.kit_tuple_tuple, DL.kit_tuple_list, DL.kit_tuple_dict, DL.kit_list_bool, DL.kit_list_int, DL.kit_list_str, DL.kit_list_tuple, DL.kit_list_list, DL.kit_list_dict, reduceIte, cntD_n, cntD_s, List.map_cons, List.map_nil, List.length_cons, List.length_nil, List.replicate, List.cons_append, List.nil_append, List.getElem?_cons_zero, List.getElem?_cons_succ, List.set_cons_zero, List.set_cons_succ, onSome, atI_0, atI_1, atI_2, atI_3, atI_4, w_nw, w_na, w_nh, w_ng, w_wn, w_wa, w_wh, w_wg, w_an, w_aw, w_ah, w_ag, w_hn, w_hw, w_ha, w_hg, w_gn, w_gw, w_ga, w_gh, w_self, Bool.false_eq_true, if_false, if_true, Nat.reduceAdd, Nat.reduceSub, hμ]
  by_cases h1 : 0 < left
  · rw [decide_eq_true h1, if_pos rfl]
    refine ⟨hm, ⟨hm, by omega⟩, ?_⟩
    exact hr _ _ ⟨cells, i, _, mix, cnt, rfl, hc, hn, hi, Int.ediv_nonneg hleft (by omega), hmix, hcnt⟩ (Int.emod_nonneg _ (by omega)) (Int.emod_lt_of_pos _ hm)
  · rw [decide_eq_false h1]
    (try simp only [DL.wSeq, DL.wAsg, DL.wOp, DL.wVar, DL.wC, DL.wIx, DL.gdName, DL.startD, wishD, DL.pv_, DL.wIfS, DL.wTest, DL.wRet, DL.wIf, DL.wCall, DL.wCons, DL.wNil, DL.wNext, DL.wEq, DL.wNe, DL.wIsN, DL.wNotN, DL.isNonD, DL.onBl, DL.wAndV, DL.wOrV, DL.wNotV, DL.wAnd, DL.wOr, DL.wNot, DL.wCB, DL.wLen, DL.wInt, DL.wAbs, DL.wMax2, DL.wMin2, DL.wTupOf, DL.wUn, DL.wU, DL.wI0, DL.wI, DL.wTup, DL.wLst, DL.wPar, DL.wPar3, DL.wDrop, DL.wSl, DL.wSlL, DL.wPart, DL.wNoPart, DL.endD, DL.wLc, DL.lcStep, DL.wipeD, DL.wYes, DL.gdTup, DL.gdCons, DL.gdNil, DL.idTup, DL.idLst, DL.idEnumL, DL.idEnumT, DL.idZip, DL.idRng1, DL.idRng2, DL.wAny, DL.wAll, DL.wChain, DL.wFor, DL.wWhile, DL.wAppend, DL.wLstM, DL.gdSub, DL.wIsi, DL.tyD, true_and, DL.sz_0, DL.sz_1, DL.sz_2, DL.sz_3, DL.sz_4, DL.sz_5, DL.sz_6, DL.sz_7, DL.sz_8, DL.sz_9, DL.sz_10, DL.sz_11, DL.sz_12, DL.sz_13, DL.sz_14, DL.sz_15, DL.sz_16, DL.sz_17, DL.sz_18, DL.sz_19, DL.sz_20, DL.sz_21, DL.sz_22, DL.sz_23, DL.sz_24, DL.sz_25, DL.sz_26, DL.ixN50, DL.ixN51, DL.ixN52, DL.ixN53, DL.ixN54, DL.Mu.set_same, DL.Mu.set_set, eq_self, decide_true, Bool.not_true, Bool.not_false, Bool.or_false, Bool.or_true, Bool.true_or, Bool.false_or, DL.kit_NoneType_bool, DL.kit_NoneType_int, DL.kit_NoneType_str, DL.kit_NoneType_tuple, DL.kit_NoneType_list, DL.kit_NoneType_dict, DL.kit_bool_bool, DL.kit_bool_int, DL.kit_bool_str, DL.kit_bool_tuple, DL.kit_bool_list, DL.kit_bool_dict, DL.kit_int_bool, DL.kit_int_int, DL.kit_int_str, DL.kit_int_tuple, DL.kit_int_list, DL.kit_int_dict, DL.kit_str_bool, DL.kit_str_int, DL.kit_str_str, DL.kit_str_tuple, DL.kit_str_list, DL.kit_str_dict, DL.kit_tuple_bool, DL.kit_tuple_int, DL.kit_tuple_str, DL.kit_tuple_tuple, DL.kit_tuple_list, DL.kit_tuple_dict, DL.kit_list_bool, DL.kit_list_int, DL.kit_list_str, DL.kit_list_tuple, DL.kit_list_list, DL.kit_list_dict, reduceIte, cntD_n, cntD_s, List.map_cons, List.map_nil, List.length_cons, List.length_nil, List.replicate, List.cons_append, List.nil_append, List.getElem?_cons_zero, List.getElem?_cons_succ, List.set_cons_zero, List.set_cons_succ, onSome, atI_0, atI_1, atI_2, atI_3, atI_4, w_nw, w_na, w_nh, w_ng, w_wn, w_wa, w_wh, w_wg, w_an, w_aw, w_ah, w_ag, w_hn, w_hw, w_ha, w_hg, w_gn, w_gw, w_ga, w_gh, w_self, Bool.false_eq_true, if_false, if_true, Nat.reduceAdd, Nat.reduceSub])
    exact h
theorem d2 (E : DEnds) (μ : Mu) (p : Addr) (m c : Option DV) (l : List DV) (hμ : μ p = some l) (hl : HandOk l) (h : ∀ l', HandOk l' → E.nx [some (.obj p), m, c, none, none] (Mu.set μ p l')) : w_u_law_draw_2 E [some (.obj p), m, c, none, none] μ := by
  obtain ⟨cells, i, left, mix, cnt, rfl, hc, hn, hi, hleft, hmix, hcnt⟩ := hl
  unfold w_u_law_draw_2
  simp only [DL.wSeq, DL.wAsg, DL.wOp, DL.wVar, DL.wC, DL.wIx, DL.gdName, DL.startD, wishD, DL.pv_, DL.wIfS, DL.wTest, DL.wRet, DL.wIf, DL.wCall, DL.wCons, DL.wNil, DL.wNext, DL.wEq, DL.wNe, DL.wIsN, DL.wNotN, DL.isNonD, DL.onBl, DL.wAndV, DL.wOrV, DL.wNotV, DL.wAnd, DL.wOr, DL.wNot, DL.wCB, DL.wLen, DL.wInt, DL.wAbs, DL.wMax2, DL.wMin2, DL.wTupOf, DL.wUn, DL.wU, DL.wI0, DL.wI, DL.wTup, DL.wLst, DL.wPar, DL.wPar3, DL.wDrop, DL.wSl, DL.wSlL, DL.wPart, DL.wNoPart, DL.endD, DL.wLc, DL.lcStep, DL.wipeD, DL.wYes, DL.gdTup, DL.gdCons, DL.gdNil, DL.idTup, DL.idLst, DL.idEnumL, DL.idEnumT, DL.idZip, DL.idRng1, DL.idRng2, DL.wAny, DL.wAll, DL.wChain, DL.wFor, DL.wWhile, DL.wAppend, DL.wLstM, DL.gdSub, DL.wIsi, DL.tyD, true_and, DL.sz_0, DL.sz_1, DL.sz_2, DL.sz_3, DL.sz_4, DL.sz_5, DL.sz_6, DL.sz_7, DL.sz_8, DL.sz_9, DL.sz_10, DL.sz_11, DL.sz_12, DL.sz_13, DL.sz_14, DL.sz_15, DL.sz_16, DL.sz_17, DL.sz_18, DL.sz_19, DL.sz_20, DL.sz_21, DL.sz_22, DL.sz_23, DL.sz_24, DL.sz_25, DL.sz_26, DL.ixN50, DL.ixN51, DL.ixN52, DL.ixN53, DL.ixN54, DL.Mu.set_same, DL.Mu.set_set, eq_self, decide_true, Bool.not_true, Bool.not_false, Bool.or_false, Bool.or_true, Bool.true_or, Bool.false_or, DL.kit_NoneType_bool, DL.kit_NoneType_int, DL.kit_NoneType_str, DL.kit_NoneType_tuple, DL.kit_NoneType_list, DL.kit_NoneType_dict, DL.kit_bool_bool, DL.kit_bool_int, DL.kit_bool_str, DL.kit_bool_tuple, DL.kit_bool_list, DL.kit_bool_dict, DL.kit_int_bool, DL.kit_int_int, DL.kit_int_str, DL.kit_int_tuple, DL.kit_int_list, DL.kit_int_dict, DL.kit_str_bool, DL.kit_str_int, DL.kit_str_str, DL.kit_str_tuple, DL.kit_str_list, DL.kit_str_dict, DL.kit_tuple_bool, DL.kit_tuple_int, DL.kit_tuple_str, DL.kit_tuple_tuple, DL.kit_tuple_list, DL.kit_tuple_dict, DL.kit_list_bool, DL.kit_list_int, DL.kit_list_str, DL.kit_list_tuple, DL.kit_list_list, DL.kit_list_dict, reduceIte, cntD_n, cntD_s, List.map_cons, List.map_nil, List.length_cons, List.length_nil, List.replicate, List.cons_append, List.nil_append, List.getElem?_cons_zero, List.getElem?_cons_succ, List.set_cons_zero, List.set_cons_succ, onSome, atI_0, atI_1, atI_2, atI_3, atI_4, w_nw, w_na, w_nh, w_ng, w_wn, w_wa, w_wh, w_wg, w_an, w_aw, w_ah, w_ag, w_hn, w_hw, w_ha, w_hg, w_gn, w_gw, w_ga, w_gh, w_self, Bool.false_eq_true, if_false, if_true, Nat.reduceAdd, Nat.reduceSub, hμ]
  exact h _ ⟨cells, i, left, mix, _, rfl, hc, hn, hi, hleft, hmix, by omega⟩
theorem d3 (E : DEnds) (μ : Mu) (p : Addr) (m c : Option DV) (l : List DV) (hμ : μ p = some l) (hl : HandOk l) (h : ∀ x : Int, 0 ≤ x → x < 2147483647 → E.nx [some (.obj p), m, c, none, some (.int x)] μ) : w_u_law_draw_3 E [some (.obj p), m, c, none, none] μ := by
  obtain ⟨cells, i, left, mix, cnt, rfl, hc, hn, hi, hleft, hmix, hcnt⟩ := hl
  unfold w_u_law_draw_3
  simp only [DL.wSeq, DL.wAsg, DL.wOp, DL.wVar, DL.wC, DL.wIx, DL.gdName, DL.startD, wishD, DL.pv_, DL.wIfS, DL.wTest, DL.wRet, DL.wIf, DL.wCall, DL.wCons, DL.wNil, DL.wNext, DL.wEq, DL.wNe, DL.wIsN, DL.wNotN, DL.isNonD, DL.onBl, DL.wAndV, DL.wOrV, DL.wNotV, DL.wAnd, DL.wOr, DL.wNot, DL.wCB, DL.wLen, DL.wInt, DL.wAbs, DL.wMax2, DL.wMin2, DL.wTupOf, DL.wUn, DL.wU, DL.wI0, DL.wI, DL.wTup, DL.wLst, DL.wPar, DL.wPar3, DL.wDrop, DL.wSl, DL.wSlL, DL.wPart, DL.wNoPart, DL.endD, DL.wLc, DL.lcStep, DL.wipeD, DL.wYes, DL.gdTup, DL.gdCons, DL.gdNil, DL.idTup, DL.idLst, DL.idEnumL, DL.idEnumT, DL.idZip, DL.idRng1, DL.idRng2, DL.wAny, DL.wAll, DL.wChain, DL.wFor, DL.wWhile, DL.wAppend, DL.wLstM, DL.gdSub, DL.wIsi, DL.tyD, true_and, DL.sz_0, DL.sz_1, DL.sz_2, DL.sz_3, DL.sz_4, DL.sz_5, DL.sz_6, DL.sz_7, DL.sz_8, DL.sz_9, DL.sz_10, DL.sz_11, DL.sz_12, DL.sz_13, DL.sz_14, DL.sz_15, DL.sz_16, DL.sz_17, DL.sz_18, DL.sz_19, DL.sz_20, DL.sz_21, DL.sz_22, DL.sz_23, DL.sz_24, DL.sz_25, DL.sz_26, DL.ixN50, DL.ixN51, DL.ixN52, DL.ixN53, DL.ixN54, DL.Mu.set_same, DL.Mu.set_set, eq_self, decide_true, Bool.not_true, Bool.not_false, Bool.or_false, Bool.or_true, Bool.true_or, Bool.false_or, DL.kit_NoneType_bool, DL.kit_NoneType_int, DL.kit_NoneType_str, DL.kit_NoneType_tuple, DL.kit_NoneType_list, DL.kit_NoneType_dict, DL.kit_bool_bool, DL.kit_bool_int, DL.kit_bool_str, DL.kit_bool_tuple, DL.kit_bool_list, DL.kit_bool_dict, DL.kit_int_bool, DL.kit_int_int, DL.kit_int_str, DL.kit_int_tuple, DL.kit_int_list, DL.kit_int_dict, DL.kit_str_bool, DL.kit_str_int, DL.kit_str_str, DL.kit_str_tuple, DL.kit_str_list, DL.kit_str_dict, DL.kit_tuple_bool, DL.kit_tuple_int, DL.kit_tuple_str, DL.kit_tuple_tuple, DL.kit_tuple_list, DL.kit_tuple_dict, DL.kit_list_bool, DL.kit_list_int, DL.kit_list_str, DL.kit_list_tuple, DL.kit_list_list, DL.kit_list_dict, reduceIte, cntD_n, cntD_s, List.map_cons, List.map_nil, List.length_cons, List.length_nil, List.replicate, List.cons_append, List.nil_append, List.getElem?_cons_zero, List.getElem?_cons_succ, List.set_cons_zero, List.set_cons_succ, onSome, atI_0, atI_1, atI_2, atI_3, atI_4, w_nw, w_na, w_nh, w_ng, w_wn, w_wa, w_wh, w_wg, w_an, w_aw, w_ah, w_ag, w_hn, w_hw, w_ha, w_hg, w_gn, w_gw, w_ga, w_gh, w_self, Bool.false_eq_true, if_false, if_true, Nat.reduceAdd, Nat.reduceSub, hμ]
  exact ⟨.inl ⟨by decide, by decide⟩, .inr ⟨by decide, by decide⟩, by decide, h _ (Int.emod_nonneg _ (by decide)) (Int.emod_lt_of_pos _ (by decide))⟩
theorem d4 (E : DEnds) (μ : Mu) (p m c : Option DV) (y : Int) (h0 : 0 ≤ y) (h1 : y < 2147483647) (h : ∀ x : Int, 0 ≤ x → x < 2147483647 → E.nx [p, m, c, none, some (.int x)] μ) : w_u_law_draw_4 E [p, m, c, none, some (.int y)] μ := by
  unfold w_u_law_draw_4
  simp only [DL.wSeq, DL.wAsg, DL.wOp, DL.wVar, DL.wC, DL.wIx, DL.gdName, DL.startD, wishD, DL.pv_, DL.wIfS, DL.wTest, DL.wRet, DL.wIf, DL.wCall, DL.wCons, DL.wNil, DL.wNext, DL.wEq, DL.wNe, DL.wIsN, DL.wNotN, DL.isNonD, DL.onBl, DL.wAndV, DL.wOrV, DL.wNotV, DL.wAnd, DL.wOr, DL.wNot, DL.wCB, DL.wLen, DL.wInt, DL.wAbs, DL.wMax2, DL.wMin2, DL.wTupOf, DL.wUn, DL.wU, DL.wI0, DL.wI, DL.wTup, DL.wLst, DL.wPar, DL.wPar3, DL.wDrop, DL.wSl, DL.wSlL, DL.wPart, DL.wNoPart, DL.endD, DL.wLc, DL.lcStep, DL.wipeD, DL.wYes, DL.gdTup, DL.gdCons, DL.gdNil, DL.idTup, DL.idLst, DL.idEnumL, DL.idEnumT, DL.idZip, DL.idRng1, DL.idRng2, DL.wAny, DL.wAll, DL.wChain, DL.wFor, DL.wWhile, DL.wAppend, DL.wLstM, DL.gdSub, DL.wIsi, DL.tyD, true_and, DL.sz_0, DL.sz_1, DL.sz_2, DL.sz_3, DL.sz_4, DL.sz_5, DL.sz_6, DL.sz_7, DL.sz_8, DL.sz_9, DL.sz_10, DL.sz_11, DL.sz_12, DL.sz_13, DL.sz_14, DL.sz_15, DL.sz_16, DL.sz_17, DL.sz_18, DL.sz_19, DL.sz_20, DL.sz_21, DL.sz_22, DL.sz_23, DL.sz_24, DL.sz_25, DL.sz_26, DL.ixN50, DL.ixN51, DL.ixN52, DL.ixN53, DL.ixN54, DL.Mu.set_same, DL.Mu.set_set, eq_self, decide_true, Bool.not_true, Bool.not_false, Bool.or_false, Bool.or_true, Bool.true_or, Bool.false_or, DL.kit_NoneType_bool, DL.kit_NoneType_int, DL.kit_NoneType_str, DL.kit_NoneType_tuple, DL.kit_NoneType_list, DL.kit_NoneType_dict, DL.kit_bool_bool, DL.kit_bool_int, DL.kit_bool_str, DL.kit_bool_tuple, DL.kit_bool_list, DL.kit_bool_dict, DL.kit_int_bool, DL.kit_int_int, DL.kit_int_str, DL.kit_int_tuple, DL.kit_int_list, DL.kit_int_dict, DL.kit_str_bool, DL.kit_str_int, DL.kit_str_str, DL.kit_str_tuple, DL.kit_str_list, DL.kit_str_dict, DL.kit_tuple_bool, DL.kit_tuple_int, DL.kit_tuple_str, DL.kit_tuple_tuple, DL.kit_tuple_list, DL.kit_tuple_dict, DL.kit_list_bool, DL.kit_list_int, DL.kit_list_str, DL.kit_list_tuple, DL.kit_list_list, DL.kit_list_dict, reduceIte, cntD_n, cntD_s, List.map_cons, List.map_nil, List.length_cons, List.length_nil, List.replicate, List.cons_append, List.nil_append, List.getElem?_cons_zero, List.getElem?_cons_succ, List.set_cons_zero, List.set_cons_succ, onSome, atI_0, atI_1, atI_2, atI_3, atI_4, w_nw, w_na, w_nh, w_ng, w_wn, w_wa, w_wh, w_wg, w_an, w_aw, w_ah, w_ag, w_hn, w_hw, w_ha, w_hg, w_gn, w_gw, w_ga, w_gh, w_self, Bool.false_eq_true, if_false, if_true, Nat.reduceAdd, Nat.reduceSub]
  exact ⟨⟨by decide, by decide⟩, .inl ⟨by omega, by omega⟩, by decide, h _ (Int.emod_nonneg _ (by decide)) (Int.emod_lt_of_pos _ (by decide))⟩
theorem d5 (E : DEnds) (μ : Mu) (p m c : Option DV) (y : Int) (h0 : 0 ≤ y) (h1 : y < 2147483647) (h : ∀ x : Int, 0 ≤ x → x < 2147483647 → E.nx [p, m, c, none, some (.int x)] μ) : w_u_law_draw_5 E [p, m, c, none, some (.int y)] μ := by
  unfold w_u_law_draw_5
  simp only [DL.wSeq, DL.wAsg, DL.wOp, DL.wVar, DL.wC, DL.wIx, DL.gdName, DL.startD, wishD, DL.pv_, DL.wIfS, DL.wTest, DL.wRet, DL.wIf, DL.wCall, DL.wCons, DL.wNil, DL.wNext, DL.wEq, DL.wNe, DL.wIsN, DL.wNotN, DL.isNonD, DL.onBl, DL.wAndV, DL.wOrV, DL.wNotV, DL.wAnd, DL.wOr, DL.wNot, DL.wCB, DL.wLen, DL.wInt, DL.wAbs, DL.wMax2, DL.wMin2, DL.wTupOf, DL.wUn, DL.wU, DL.wI0, DL.wI, DL.wTup, DL.wLst, DL.wPar, DL.wPar3, DL.wDrop, DL.wSl, DL.wSlL, DL.wPart, DL.wNoPart, DL.endD, DL.wLc, DL.lcStep, DL.wipeD, DL.wYes, DL.gdTup, DL.gdCons, DL.gdNil, DL.idTup, DL.idLst, DL.idEnumL, DL.idEnumT, DL.idZip, DL.idRng1, DL.idRng2, DL.wAny, DL.wAll, DL.wChain, DL.wFor, DL.wWhile, DL.wAppend, DL.wLstM, DL.gdSub, DL.wIsi, DL.tyD, true_and, DL.sz_0, DL.sz_1, DL.sz_2, DL.sz_3, DL.sz_4, DL.sz_5, DL.sz_6, DL.sz_7, DL.sz_8, DL.sz_9, DL.sz_10, DL.sz_11, DL.sz_12, DL.sz_13, DL.sz_14, DL.sz_15, DL.sz_16, DL.sz_17, DL.sz_18, DL.sz_19, DL.sz_20, DL.sz_21, DL.sz_22, DL.sz_23, DL.sz_24, DL.sz_25, DL.sz_26, DL.ixN50, DL.ixN51, DL.ixN52, DL.ixN53, DL.ixN54, DL.Mu.set_same, DL.Mu.set_set, eq_self, decide_true, Bool.not_true, Bool.not_false, Bool.or_false, Bool.or_true, Bool.true_or, Bool.false_or, DL.kit_NoneType_bool, DL.kit_NoneType_int, DL.kit_NoneType_str, DL.kit_NoneType_tuple, DL.kit_NoneType_list, DL.kit_NoneType_dict, DL.kit_bool_bool, DL.kit_bool_int, DL.kit_bool_str, DL.kit_bool_tuple, DL.kit_bool_list, DL.kit_bool_dict, DL.kit_int_bool, DL.kit_int_int, DL.kit_int_str, DL.kit_int_tuple, DL.kit_int_list, DL.kit_int_dict, DL.kit_str_bool, DL.kit_str_int, DL.kit_str_str, DL.kit_str_tuple, DL.kit_str_list, DL.kit_str_dict, DL.kit_tuple_bool, DL.kit_tuple_int, DL.kit_tuple_str, DL.kit_tuple_tuple, DL.kit_tuple_list, DL.kit_tuple_dict, DL.kit_list_bool, DL.kit_list_int, DL.kit_list_str, DL.kit_list_tuple, DL.kit_list_list, DL.kit_list_dict, reduceIte, cntD_n, cntD_s, List.map_cons, List.map_nil, List.length_cons, List.length_nil, List.replicate, List.cons_append, List.nil_append, List.getElem?_cons_zero, List.getElem?_cons_succ, List.set_cons_zero, List.set_cons_succ, onSome, atI_0, atI_1, atI_2, atI_3, atI_4, w_nw, w_na, w_nh, w_ng, w_wn, w_wa, w_wh, w_wg, w_an, w_aw, w_ah, w_ag, w_hn, w_hw, w_ha, w_hg, w_gn, w_gw, w_ga, w_gh, w_self, Bool.false_eq_true, if_false, if_true, Nat.reduceAdd, Nat.reduceSub]
  exact ⟨⟨by decide, by decide⟩, .inl ⟨by omega, by omega⟩, by decide, h _ (Int.emod_nonneg _ (by decide)) (Int.lt_trans (Int.emod_lt_of_pos _ (by decide)) (by decide))⟩
theorem d6 (E : DEnds) (μ : Mu) (p c : Option DV) (m y : Int) (hm : 0 < m) (h : ∀ d, 0 ≤ d → d < m → E.rt (.int d) μ) : w_u_law_draw_6 E [p, some (.int m), c, none, some (.int y)] μ := by
  unfold w_u_law_draw_6
  simp only [DL.wSeq, DL.wAsg, DL.wOp, DL.wVar, DL.wC, DL.wIx, DL.gdName, DL.startD, wishD, DL.pv_, DL.wIfS, DL.wTest, DL.wRet, DL.wIf, DL.wCall, DL.wCons, DL.wNil, DL.wNext, DL.wEq, DL.wNe, DL.wIsN, DL.wNotN, DL.isNonD, DL.onBl, DL.wAndV, DL.wOrV, DL.wNotV, DL.wAnd, DL.wOr, DL.wNot, DL.wCB, DL.wLen, DL.wInt, DL.wAbs, DL.wMax2, DL.wMin2, DL.wTupOf, DL.wUn, DL.wU, DL.wI0, DL.wI, DL.wTup, DL.wLst, DL.wPar, DL.wPar3, DL.wDrop, DL.wSl, DL.wSlL, DL.wPart, DL.wNoPart, DL.endD, DL.wLc, DL.lcStep, DL.wipeD, DL.wYes, DL.gdTup, DL.gdCons, DL.gdNil, DL.idTup, DL.idLst, DL.idEnumL, DL.idEnumT, DL.idZip, DL.idRng1, DL.idRng2, DL.wAny, DL.wAll, DL.wChain, DL.wFor, DL.wWhile, DL.wAppend, DL.wLstM, DL.gdSub, DL.wIsi, DL.tyD, true_and, DL.sz_0, DL.sz_1, DL.sz_2, DL.sz_3, DL.sz_4, DL.sz_5, DL.sz_6, DL.sz_7, DL.sz_8, DL.sz_9, DL.sz_10, DL.sz_11, DL.sz_12, DL.sz_13, DL.sz_14, DL.sz_15, DL.sz_16, DL.sz_17, DL.sz_18, DL.sz_19, DL.sz_20, DL.sz_21, DL.sz_22, DL.sz_23, DL.sz_24, DL.sz_25, DL.sz_26, DL.ixN50, DL.ixN51, DL.ixN52, DL.ixN53, DL.ixN54, DL.Mu.set_same, DL.Mu.set_set, eq_self, decide_true, Bool.not_true, Bool.not_false, Bool.or_false, Bool.or_true, Bool.true_or, Bool.false_or, DL.kit_NoneType_bool, DL.kit_NoneType_int, DL.kit_NoneType_str, DL.kit_NoneType_tuple, DL.kit_NoneType_list, DL.kit_NoneType_dict, DL.kit_bool_bool, DL.kit_bool_int, DL.kit_bool_str, DL.kit_bool_tuple, DL.kit_bool_list, DL.kit_bool_dict, DL.kit_int_bool, DL.kit_int_int, DL.kit_int_str, DL.kit_int_tuple, DL.kit_int_list, DL.kit_int_dict, DL.kit_str_bool, DL.kit_str_int, DL.kit_str_str, DL.kit_str_tuple, DL.kit_str_list, DL.kit_str_dict, DL.kit_tuple_bool, DL.kit_tuple_int, DL.kit_tuple_str, DL.kit_tuple_tuple, DL.kit_tuple_list, DL.kit_tuple_dict, DL.kit_list_bool, DL.kit_list_int, DL.kit_list_str, DL.kit_list_tuple, DL.kit_list_list, DL.kit_list_dict, reduceIte, cntD_n, cntD_s, List.map_cons, List.map_nil, List.length_cons, List.length_nil, List.replicate, List.cons_append, List.nil_append, List.getElem?_cons_zero, List.getElem?_cons_succ, List.set_cons_zero, List.set_cons_succ, onSome, atI_0, atI_1, atI_2, atI_3, atI_4, w_nw, w_na, w_nh, w_ng, w_wn, w_wa, w_wh, w_wg, w_an, w_aw, w_ah, w_ag, w_hn, w_hw, w_ha, w_hg, w_gn, w_gw, w_ga, w_gh, w_self, Bool.false_eq_true, if_false, if_true, Nat.reduceAdd, Nat.reduceSub]
  exact ⟨⟨by decide, by decide⟩, hm, h _ (Int.emod_nonneg _ (by omega)) (Int.emod_lt_of_pos _ hm)⟩
theorem r_u_law_draw : ∀ ds μ Q, s_u_law_draw ds μ Q → w_u_law_draw (endD Q) (startD 5 ds) μ := by
  rintro ds μ Q ⟨p, m, l, rfl, hμ, hl, hm, hm2, q⟩
  unfold w_u_law_draw
  have hs : startD 5 [.obj p, .int m] = [some (.obj p), some (.int m), none, none, none] := rfl
  rw [hs]
  simp only [DL.wSeq]
  refine d0 _ _ _ _ l hμ hl fun c l1 hl1 => ?_
  dsimp only
  refine d1 _ _ _ _ _ l1 Mu.set_same hl1 hm hm2 ?_ fun d l' hl' h0 h1 => ?_
  · dsimp only
    refine d2 _ _ _ _ _ l1 Mu.set_same hl1 fun l2 hl2 => ?_
    rw [Mu.set_set]
    dsimp only
    refine d3 _ _ _ _ _ l2 Mu.set_same hl2 fun x hx0 hx1 => ?_
    dsimp only
    refine d4 _ _ _ _ _ x hx0 hx1 fun x hx0 hx1 => ?_
    dsimp only
    refine d5 _ _ _ _ _ x hx0 hx1 fun x hx0 hx1 => ?_
    dsimp only
    refine d6 _ _ _ _ m x hm fun d h0 h1 => ?_
    exact rt_D (q d l2 hl2 h0 h1)
  · rw [Mu.set_set]
    exact rt_D (q d l' hl' h0 h1)
theorem r_u_law_some : ∀ ds μ Q, s_u_law_some ds μ Q → w_u_law_some (endD Q) (startD 2 ds) μ := by
  rintro ds μ Q ⟨p, xs, l, rfl, hμ, hl, h0, h1, q⟩
  unfold w_u_law_some
  simp only [DL.wSeq, DL.wAsg, DL.wOp, DL.wVar, DL.wC, DL.wIx, DL.gdName, DL.startD, wishD, DL.pv_, DL.wIfS, DL.wTest, DL.wRet, DL.wIf, DL.wCall, DL.wCons, DL.wNil, DL.wNext, DL.wEq, DL.wNe, DL.wIsN, DL.wNotN, DL.isNonD, DL.onBl, DL.wAndV, DL.wOrV, DL.wNotV, DL.wAnd, DL.wOr, DL.wNot, DL.wCB, DL.wLen, DL.wInt, DL.wAbs, DL.wMax2, DL.wMin2, DL.wTupOf, DL.wUn, DL.wU, DL.wI0, DL.wI, DL.wTup, DL.wLst, DL.wPar, DL.wPar3, DL.wDrop, DL.wSl, DL.wSlL, DL.wPart, DL.wNoPart, DL.endD, DL.wLc, DL.lcStep, DL.wipeD, DL.wYes, DL.gdTup, DL.gdCons, DL.gdNil, DL.idTup, DL.idLst, DL.idEnumL, DL.idEnumT, DL.idZip, DL.idRng1, DL.idRng2, DL.wAny, DL.wAll, DL.wChain, DL.wFor, DL.wWhile, DL.wAppend, DL.wLstM, DL.gdSub, DL.wIsi, DL.tyD, true_and, DL.sz_0, DL.sz_1, DL.sz_2, DL.sz_3, DL.sz_4, DL.sz_5, DL.sz_6, DL.sz_7, DL.sz_8, DL.sz_9, DL.sz_10, DL.sz_11, DL.sz_12, DL.sz_13, DL.sz_14, DL.sz_15, DL.sz_16, DL.sz_17, DL.sz_18, DL.sz_19, DL.sz_20, DL.sz_21, DL.sz_22, DL.sz_23, DL.sz_24, DL.sz_25, DL.sz_26, DL.ixN50, DL.ixN51, DL.ixN52, DL.ixN53, DL.ixN54, DL.Mu.set_same, DL.Mu.set_set, eq_self, decide_true, Bool.not_true, Bool.not_false, Bool.or_false, Bool.or_true, Bool.true_or, Bool.false_or, DL.kit_NoneType_bool, DL.kit_NoneType_int, DL.kit_NoneType_str, DL.kit_NoneType_tuple, DL.kit_NoneType_list, DL.kit_NoneType_dict, DL.kit_bool_bool, DL.kit_bool_int, DL.kit_bool_str, DL.kit_bool_tuple, DL.kit_bool_list, DL.kit_bool_dict, DL.kit_int_bool, DL.kit_int_int, DL.kit_int_str, DL.kit_int_tuple, DL.kit_int_list, DL.kit_int_dict, DL.kit_str_bool, DL.kit_str_int, DL.kit_str_str, DL.kit_str_tuple, DL.kit_str_list, DL.kit_str_dict, DL.kit_tuple_bool, DL.kit_tuple_int, DL.kit_tuple_str, DL.kit_tuple_tuple, DL.kit_tuple_list, DL.kit_tuple_dict, DL.kit_list_bool, DL.kit_list_int, DL.kit_list_str, DL.kit_list_tuple, DL.kit_list_list, DL.kit_list_dict, reduceIte, cntD_n, cntD_s, List.map_cons, List.map_nil, List.length_cons, List.length_nil, List.replicate, List.cons_append, List.nil_append, List.getElem?_cons_zero, List.getElem?_cons_succ, List.set_cons_zero, List.set_cons_succ, onSome, atI_0, atI_1, atI_2, atI_3, atI_4, w_nw, w_na, w_nh, w_ng, w_wn, w_wa, w_wh, w_wg, w_an, w_aw, w_ah, w_ag, w_hn, w_hw, w_ha, w_hg, w_gn, w_gw, w_ga, w_gh, w_self, Bool.false_eq_true, if_false, if_true, Nat.reduceAdd, Nat.reduceSub]
  refine ⟨p, _, l, rfl, hμ, hl, by omega, by omega, fun d l' hl' hd0 hd1 => ?_⟩
  (try simp only [DL.wSeq, DL.wAsg, DL.wOp, DL.wVar, DL.wC, DL.wIx, DL.gdName, DL.startD, wishD, DL.pv_, DL.wIfS, DL.wTest, DL.wRet, DL.wIf, DL.wCall, DL.wCons, DL.wNil, DL.wNext, DL.wEq, DL.wNe, DL.wIsN, DL.wNotN, DL.isNonD, DL.onBl, DL.wAndV, DL.wOrV, DL.wNotV, DL.wAnd, DL.wOr, DL.wNot, DL.wCB, DL.wLen, DL.wInt, DL.wAbs, DL.wMax2, DL.wMin2, DL.wTupOf, DL.wUn, DL.wU, DL.wI0, DL.wI, DL.wTup, DL.wLst, DL.wPar, DL.wPar3, DL.wDrop, DL.wSl, DL.wSlL, DL.wPart, DL.wNoPart, DL.endD, DL.wLc, DL.lcStep, DL.wipeD, DL.wYes, DL.gdTup, DL.gdCons, DL.gdNil, DL.idTup, DL.idLst, DL.idEnumL, DL.idEnumT, DL.idZip, DL.idRng1, DL.idRng2, DL.wAny, DL.wAll, DL.wChain, DL.wFor, DL.wWhile, DL.wAppend, DL.wLstM, DL.gdSub, DL.wIsi, DL.tyD, true_and, DL.sz_0, DL.sz_1, DL.sz_2, DL.sz_3, DL.sz_4, DL.sz_5, DL.sz_6, DL.sz_7, DL.sz_8, DL.sz_9, DL.sz_10, DL.sz_11, DL.sz_12, DL.sz_13, DL.sz_14, DL.sz_15, DL.sz_16, DL.sz_17, DL.sz_18, DL.sz_19, DL.sz_20, DL.sz_21, DL.sz_22, DL.sz_23, DL.sz_24, DL.sz_25, DL.sz_26, DL.ixN50, DL.ixN51, DL.ixN52, DL.ixN53, DL.ixN54, DL.Mu.set_same, DL.Mu.set_set, eq_self, decide_true, Bool.not_true, Bool.not_false, Bool.or_false, Bool.or_true, Bool.true_or, Bool.false_or, DL.kit_NoneType_bool, DL.kit_NoneType_int, DL.kit_NoneType_str, DL.kit_NoneType_tuple, DL.kit_NoneType_list, DL.kit_NoneType_dict, DL.kit_bool_bool, DL.kit_bool_int, DL.kit_bool_str, DL.kit_bool_tuple, DL.kit_bool_list, DL.kit_bool_dict, DL.kit_int_bool, DL.kit_int_int, DL.kit_int_str, DL.kit_int_tuple, DL.kit_int_list, DL.kit_int_dict, DL.kit_str_bool, DL.kit_str_int, DL.kit_str_str, DL.kit_str_tuple, DL.kit_str_list, DL.kit_str_dict, DL.kit_tuple_bool, DL.kit_tuple_int, DL.kit_tuple_str, DL.kit_tuple_tuple, DL.kit_tuple_list, DL.kit_tuple_dict, DL.kit_list_bool, DL.kit_list_int, DL.kit_list_str, DL.kit_list_tuple, DL.kit_list_list, DL.kit_list_dict, reduceIte, cntD_n, cntD_s, List.map_cons, List.map_nil, List.length_cons, List.length_nil, List.replicate, List.cons_append, List.nil_append, List.getElem?_cons_zero, List.getElem?_cons_succ, List.set_cons_zero, List.set_cons_succ, onSome, atI_0, atI_1, atI_2, atI_3, atI_4, w_nw, w_na, w_nh, w_ng, w_wn, w_wa, w_wh, w_wg, w_an, w_aw, w_ah, w_ag, w_hn, w_hw, w_ha, w_hg, w_gn, w_gw, w_ga, w_gh, w_self, Bool.false_eq_true, if_false, if_true, Nat.reduceAdd, Nat.reduceSub])
  obtain ⟨x, hx, hm⟩ := atI_mem hd0 hd1
  rw [hx]
  exact rt_D (q x l' hm hl')
end K18
set_option linter.all false
set_option maxRecDepth 100000
set_option maxHeartbeats 4000000
namespace K18
open PySem L2 DL
theorem r_u_law_box : ∀ ds μ Q, s_u_law_box ds μ Q → w_u_law_box (endD Q) (startD 5 ds) μ := by
  rintro ds μ Q ⟨p, n, l, rfl, hμ, hl, hn, q⟩
  unfold w_u_law_box
  have hs : startD 5 [.obj p, .int ((n : Nat) : Int)] = [some (.obj p), some (.int n), none, none, none] := rfl
  rw [hs]
  simp only [DL.wSeq]
  unfold w_u_law_box_0
  simp only [DL.wSeq, DL.wAsg, DL.wOp, DL.wVar, DL.wC, DL.wIx, DL.gdName, DL.startD, wishD, DL.pv_, DL.wIfS, DL.wTest, DL.wRet, DL.wIf, DL.wCall, DL.wCons, DL.wNil, DL.wNext, DL.wEq, DL.wNe, DL.wIsN, DL.wNotN, DL.isNonD, DL.onBl, DL.wAndV, DL.wOrV, DL.wNotV, DL.wAnd, DL.wOr, DL.wNot, DL.wCB, DL.wLen, DL.wInt, DL.wAbs, DL.wMax2, DL.wMin2, DL.wTupOf, DL.wUn, DL.wU, DL.wI0, DL.wI, DL.wTup, DL.wLst, DL.wPar, DL.wPar3, DL.wDrop, DL.wSl, DL.wSlL, DL.wPart, DL.wNoPart, DL.endD, DL.wLc, DL.lcStep, DL.wipeD, DL.wYes, DL.gdTup, DL.gdCons, DL.gdNil, DL.idTup, DL.idLst, DL.idEnumL, DL.idEnumT, DL.idZip, DL.idRng1, DL.idRng2, DL.wAny, DL.wAll, DL.wChain, DL.wFor, DL.wWhile, DL.wAppend, DL.wLstM, DL.gdSub, DL.wIsi, DL.tyD, true_and, DL.sz_0, DL.sz_1, DL.sz_2, DL.sz_3, DL.sz_4, DL.sz_5, DL.sz_6, DL.sz_7, DL.sz_8, DL.sz_9, DL.sz_10, DL.sz_11, DL.sz_12, DL.sz_13, DL.sz_14, DL.sz_15, DL.sz_16, DL.sz_17, DL.sz_18, DL.sz_19, DL.sz_20, DL.sz_21, DL.sz_22, DL.sz_23, DL.sz_24, DL.sz_25, DL.sz_26, DL.ixN50, DL.ixN51, DL.ixN52, DL.ixN53, DL.ixN54, DL.Mu.set_same, DL.Mu.set_set, eq_self, decide_true, Bool.not_true, Bool.not_false, Bool.or_false, Bool.or_true, Bool.true_or, Bool.false_or, DL.kit_NoneType_bool, DL.kit_NoneType_int, DL.kit_NoneType_str, DL.kit_NoneType_tuple, DL.kit_NoneType_list, DL.kit_NoneType_dict, DL.kit_bool_bool, DL.kit_bool_int, DL.kit_bool_str, DL.kit_bool_tuple, DL.kit_bool_list, DL.kit_bool_dict, DL.kit_int_bool, DL.kit_int_int, DL.kit_int_str, DL.kit_int_tuple, DL.kit_int_list, DL.kit_int_dict, DL.kit_str_bool, DL.kit_str_int, DL.kit_str_str, DL.kit_str_tuple, DL.kit_str_list, DL.kit_str_dict, DL.kit_tuple_bool, DL.kit_tuple_int, DL.kit_tuple_str, DL.kit_tuple_tuple, DL.kit_tuple_list, DL.kit_tuple_dict, DL.kit_list_bool, DL.kit_list_int, DL.kit_list_str, DL.kit_list_tuple, DL.kit_list_list, DL.kit_list_dict, reduceIte, cntD_n, cntD_s, List.map_cons, List.map_nil, List.length_cons, List.length_nil, List.replicate, List.cons_append, List.nil_append, List.getElem?_cons_zero, List.getElem?_cons_succ, List.set_cons_zero, List.set_cons_succ, onSome, atI_0, atI_1, atI_2, atI_3, atI_4, w_nw, w_na, w_nh, w_ng, w_wn, w_wa, w_wh, w_wg, w_an, w_aw, w_ah, w_ag, w_hn, w_hw, w_ha, w_hg, w_gn, w_gw, w_ga, w_gh, w_self, Bool.false_eq_true, if_false, if_true, Nat.reduceAdd, Nat.reduceSub]
  intro a ha
  have hap : a ≠ p := fun z => by
    rw [z, hμ] at ha
    cases ha
  unfold w_u_law_box_1
  simp only [DL.wSeq, DL.wAsg, DL.wOp, DL.wVar, DL.wC, DL.wIx, DL.gdName, DL.startD, wishD, DL.pv_, DL.wIfS, DL.wTest, DL.wRet, DL.wIf, DL.wCall, DL.wCons, DL.wNil, DL.wNext, DL.wEq, DL.wNe, DL.wIsN, DL.wNotN, DL.isNonD, DL.onBl, DL.wAndV, DL.wOrV, DL.wNotV, DL.wAnd, DL.wOr, DL.wNot, DL.wCB, DL.wLen, DL.wInt, DL.wAbs, DL.wMax2, DL.wMin2, DL.wTupOf, DL.wUn, DL.wU, DL.wI0, DL.wI, DL.wTup, DL.wLst, DL.wPar, DL.wPar3, DL.wDrop, DL.wSl, DL.wSlL, DL.wPart, DL.wNoPart, DL.endD, DL.wLc, DL.lcStep, DL.wipeD, DL.wYes, DL.gdTup, DL.gdCons, DL.gdNil, DL.idTup, DL.idLst, DL.idEnumL, DL.idEnumT, DL.idZip, DL.idRng1, DL.idRng2, DL.wAny, DL.wAll, DL.wChain, DL.wFor, DL.wWhile, DL.wAppend, DL.wLstM, DL.gdSub, DL.wIsi, DL.tyD, true_and, DL.sz_0, DL.sz_1, DL.sz_2, DL.sz_3, DL.sz_4, DL.sz_5, DL.sz_6, DL.sz_7, DL.sz_8, DL.sz_9, DL.sz_10, DL.sz_11, DL.sz_12, DL.sz_13, DL.sz_14, DL.sz_15, DL.sz_16, DL.sz_17, DL.sz_18, DL.sz_19, DL.sz_20, DL.sz_21, DL.sz_22, DL.sz_23, DL.sz_24, DL.sz_25, DL.sz_26, DL.ixN50, DL.ixN51, DL.ixN52, DL.ixN53, DL.ixN54, DL.Mu.set_same, DL.Mu.set_set, eq_self, decide_true, Bool.not_true, Bool.not_false, Bool.or_false, Bool.or_true, Bool.true_or, Bool.false_or, DL.kit_NoneType_bool, DL.kit_NoneType_int, DL.kit_NoneType_str, DL.kit_NoneType_tuple, DL.kit_NoneType_list, DL.kit_NoneType_dict, DL.kit_bool_bool, DL.kit_bool_int, DL.kit_bool_str, DL.kit_bool_tuple, DL.kit_bool_list, DL.kit_bool_dict, DL.kit_int_bool, DL.kit_int_int, DL.kit_int_str, DL.kit_int_tuple, DL.kit_int_list, DL.kit_int_dict, DL.kit_str_bool, DL.kit_str_int, DL.kit_str_str, DL.kit_str_tuple, DL.kit_str_list, DL.kit_str_dict, DL.kit_tuple_bool, DL.kit_tuple_int, DL.kit_tuple_str, DL.kit_tuple_tuple, DL.kit_tuple_list, DL.kit_tuple_dict, DL.kit_list_bool, DL.kit_list_int, DL.kit_list_str, DL.kit_list_tuple, DL.kit_list_list, DL.kit_list_dict, reduceIte, cntD_n, cntD_s, List.map_cons, List.map_nil, List.length_cons, List.length_nil, List.replicate, List.cons_append, List.nil_append, List.getElem?_cons_zero, List.getElem?_cons_succ, List.set_cons_zero, List.set_cons_succ, onSome, atI_0, atI_1, atI_2, atI_3, atI_4, w_nw, w_na, w_nh, w_ng, w_wn, w_wa, w_wh, w_wg, w_an, w_aw, w_ah, w_ag, w_hn, w_hw, w_ha, w_hg, w_gn, w_gw, w_ga, w_gh, w_self, Bool.false_eq_true, if_false, if_true, Nat.reduceAdd, Nat.reduceSub]
  refine ⟨range_ok hn, ?_⟩
  rw [Int.toNat_natCast, rangeD0]
  refine forW_by (fun i ρ μ' => ∃ (b : Box) (l' : List DV) (x y : Option DV), b.length = i ∧ HandOk l' ∧ μ' = Mu.set (Mu.set μ p l') a (b.map fun e => .tup [.int e.1, .int e.2]) ∧ ρ = [some (.obj p), some (.int n), some (.obj a), x, y]) ⟨[], l, none, none, rfl, hl, by rw [Mu.set_id hμ]; rfl, rfl⟩ ?_ ?_
  · rintro j d ρ μ' N hd ⟨b, l', x, y, hb, hl', rfl, rfl⟩ hN
    rw [List.getElem?_map] at hd
    obtain ⟨i, hi, rfl⟩ := Option.map_eq_some_iff.mp hd
    have hj := (List.getElem?_eq_some_iff.mp hi).1
    rw [List.length_range] at hj
    simp only [DL.wSeq, DL.wAsg, DL.wOp, DL.wVar, DL.wC, DL.wIx, DL.gdName, DL.startD, wishD, DL.pv_, DL.wIfS, DL.wTest, DL.wRet, DL.wIf, DL.wCall, DL.wCons, DL.wNil, DL.wNext, DL.wEq, DL.wNe, DL.wIsN, DL.wNotN, DL.isNonD, DL.onBl, DL.wAndV, DL.wOrV, DL.wNotV, DL.wAnd, DL.wOr, DL.wNot, DL.wCB, DL.wLen, DL.wInt, DL.wAbs, DL.wMax2, DL.wMin2, DL.wTupOf, DL.wUn, DL.wU, DL.wI0, DL.wI, DL.wTup, DL.wLst, DL.wPar, DL.wPar3, DL.wDrop, DL.wSl, DL.wSlL, DL.wPart, DL.wNoPart, DL.endD, DL.wLc, DL.lcStep, DL.wipeD, DL.wYes, DL.gdTup, DL.gdCons, DL.gdNil, DL.idTup, DL.idLst, DL.idEnumL, DL.idEnumT, DL.idZip, DL.idRng1, DL.idRng2, DL.wAny, DL.wAll, DL.wChain, DL.wFor, DL.wWhile, DL.wAppend, DL.wLstM, DL.gdSub, DL.wIsi, DL.tyD, true_and, DL.sz_0, DL.sz_1, DL.sz_2, DL.sz_3, DL.sz_4, DL.sz_5, DL.sz_6, DL.sz_7, DL.sz_8, DL.sz_9, DL.sz_10, DL.sz_11, DL.sz_12, DL.sz_13, DL.sz_14, DL.sz_15, DL.sz_16, DL.sz_17, DL.sz_18, DL.sz_19, DL.sz_20, DL.sz_21, DL.sz_22, DL.sz_23, DL.sz_24, DL.sz_25, DL.sz_26, DL.ixN50, DL.ixN51, DL.ixN52, DL.ixN53, DL.ixN54, DL.Mu.set_same, DL.Mu.set_set, eq_self, decide_true, Bool.not_true, Bool.not_false, Bool.or_false, Bool.or_true, Bool.true_or, Bool.false_or, DL.kit_NoneType_bool, DL.kit_NoneType_int, DL.kit_NoneType_str, DL.kit_NoneType_tuple, DL.kit_NoneType_list, DL.kit_NoneType_dict, DL.kit_bool_bool, DL.kit_bool_int, DL.kit_bool_str, DL.kit_bool_tuple, DL.kit_bool_list, DL.kit_bool_dict, DL.kit_int_bool, DL.kit_int_int, DL.kit_int_str, DL.kit_int_tuple, DL.kit_int_list, DL.kit_int_dict, DL.kit_str_bool, DL.kit_str_int, DL.kit_str_str, DL.kit_str_tuple, DL.kit_str_list, DL.kit_str_dict, DL.kit_tuple_bool, DL.kit_tuple_int, DL.kit_tuple_str, DL.kit_tuple_tuple, DL.kit_tuple_list, DL.kit_tuple_dict, DL.kit_list_bool, DL.kit_list_int, DL.kit_list_str, DL.kit_list_tuple, DL.kit_list_list, DL.kit_list_dict, reduceIte, cntD_n, cntD_s, List.map_cons, List.map_nil, List.length_cons, List.length_nil, List.replicate, List.cons_append, List.nil_append, List.getElem?_cons_zero, List.getElem?_cons_succ, List.set_cons_zero, List.set_cons_succ, onSome, atI_0, atI_1, atI_2, atI_3, atI_4, w_nw, w_na, w_nh, w_ng, w_wn, w_wa, w_wh, w_wg, w_an, w_aw, w_ah, w_ag, w_hn, w_hw, w_ha, w_hg, w_gn, w_gw, w_ga, w_gh, w_self, Bool.false_eq_true, if_false, if_true, Nat.reduceAdd, Nat.reduceSub]
    refine ⟨p, 5, l', rfl, by rw [Mu.set_ne (Ne.symm hap), Mu.set_same], hl', by decide, by decide, fun lo l1 hl1 h0 h1 => ?_⟩
    have e1 : ∀ l1, Mu.set (Mu.set (Mu.set μ p l') a (b.map fun e => .tup [.int e.1, .int e.2])) p l1 = Mu.set (Mu.set μ p l1) a (b.map fun e => .tup [.int e.1, .int e.2]) := fun l1 => by
      rw [Mu.set_comm hap, Mu.set_set]
    rw [e1]
    simp only [DL.wSeq, DL.wAsg, DL.wOp, DL.wVar, DL.wC, DL.wIx, DL.gdName, DL.startD, wishD, DL.pv_, DL.wIfS, DL.wTest, DL.wRet, DL.wIf, DL.wCall, DL.wCons, DL.wNil, DL.wNext, DL.wEq, DL.wNe, DL.wIsN, DL.wNotN, DL.isNonD, DL.onBl, DL.wAndV, DL.wOrV, DL.wNotV, DL.wAnd, DL.wOr, DL.wNot, DL.wCB, DL.wLen, DL.wInt, DL.wAbs, DL.wMax2, DL.wMin2, DL.wTupOf, DL.wUn, DL.wU, DL.wI0, DL.wI, DL.wTup, DL.wLst, DL.wPar, DL.wPar3, DL.wDrop, DL.wSl, DL.wSlL, DL.wPart, DL.wNoPart, DL.endD, DL.wLc, DL.lcStep, DL.wipeD, DL.wYes, DL.gdTup, DL.gdCons, DL.gdNil, DL.idTup, DL.idLst, DL.idEnumL, DL.idEnumT, DL.idZip, DL.idRng1, DL.idRng2, DL.wAny, DL.wAll, DL.wChain, DL.wFor, DL.wWhile, DL.wAppend, DL.wLstM, DL.gdSub, DL.wIsi, DL.tyD, true_and, DL.sz_0, DL.sz_1, DL.sz_2, DL.sz_3, DL.sz_4, DL.sz_5, DL.sz_6, DL.sz_7, DL.sz_8, DL.sz_9, DL.sz_10, DL.sz_11, DL.sz_12, DL.sz_13, DL.sz_14, DL.sz_15, DL.sz_16, DL.sz_17, DL.sz_18, DL.sz_19, DL.sz_20, DL.sz_21, DL.sz_22, DL.sz_23, DL.sz_24, DL.sz_25, DL.sz_26, DL.ixN50, DL.ixN51, DL.ixN52, DL.ixN53, DL.ixN54, DL.Mu.set_same, DL.Mu.set_set, eq_self, decide_true, Bool.not_true, Bool.not_false, Bool.or_false, Bool.or_true, Bool.true_or, Bool.false_or, DL.kit_NoneType_bool, DL.kit_NoneType_int, DL.kit_NoneType_str, DL.kit_NoneType_tuple, DL.kit_NoneType_list, DL.kit_NoneType_dict, DL.kit_bool_bool, DL.kit_bool_int, DL.kit_bool_str, DL.kit_bool_tuple, DL.kit_bool_list, DL.kit_bool_dict, DL.kit_int_bool, DL.kit_int_int, DL.kit_int_str, DL.kit_int_tuple, DL.kit_int_list, DL.kit_int_dict, DL.kit_str_bool, DL.kit_str_int, DL.kit_str_str, DL.kit_str_tuple, DL.kit_str_list, DL.kit_str_dict, DL.kit_tuple_bool, DL.kit_tuple_int, DL.kit_tuple_str, DL.kit_tuple_tuple, DL.kit_tuple_list, DL.kit_tuple_dict, DL.kit_list_bool, DL.kit_list_int, DL.kit_list_str, DL.kit_list_tuple, DL.kit_list_list, DL.kit_list_dict, reduceIte, cntD_n, cntD_s, List.map_cons, List.map_nil, List.length_cons, List.length_nil, List.replicate, List.cons_append, List.nil_append, List.getElem?_cons_zero, List.getElem?_cons_succ, List.set_cons_zero, List.set_cons_succ, onSome, atI_0, atI_1, atI_2, atI_3, atI_4, w_nw, w_na, w_nh, w_ng, w_wn, w_wa, w_wh, w_wg, w_an, w_aw, w_ah, w_ag, w_hn, w_hw, w_ha, w_hg, w_gn, w_gw, w_ga, w_gh, w_self, Bool.false_eq_true, if_false, if_true, Nat.reduceAdd, Nat.reduceSub]
    refine ⟨p, _, l1, rfl, by rw [Mu.set_ne (Ne.symm hap), Mu.set_same], hl1, by decide, by decide, fun dd l2 hdd hl2 => ?_⟩
    have e2 : Mu.set (Mu.set (Mu.set μ p l1) a (b.map fun e => .tup [.int e.1, .int e.2])) p l2 = Mu.set (Mu.set μ p l2) a (b.map fun e => .tup [.int e.1, .int e.2]) := by
      rw [Mu.set_comm hap, Mu.set_set]
    rw [e2]
    have hint : ∃ z : Int, dd = .int z := by
      simp only [List.mem_cons, List.not_mem_nil, or_false] at hdd
      rcases hdd with e | e | e | e | e <;> exact ⟨_, e⟩
    obtain ⟨z, rfl⟩ := hint
    simp only [DL.wSeq, DL.wAsg, DL.wOp, DL.wVar, DL.wC, DL.wIx, DL.gdName, DL.startD, wishD, DL.pv_, DL.wIfS, DL.wTest, DL.wRet, DL.wIf, DL.wCall, DL.wCons, DL.wNil, DL.wNext, DL.wEq, DL.wNe, DL.wIsN, DL.wNotN, DL.isNonD, DL.onBl, DL.wAndV, DL.wOrV, DL.wNotV, DL.wAnd, DL.wOr, DL.wNot, DL.wCB, DL.wLen, DL.wInt, DL.wAbs, DL.wMax2, DL.wMin2, DL.wTupOf, DL.wUn, DL.wU, DL.wI0, DL.wI, DL.wTup, DL.wLst, DL.wPar, DL.wPar3, DL.wDrop, DL.wSl, DL.wSlL, DL.wPart, DL.wNoPart, DL.endD, DL.wLc, DL.lcStep, DL.wipeD, DL.wYes, DL.gdTup, DL.gdCons, DL.gdNil, DL.idTup, DL.idLst, DL.idEnumL, DL.idEnumT, DL.idZip, DL.idRng1, DL.idRng2, DL.wAny, DL.wAll, DL.wChain, DL.wFor, DL.wWhile, DL.wAppend, DL.wLstM, DL.gdSub, DL.wIsi, DL.tyD, true_and, DL.sz_0, DL.sz_1, DL.sz_2, DL.sz_3, DL.sz_4, DL.sz_5, DL.sz_6, DL.sz_7, DL.sz_8, DL.sz_9, DL.sz_10, DL.sz_11, DL.sz_12, DL.sz_13, DL.sz_14, DL.sz_15, DL.sz_16, DL.sz_17, DL.sz_18, DL.sz_19, DL.sz_20, DL.sz_21, DL.sz_22, DL.sz_23, DL.sz_24, DL.sz_25, DL.sz_26, DL.ixN50, DL.ixN51, DL.ixN52, DL.ixN53, DL.ixN54, DL.Mu.set_same, DL.Mu.set_set, eq_self, decide_true, Bool.not_true, Bool.not_false, Bool.or_false, Bool.or_true, Bool.true_or, Bool.false_or, DL.kit_NoneType_bool, DL.kit_NoneType_int, DL.kit_NoneType_str, DL.kit_NoneType_tuple, DL.kit_NoneType_list, DL.kit_NoneType_dict, DL.kit_bool_bool, DL.kit_bool_int, DL.kit_bool_str, DL.kit_bool_tuple, DL.kit_bool_list, DL.kit_bool_dict, DL.kit_int_bool, DL.kit_int_int, DL.kit_int_str, DL.kit_int_tuple, DL.kit_int_list, DL.kit_int_dict, DL.kit_str_bool, DL.kit_str_int, DL.kit_str_str, DL.kit_str_tuple, DL.kit_str_list, DL.kit_str_dict, DL.kit_tuple_bool, DL.kit_tuple_int, DL.kit_tuple_str, DL.kit_tuple_tuple, DL.kit_tuple_list, DL.kit_tuple_dict, DL.kit_list_bool, DL.kit_list_int, DL.kit_list_str, DL.kit_list_tuple, DL.kit_list_list, DL.kit_list_dict, reduceIte, cntD_n, cntD_s, List.map_cons, List.map_nil, List.length_cons, List.length_nil, List.replicate, List.cons_append, List.nil_append, List.getElem?_cons_zero, List.getElem?_cons_succ, List.set_cons_zero, List.set_cons_succ, onSome, atI_0, atI_1, atI_2, atI_3, atI_4, w_nw, w_na, w_nh, w_ng, w_wn, w_wa, w_wh, w_wg, w_an, w_aw, w_ah, w_ag, w_hn, w_hw, w_ha, w_hg, w_gn, w_gw, w_ga, w_gh, w_self, Bool.false_eq_true, if_false, if_true, Nat.reduceAdd, Nat.reduceSub]
    refine ⟨by rw [List.length_map]; exact Nat.lt_of_lt_of_le (show b.length < 1001 by omega) (by decide), ?_⟩
    refine hN _ _ ⟨b ++ [(lo, lo + z)], l2, _, _, by rw [List.length_append, hb]; rfl, hl2, ?_, rfl⟩
    rw [List.map_append]
    rfl
  · rintro ρ μ' ⟨b, l', x, y, hb, hl', rfl, rfl⟩
    rw [List.length_map, List.length_range] at hb
    unfold w_u_law_box_2
    simp only [DL.wSeq, DL.wAsg, DL.wOp, DL.wVar, DL.wC, DL.wIx, DL.gdName, DL.startD, wishD, DL.pv_, DL.wIfS, DL.wTest, DL.wRet, DL.wIf, DL.wCall, DL.wCons, DL.wNil, DL.wNext, DL.wEq, DL.wNe, DL.wIsN, DL.wNotN, DL.isNonD, DL.onBl, DL.wAndV, DL.wOrV, DL.wNotV, DL.wAnd, DL.wOr, DL.wNot, DL.wCB, DL.wLen, DL.wInt, DL.wAbs, DL.wMax2, DL.wMin2, DL.wTupOf, DL.wUn, DL.wU, DL.wI0, DL.wI, DL.wTup, DL.wLst, DL.wPar, DL.wPar3, DL.wDrop, DL.wSl, DL.wSlL, DL.wPart, DL.wNoPart, DL.endD, DL.wLc, DL.lcStep, DL.wipeD, DL.wYes, DL.gdTup, DL.gdCons, DL.gdNil, DL.idTup, DL.idLst, DL.idEnumL, DL.idEnumT, DL.idZip, DL.idRng1, DL.idRng2, DL.wAny, DL.wAll, DL.wChain, DL.wFor, DL.wWhile, DL.wAppend, DL.wLstM, DL.gdSub, DL.wIsi, DL.tyD, true_and, DL.sz_0, DL.sz_1, DL.sz_2, DL.sz_3, DL.sz_4, DL.sz_5, DL.sz_6, DL.sz_7, DL.sz_8, DL.sz_9, DL.sz_10, DL.sz_11, DL.sz_12, DL.sz_13, DL.sz_14, DL.sz_15, DL.sz_16, DL.sz_17, DL.sz_18, DL.sz_19, DL.sz_20, DL.sz_21, DL.sz_22, DL.sz_23, DL.sz_24, DL.sz_25, DL.sz_26, DL.ixN50, DL.ixN51, DL.ixN52, DL.ixN53, DL.ixN54, DL.Mu.set_same, DL.Mu.set_set, eq_self, decide_true, Bool.not_true, Bool.not_false, Bool.or_false, Bool.or_true, Bool.true_or, Bool.false_or, DL.kit_NoneType_bool, DL.kit_NoneType_int, DL.kit_NoneType_str, DL.kit_NoneType_tuple, DL.kit_NoneType_list, DL.kit_NoneType_dict, DL.kit_bool_bool, DL.kit_bool_int, DL.kit_bool_str, DL.kit_bool_tuple, DL.kit_bool_list, DL.kit_bool_dict, DL.kit_int_bool, DL.kit_int_int, DL.kit_int_str, DL.kit_int_tuple, DL.kit_int_list, DL.kit_int_dict, DL.kit_str_bool, DL.kit_str_int, DL.kit_str_str, DL.kit_str_tuple, DL.kit_str_list, DL.kit_str_dict, DL.kit_tuple_bool, DL.kit_tuple_int, DL.kit_tuple_str, DL.kit_tuple_tuple, DL.kit_tuple_list, DL.kit_tuple_dict, DL.kit_list_bool, DL.kit_list_int, DL.kit_list_str, DL.kit_list_tuple, DL.kit_list_list, DL.kit_list_dict, reduceIte, cntD_n, cntD_s, List.map_cons, List.map_nil, List.length_cons, List.length_nil, List.replicate, List.cons_append, List.nil_append, List.getElem?_cons_zero, List.getElem?_cons_succ, List.set_cons_zero, List.set_cons_succ, onSome, atI_0, atI_1, atI_2, atI_3, atI_4, w_nw, w_na, w_nh, w_ng, w_wn, w_wa, w_wh, w_wg, w_an, w_aw, w_ah, w_ag, w_hn, w_hw, w_ha, w_hg, w_gn, w_gw, w_ga, w_gh, w_self, Bool.false_eq_true, if_false, if_true, Nat.reduceAdd, Nat.reduceSub]
    refine .inl ⟨Mu.set μ p l', fun c es e => ?_, q b l' hb hl'⟩
    have hca : c ≠ a := fun z => by
      rw [z, Mu.set_ne hap, ha] at e
      cases e
    rw [Mu.set_ne hca]
    exact e
theorem wish_mem {n : Nat} : True := trivial
theorem boxes_of {n : Nat} : ∀ {es : List DV}, (∀ d ∈ es, ∃ b : Box, d = boxD b ∧ b.length = n) → ∃ a : List Box, es = a.map boxD ∧ a.length = es.length ∧ ∀ b ∈ a, b.length = n
  | [], _ => ⟨[], rfl, rfl, fun _ h => by cases h⟩
  | d :: es, h => by
    obtain ⟨b, rfl, hb⟩ := h d List.mem_cons_self
    obtain ⟨a, rfl, ha, hb2⟩ := boxes_of fun d' hd' => h d' (List.mem_cons_of_mem _ hd')
    refine ⟨b :: a, rfl, by simp, fun c hc => ?_⟩
    rcases List.mem_cons.mp hc with rfl | hc
    · exact hb
    · exact hb2 c hc
theorem r_u_law_area : ∀ ds μ Q, s_u_law_area ds μ Q → w_u_law_area (endD Q) (startD 3 ds) μ := by
  rintro ds μ Q ⟨p, n, l, rfl, hμ, hl, hn, q⟩
  unfold w_u_law_area
  simp only [DL.wSeq, DL.wAsg, DL.wOp, DL.wVar, DL.wC, DL.wIx, DL.gdName, DL.startD, wishD, DL.pv_, DL.wIfS, DL.wTest, DL.wRet, DL.wIf, DL.wCall, DL.wCons, DL.wNil, DL.wNext, DL.wEq, DL.wNe, DL.wIsN, DL.wNotN, DL.isNonD, DL.onBl, DL.wAndV, DL.wOrV, DL.wNotV, DL.wAnd, DL.wOr, DL.wNot, DL.wCB, DL.wLen, DL.wInt, DL.wAbs, DL.wMax2, DL.wMin2, DL.wTupOf, DL.wUn, DL.wU, DL.wI0, DL.wI, DL.wTup, DL.wLst, DL.wPar, DL.wPar3, DL.wDrop, DL.wSl, DL.wSlL, DL.wPart, DL.wNoPart, DL.endD, DL.wLc, DL.lcStep, DL.wipeD, DL.wYes, DL.gdTup, DL.gdCons, DL.gdNil, DL.idTup, DL.idLst, DL.idEnumL, DL.idEnumT, DL.idZip, DL.idRng1, DL.idRng2, DL.wAny, DL.wAll, DL.wChain, DL.wFor, DL.wWhile, DL.wAppend, DL.wLstM, DL.gdSub, DL.wIsi, DL.tyD, true_and, DL.sz_0, DL.sz_1, DL.sz_2, DL.sz_3, DL.sz_4, DL.sz_5, DL.sz_6, DL.sz_7, DL.sz_8, DL.sz_9, DL.sz_10, DL.sz_11, DL.sz_12, DL.sz_13, DL.sz_14, DL.sz_15, DL.sz_16, DL.sz_17, DL.sz_18, DL.sz_19, DL.sz_20, DL.sz_21, DL.sz_22, DL.sz_23, DL.sz_24, DL.sz_25, DL.sz_26, DL.ixN50, DL.ixN51, DL.ixN52, DL.ixN53, DL.ixN54, DL.Mu.set_same, DL.Mu.set_set, eq_self, decide_true, Bool.not_true, Bool.not_false, Bool.or_false, Bool.or_true, Bool.true_or, Bool.false_or, DL.kit_NoneType_bool, DL.kit_NoneType_int, DL.kit_NoneType_str, DL.kit_NoneType_tuple, DL.kit_NoneType_list, DL.kit_NoneType_dict, DL.kit_bool_bool, DL.kit_bool_int, DL.kit_bool_str, DL.kit_bool_tuple, DL.kit_bool_list, DL.kit_bool_dict, DL.kit_int_bool, DL.kit_int_int, DL.kit_int_str, DL.kit_int_tuple, DL.kit_int_list, DL.kit_int_dict, DL.kit_str_bool, DL.kit_str_int, DL.kit_str_str, DL.kit_str_tuple, DL.kit_str_list, DL.kit_str_dict, DL.kit_tuple_bool, DL.kit_tuple_int, DL.kit_tuple_str, DL.kit_tuple_tuple, DL.kit_tuple_list, DL.kit_tuple_dict, DL.kit_list_bool, DL.kit_list_int, DL.kit_list_str, DL.kit_list_tuple, DL.kit_list_list, DL.kit_list_dict, reduceIte, cntD_n, cntD_s, List.map_cons, List.map_nil, List.length_cons, List.length_nil, List.replicate, List.cons_append, List.nil_append, List.getElem?_cons_zero, List.getElem?_cons_succ, List.set_cons_zero, List.set_cons_succ, onSome, atI_0, atI_1, atI_2, atI_3, atI_4, w_nw, w_na, w_nh, w_ng, w_wn, w_wa, w_wh, w_wg, w_an, w_aw, w_ah, w_ag, w_hn, w_hw, w_ha, w_hg, w_gn, w_gw, w_ga, w_gh, w_self, Bool.false_eq_true, if_false, if_true, Nat.reduceAdd, Nat.reduceSub]
  refine ⟨p, _, l, rfl, hμ, hl, by decide, by decide, fun d l1 hd hl1 => ?_⟩
  have hint : ∃ z : Nat, d = .int ((z : Nat) : Int) ∧ z ≤ 6 := by
    simp only [List.mem_cons, List.not_mem_nil, or_false] at hd
    rcases hd with e | e | e | e | e | e | e
    · exact ⟨1, e, by decide⟩
    · exact ⟨1, e, by decide⟩
    · exact ⟨1, e, by decide⟩
    · exact ⟨2, e, by decide⟩
    · exact ⟨3, e, by decide⟩
    · exact ⟨6, e, by decide⟩
    · exact ⟨0, e, by decide⟩
  obtain ⟨z, rfl, hz⟩ := hint
  simp only [DL.wSeq, DL.wAsg, DL.wOp, DL.wVar, DL.wC, DL.wIx, DL.gdName, DL.startD, wishD, DL.pv_, DL.wIfS, DL.wTest, DL.wRet, DL.wIf, DL.wCall, DL.wCons, DL.wNil, DL.wNext, DL.wEq, DL.wNe, DL.wIsN, DL.wNotN, DL.isNonD, DL.onBl, DL.wAndV, DL.wOrV, DL.wNotV, DL.wAnd, DL.wOr, DL.wNot, DL.wCB, DL.wLen, DL.wInt, DL.wAbs, DL.wMax2, DL.wMin2, DL.wTupOf, DL.wUn, DL.wU, DL.wI0, DL.wI, DL.wTup, DL.wLst, DL.wPar, DL.wPar3, DL.wDrop, DL.wSl, DL.wSlL, DL.wPart, DL.wNoPart, DL.endD, DL.wLc, DL.lcStep, DL.wipeD, DL.wYes, DL.gdTup, DL.gdCons, DL.gdNil, DL.idTup, DL.idLst, DL.idEnumL, DL.idEnumT, DL.idZip, DL.idRng1, DL.idRng2, DL.wAny, DL.wAll, DL.wChain, DL.wFor, DL.wWhile, DL.wAppend, DL.wLstM, DL.gdSub, DL.wIsi, DL.tyD, true_and, DL.sz_0, DL.sz_1, DL.sz_2, DL.sz_3, DL.sz_4, DL.sz_5, DL.sz_6, DL.sz_7, DL.sz_8, DL.sz_9, DL.sz_10, DL.sz_11, DL.sz_12, DL.sz_13, DL.sz_14, DL.sz_15, DL.sz_16, DL.sz_17, DL.sz_18, DL.sz_19, DL.sz_20, DL.sz_21, DL.sz_22, DL.sz_23, DL.sz_24, DL.sz_25, DL.sz_26, DL.ixN50, DL.ixN51, DL.ixN52, DL.ixN53, DL.ixN54, DL.Mu.set_same, DL.Mu.set_set, eq_self, decide_true, Bool.not_true, Bool.not_false, Bool.or_false, Bool.or_true, Bool.true_or, Bool.false_or, DL.kit_NoneType_bool, DL.kit_NoneType_int, DL.kit_NoneType_str, DL.kit_NoneType_tuple, DL.kit_NoneType_list, DL.kit_NoneType_dict, DL.kit_bool_bool, DL.kit_bool_int, DL.kit_bool_str, DL.kit_bool_tuple, DL.kit_bool_list, DL.kit_bool_dict, DL.kit_int_bool, DL.kit_int_int, DL.kit_int_str, DL.kit_int_tuple, DL.kit_int_list, DL.kit_int_dict, DL.kit_str_bool, DL.kit_str_int, DL.kit_str_str, DL.kit_str_tuple, DL.kit_str_list, DL.kit_str_dict, DL.kit_tuple_bool, DL.kit_tuple_int, DL.kit_tuple_str, DL.kit_tuple_tuple, DL.kit_tuple_list, DL.kit_tuple_dict, DL.kit_list_bool, DL.kit_list_int, DL.kit_list_str, DL.kit_list_tuple, DL.kit_list_list, DL.kit_list_dict, reduceIte, cntD_n, cntD_s, List.map_cons, List.map_nil, List.length_cons, List.length_nil, List.replicate, List.cons_append, List.nil_append, List.getElem?_cons_zero, List.getElem?_cons_succ, List.set_cons_zero, List.set_cons_succ, onSome, atI_0, atI_1, atI_2, atI_3, atI_4, w_nw, w_na, w_nh, w_ng, w_wn, w_wa, w_wh, w_wg, w_an, w_aw, w_ah, w_ag, w_hn, w_hw, w_ha, w_hg, w_gn, w_gw, w_ga, w_gh, w_self, Bool.false_eq_true, if_false, if_true, Nat.reduceAdd, Nat.reduceSub]
  refine ⟨range_ok (by omega), ?_⟩
  rw [Int.toNat_natCast, rangeD0]
  refine ⟨by rw [List.length_map, List.length_range]; exact sz_le (by omega), fun D hD => lcW_hand (fun d => ∃ b : Box, d = boxD b ∧ b.length = n) HandOk hD Mu.set_same hl1 (fun d hd ν l2 k hν hl2 hk => ?_) fun es l2 hlen hes hl2 => ?_⟩
  · simp only [DL.wSeq, DL.wAsg, DL.wOp, DL.wVar, DL.wC, DL.wIx, DL.gdName, DL.startD, wishD, DL.pv_, DL.wIfS, DL.wTest, DL.wRet, DL.wIf, DL.wCall, DL.wCons, DL.wNil, DL.wNext, DL.wEq, DL.wNe, DL.wIsN, DL.wNotN, DL.isNonD, DL.onBl, DL.wAndV, DL.wOrV, DL.wNotV, DL.wAnd, DL.wOr, DL.wNot, DL.wCB, DL.wLen, DL.wInt, DL.wAbs, DL.wMax2, DL.wMin2, DL.wTupOf, DL.wUn, DL.wU, DL.wI0, DL.wI, DL.wTup, DL.wLst, DL.wPar, DL.wPar3, DL.wDrop, DL.wSl, DL.wSlL, DL.wPart, DL.wNoPart, DL.endD, DL.wLc, DL.lcStep, DL.wipeD, DL.wYes, DL.gdTup, DL.gdCons, DL.gdNil, DL.idTup, DL.idLst, DL.idEnumL, DL.idEnumT, DL.idZip, DL.idRng1, DL.idRng2, DL.wAny, DL.wAll, DL.wChain, DL.wFor, DL.wWhile, DL.wAppend, DL.wLstM, DL.gdSub, DL.wIsi, DL.tyD, true_and, DL.sz_0, DL.sz_1, DL.sz_2, DL.sz_3, DL.sz_4, DL.sz_5, DL.sz_6, DL.sz_7, DL.sz_8, DL.sz_9, DL.sz_10, DL.sz_11, DL.sz_12, DL.sz_13, DL.sz_14, DL.sz_15, DL.sz_16, DL.sz_17, DL.sz_18, DL.sz_19, DL.sz_20, DL.sz_21, DL.sz_22, DL.sz_23, DL.sz_24, DL.sz_25, DL.sz_26, DL.ixN50, DL.ixN51, DL.ixN52, DL.ixN53, DL.ixN54, DL.Mu.set_same, DL.Mu.set_set, eq_self, decide_true, Bool.not_true, Bool.not_false, Bool.or_false, Bool.or_true, Bool.true_or, Bool.false_or, DL.kit_NoneType_bool, DL.kit_NoneType_int, DL.kit_NoneType_str, DL.kit_NoneType_tuple, DL.kit_NoneType_list, DL.kit_NoneType_dict, DL.kit_bool_bool, DL.kit_bool_int, DL.kit_bool_str, DL.kit_bool_tuple, DL.kit_bool_list, DL.kit_bool_dict, DL.kit_int_bool, DL.kit_int_int, DL.kit_int_str, DL.kit_int_tuple, DL.kit_int_list, DL.kit_int_dict, DL.kit_str_bool, DL.kit_str_int, DL.kit_str_str, DL.kit_str_tuple, DL.kit_str_list, DL.kit_str_dict, DL.kit_tuple_bool, DL.kit_tuple_int, DL.kit_tuple_str, DL.kit_tuple_tuple, DL.kit_tuple_list, DL.kit_tuple_dict, DL.kit_list_bool, DL.kit_list_int, DL.kit_list_str, DL.kit_list_tuple, DL.kit_list_list, DL.kit_list_dict, reduceIte, cntD_n, cntD_s, List.map_cons, List.map_nil, List.length_cons, List.length_nil, List.replicate, List.cons_append, List.nil_append, List.getElem?_cons_zero, List.getElem?_cons_succ, List.set_cons_zero, List.set_cons_succ, onSome, atI_0, atI_1, atI_2, atI_3, atI_4, w_nw, w_na, w_nh, w_ng, w_wn, w_wa, w_wh, w_wg, w_an, w_aw, w_ah, w_ag, w_hn, w_hw, w_ha, w_hg, w_gn, w_gw, w_ga, w_gh, w_self, Bool.false_eq_true, if_false, if_true, Nat.reduceAdd, Nat.reduceSub]
    exact ⟨p, n, l2, rfl, hν, hl2, hn, fun b l3 hb hl3 => hk _ l3 ⟨b, rfl, hb⟩ hl3⟩
  · rw [Mu.set_set]
    obtain ⟨a, rfl, ha, hb⟩ := boxes_of hes
    simp only [DL.wSeq, DL.wAsg, DL.wOp, DL.wVar, DL.wC, DL.wIx, DL.gdName, DL.startD, wishD, DL.pv_, DL.wIfS, DL.wTest, DL.wRet, DL.wIf, DL.wCall, DL.wCons, DL.wNil, DL.wNext, DL.wEq, DL.wNe, DL.wIsN, DL.wNotN, DL.isNonD, DL.onBl, DL.wAndV, DL.wOrV, DL.wNotV, DL.wAnd, DL.wOr, DL.wNot, DL.wCB, DL.wLen, DL.wInt, DL.wAbs, DL.wMax2, DL.wMin2, DL.wTupOf, DL.wUn, DL.wU, DL.wI0, DL.wI, DL.wTup, DL.wLst, DL.wPar, DL.wPar3, DL.wDrop, DL.wSl, DL.wSlL, DL.wPart, DL.wNoPart, DL.endD, DL.wLc, DL.lcStep, DL.wipeD, DL.wYes, DL.gdTup, DL.gdCons, DL.gdNil, DL.idTup, DL.idLst, DL.idEnumL, DL.idEnumT, DL.idZip, DL.idRng1, DL.idRng2, DL.wAny, DL.wAll, DL.wChain, DL.wFor, DL.wWhile, DL.wAppend, DL.wLstM, DL.gdSub, DL.wIsi, DL.tyD, true_and, DL.sz_0, DL.sz_1, DL.sz_2, DL.sz_3, DL.sz_4, DL.sz_5, DL.sz_6, DL.sz_7, DL.sz_8, DL.sz_9, DL.sz_10, DL.sz_11, DL.sz_12, DL.sz_13, DL.sz_14, DL.sz_15, DL.sz_16, DL.sz_17, DL.sz_18, DL.sz_19, DL.sz_20, DL.sz_21, DL.sz_22, DL.sz_23, DL.sz_24, DL.sz_25, DL.sz_26, DL.ixN50, DL.ixN51, DL.ixN52, DL.ixN53, DL.ixN54, DL.Mu.set_same, DL.Mu.set_set, eq_self, decide_true, Bool.not_true, Bool.not_false, Bool.or_false, Bool.or_true, Bool.true_or, Bool.false_or, DL.kit_NoneType_bool, DL.kit_NoneType_int, DL.kit_NoneType_str, DL.kit_NoneType_tuple, DL.kit_NoneType_list, DL.kit_NoneType_dict, DL.kit_bool_bool, DL.kit_bool_int, DL.kit_bool_str, DL.kit_bool_tuple, DL.kit_bool_list, DL.kit_bool_dict, DL.kit_int_bool, DL.kit_int_int, DL.kit_int_str, DL.kit_int_tuple, DL.kit_int_list, DL.kit_int_dict, DL.kit_str_bool, DL.kit_str_int, DL.kit_str_str, DL.kit_str_tuple, DL.kit_str_list, DL.kit_str_dict, DL.kit_tuple_bool, DL.kit_tuple_int, DL.kit_tuple_str, DL.kit_tuple_tuple, DL.kit_tuple_list, DL.kit_tuple_dict, DL.kit_list_bool, DL.kit_list_int, DL.kit_list_str, DL.kit_list_tuple, DL.kit_list_list, DL.kit_list_dict, reduceIte, cntD_n, cntD_s, List.map_cons, List.map_nil, List.length_cons, List.length_nil, List.replicate, List.cons_append, List.nil_append, List.getElem?_cons_zero, List.getElem?_cons_succ, List.set_cons_zero, List.set_cons_succ, onSome, atI_0, atI_1, atI_2, atI_3, atI_4, w_nw, w_na, w_nh, w_ng, w_wn, w_wa, w_wh, w_wg, w_an, w_aw, w_ah, w_ag, w_hn, w_hw, w_ha, w_hg, w_gn, w_gw, w_ga, w_gh, w_self, Bool.false_eq_true, if_false, if_true, Nat.reduceAdd, Nat.reduceSub]
    rw [List.length_map, List.length_map, List.length_range] at hlen
    exact rt_D (q a l2 ⟨by omega, hb⟩ hl2)
theorem r_u_law_wish : ∀ ds μ Q, s_u_law_wish ds μ Q → w_u_law_wish (endD Q) (startD 6 ds) μ := by
  rintro ds μ Q ⟨p, n, l, rfl, hμ, hl, hn, q⟩
  unfold w_u_law_wish
  have hs : startD 6 [.obj p, .int ((n : Nat) : Int)] = [some (.obj p), some (.int n), none, none, none, none] := rfl
  rw [hs]
  simp only [DL.wSeq]
  unfold w_u_law_wish_0
  simp only [DL.wSeq, DL.wAsg, DL.wOp, DL.wVar, DL.wC, DL.wIx, DL.gdName, DL.startD, wishD, DL.pv_, DL.wIfS, DL.wTest, DL.wRet, DL.wIf, DL.wCall, DL.wCons, DL.wNil, DL.wNext, DL.wEq, DL.wNe, DL.wIsN, DL.wNotN, DL.isNonD, DL.onBl, DL.wAndV, DL.wOrV, DL.wNotV, DL.wAnd, DL.wOr, DL.wNot, DL.wCB, DL.wLen, DL.wInt, DL.wAbs, DL.wMax2, DL.wMin2, DL.wTupOf, DL.wUn, DL.wU, DL.wI0, DL.wI, DL.wTup, DL.wLst, DL.wPar, DL.wPar3, DL.wDrop, DL.wSl, DL.wSlL, DL.wPart, DL.wNoPart, DL.endD, DL.wLc, DL.lcStep, DL.wipeD, DL.wYes, DL.gdTup, DL.gdCons, DL.gdNil, DL.idTup, DL.idLst, DL.idEnumL, DL.idEnumT, DL.idZip, DL.idRng1, DL.idRng2, DL.wAny, DL.wAll, DL.wChain, DL.wFor, DL.wWhile, DL.wAppend, DL.wLstM, DL.gdSub, DL.wIsi, DL.tyD, true_and, DL.sz_0, DL.sz_1, DL.sz_2, DL.sz_3, DL.sz_4, DL.sz_5, DL.sz_6, DL.sz_7, DL.sz_8, DL.sz_9, DL.sz_10, DL.sz_11, DL.sz_12, DL.sz_13, DL.sz_14, DL.sz_15, DL.sz_16, DL.sz_17, DL.sz_18, DL.sz_19, DL.sz_20, DL.sz_21, DL.sz_22, DL.sz_23, DL.sz_24, DL.sz_25, DL.sz_26, DL.ixN50, DL.ixN51, DL.ixN52, DL.ixN53, DL.ixN54, DL.Mu.set_same, DL.Mu.set_set, eq_self, decide_true, Bool.not_true, Bool.not_false, Bool.or_false, Bool.or_true, Bool.true_or, Bool.false_or, DL.kit_NoneType_bool, DL.kit_NoneType_int, DL.kit_NoneType_str, DL.kit_NoneType_tuple, DL.kit_NoneType_list, DL.kit_NoneType_dict, DL.kit_bool_bool, DL.kit_bool_int, DL.kit_bool_str, DL.kit_bool_tuple, DL.kit_bool_list, DL.kit_bool_dict, DL.kit_int_bool, DL.kit_int_int, DL.kit_int_str, DL.kit_int_tuple, DL.kit_int_list, DL.kit_int_dict, DL.kit_str_bool, DL.kit_str_int, DL.kit_str_str, DL.kit_str_tuple, DL.kit_str_list, DL.kit_str_dict, DL.kit_tuple_bool, DL.kit_tuple_int, DL.kit_tuple_str, DL.kit_tuple_tuple, DL.kit_tuple_list, DL.kit_tuple_dict, DL.kit_list_bool, DL.kit_list_int, DL.kit_list_str, DL.kit_list_tuple, DL.kit_list_list, DL.kit_list_dict, reduceIte, cntD_n, cntD_s, List.map_cons, List.map_nil, List.length_cons, List.length_nil, List.replicate, List.cons_append, List.nil_append, List.getElem?_cons_zero, List.getElem?_cons_succ, List.set_cons_zero, List.set_cons_succ, onSome, atI_0, atI_1, atI_2, atI_3, atI_4, w_nw, w_na, w_nh, w_ng, w_wn, w_wa, w_wh, w_wg, w_an, w_aw, w_ah, w_ag, w_hn, w_hw, w_ha, w_hg, w_gn, w_gw, w_ga, w_gh, w_self, Bool.false_eq_true, if_false, if_true, Nat.reduceAdd, Nat.reduceSub]
  refine ⟨p, n, l, rfl, hμ, hl, hn, fun a l1 ha hl1 => ?_⟩
  refine ⟨p, n, l1, rfl, Mu.set_same, hl1, hn, fun b l2 hb hl2 => ?_⟩
  rw [Mu.set_set]
  refine ⟨p, _, l2, rfl, Mu.set_same, hl2, by decide, by decide, fun d l3 hd hl3 => ?_⟩
  rw [Mu.set_set]
  have hint : ∃ k : Nat, d = .int ((k : Nat) : Int) ∧ 1 ≤ k := by
    simp only [List.mem_cons, List.not_mem_nil, or_false] at hd
    rcases hd with e | e | e | e | e | e | e | e
    · exact ⟨1, e, by decide⟩
    · exact ⟨1, e, by decide⟩
    · exact ⟨2, e, by decide⟩
    · exact ⟨2, e, by decide⟩
    · exact ⟨3, e, by decide⟩
    · exact ⟨4, e, by decide⟩
    · exact ⟨7, e, by decide⟩
    · exact ⟨30, e, by decide⟩
  obtain ⟨k, rfl, hk⟩ := hint
  simp only [DL.wSeq, DL.wAsg, DL.wOp, DL.wVar, DL.wC, DL.wIx, DL.gdName, DL.startD, wishD, DL.pv_, DL.wIfS, DL.wTest, DL.wRet, DL.wIf, DL.wCall, DL.wCons, DL.wNil, DL.wNext, DL.wEq, DL.wNe, DL.wIsN, DL.wNotN, DL.isNonD, DL.onBl, DL.wAndV, DL.wOrV, DL.wNotV, DL.wAnd, DL.wOr, DL.wNot, DL.wCB, DL.wLen, DL.wInt, DL.wAbs, DL.wMax2, DL.wMin2, DL.wTupOf, DL.wUn, DL.wU, DL.wI0, DL.wI, DL.wTup, DL.wLst, DL.wPar, DL.wPar3, DL.wDrop, DL.wSl, DL.wSlL, DL.wPart, DL.wNoPart, DL.endD, DL.wLc, DL.lcStep, DL.wipeD, DL.wYes, DL.gdTup, DL.gdCons, DL.gdNil, DL.idTup, DL.idLst, DL.idEnumL, DL.idEnumT, DL.idZip, DL.idRng1, DL.idRng2, DL.wAny, DL.wAll, DL.wChain, DL.wFor, DL.wWhile, DL.wAppend, DL.wLstM, DL.gdSub, DL.wIsi, DL.tyD, true_and, DL.sz_0, DL.sz_1, DL.sz_2, DL.sz_3, DL.sz_4, DL.sz_5, DL.sz_6, DL.sz_7, DL.sz_8, DL.sz_9, DL.sz_10, DL.sz_11, DL.sz_12, DL.sz_13, DL.sz_14, DL.sz_15, DL.sz_16, DL.sz_17, DL.sz_18, DL.sz_19, DL.sz_20, DL.sz_21, DL.sz_22, DL.sz_23, DL.sz_24, DL.sz_25, DL.sz_26, DL.ixN50, DL.ixN51, DL.ixN52, DL.ixN53, DL.ixN54, DL.Mu.set_same, DL.Mu.set_set, eq_self, decide_true, Bool.not_true, Bool.not_false, Bool.or_false, Bool.or_true, Bool.true_or, Bool.false_or, DL.kit_NoneType_bool, DL.kit_NoneType_int, DL.kit_NoneType_str, DL.kit_NoneType_tuple, DL.kit_NoneType_list, DL.kit_NoneType_dict, DL.kit_bool_bool, DL.kit_bool_int, DL.kit_bool_str, DL.kit_bool_tuple, DL.kit_bool_list, DL.kit_bool_dict, DL.kit_int_bool, DL.kit_int_int, DL.kit_int_str, DL.kit_int_tuple, DL.kit_int_list, DL.kit_int_dict, DL.kit_str_bool, DL.kit_str_int, DL.kit_str_str, DL.kit_str_tuple, DL.kit_str_list, DL.kit_str_dict, DL.kit_tuple_bool, DL.kit_tuple_int, DL.kit_tuple_str, DL.kit_tuple_tuple, DL.kit_tuple_list, DL.kit_tuple_dict, DL.kit_list_bool, DL.kit_list_int, DL.kit_list_str, DL.kit_list_tuple, DL.kit_list_list, DL.kit_list_dict, reduceIte, cntD_n, cntD_s, List.map_cons, List.map_nil, List.length_cons, List.length_nil, List.replicate, List.cons_append, List.nil_append, List.getElem?_cons_zero, List.getElem?_cons_succ, List.set_cons_zero, List.set_cons_succ, onSome, atI_0, atI_1, atI_2, atI_3, atI_4, w_nw, w_na, w_nh, w_ng, w_wn, w_wa, w_wh, w_wg, w_an, w_aw, w_ah, w_ag, w_hn, w_hw, w_ha, w_hg, w_gn, w_gw, w_ga, w_gh, w_self, Bool.false_eq_true, if_false, if_true, Nat.reduceAdd, Nat.reduceSub]
  unfold w_u_law_wish_1
  simp only [DL.wSeq, DL.wAsg, DL.wOp, DL.wVar, DL.wC, DL.wIx, DL.gdName, DL.startD, wishD, DL.pv_, DL.wIfS, DL.wTest, DL.wRet, DL.wIf, DL.wCall, DL.wCons, DL.wNil, DL.wNext, DL.wEq, DL.wNe, DL.wIsN, DL.wNotN, DL.isNonD, DL.onBl, DL.wAndV, DL.wOrV, DL.wNotV, DL.wAnd, DL.wOr, DL.wNot, DL.wCB, DL.wLen, DL.wInt, DL.wAbs, DL.wMax2, DL.wMin2, DL.wTupOf, DL.wUn, DL.wU, DL.wI0, DL.wI, DL.wTup, DL.wLst, DL.wPar, DL.wPar3, DL.wDrop, DL.wSl, DL.wSlL, DL.wPart, DL.wNoPart, DL.endD, DL.wLc, DL.lcStep, DL.wipeD, DL.wYes, DL.gdTup, DL.gdCons, DL.gdNil, DL.idTup, DL.idLst, DL.idEnumL, DL.idEnumT, DL.idZip, DL.idRng1, DL.idRng2, DL.wAny, DL.wAll, DL.wChain, DL.wFor, DL.wWhile, DL.wAppend, DL.wLstM, DL.gdSub, DL.wIsi, DL.tyD, true_and, DL.sz_0, DL.sz_1, DL.sz_2, DL.sz_3, DL.sz_4, DL.sz_5, DL.sz_6, DL.sz_7, DL.sz_8, DL.sz_9, DL.sz_10, DL.sz_11, DL.sz_12, DL.sz_13, DL.sz_14, DL.sz_15, DL.sz_16, DL.sz_17, DL.sz_18, DL.sz_19, DL.sz_20, DL.sz_21, DL.sz_22, DL.sz_23, DL.sz_24, DL.sz_25, DL.sz_26, DL.ixN50, DL.ixN51, DL.ixN52, DL.ixN53, DL.ixN54, DL.Mu.set_same, DL.Mu.set_set, eq_self, decide_true, Bool.not_true, Bool.not_false, Bool.or_false, Bool.or_true, Bool.true_or, Bool.false_or, DL.kit_NoneType_bool, DL.kit_NoneType_int, DL.kit_NoneType_str, DL.kit_NoneType_tuple, DL.kit_NoneType_list, DL.kit_NoneType_dict, DL.kit_bool_bool, DL.kit_bool_int, DL.kit_bool_str, DL.kit_bool_tuple, DL.kit_bool_list, DL.kit_bool_dict, DL.kit_int_bool, DL.kit_int_int, DL.kit_int_str, DL.kit_int_tuple, DL.kit_int_list, DL.kit_int_dict, DL.kit_str_bool, DL.kit_str_int, DL.kit_str_str, DL.kit_str_tuple, DL.kit_str_list, DL.kit_str_dict, DL.kit_tuple_bool, DL.kit_tuple_int, DL.kit_tuple_str, DL.kit_tuple_tuple, DL.kit_tuple_list, DL.kit_tuple_dict, DL.kit_list_bool, DL.kit_list_int, DL.kit_list_str, DL.kit_list_tuple, DL.kit_list_list, DL.kit_list_dict, reduceIte, cntD_n, cntD_s, List.map_cons, List.map_nil, List.length_cons, List.length_nil, List.replicate, List.cons_append, List.nil_append, List.getElem?_cons_zero, List.getElem?_cons_succ, List.set_cons_zero, List.set_cons_succ, onSome, atI_0, atI_1, atI_2, atI_3, atI_4, w_nw, w_na, w_nh, w_ng, w_wn, w_wa, w_wh, w_wg, w_an, w_aw, w_ah, w_ag, w_hn, w_hw, w_ha, w_hg, w_gn, w_gw, w_ga, w_gh, w_self, Bool.false_eq_true, if_false, if_true, Nat.reduceAdd, Nat.reduceSub]
  unfold w_u_law_wish_2
  simp only [DL.wSeq, DL.wAsg, DL.wOp, DL.wVar, DL.wC, DL.wIx, DL.gdName, DL.startD, wishD, DL.pv_, DL.wIfS, DL.wTest, DL.wRet, DL.wIf, DL.wCall, DL.wCons, DL.wNil, DL.wNext, DL.wEq, DL.wNe, DL.wIsN, DL.wNotN, DL.isNonD, DL.onBl, DL.wAndV, DL.wOrV, DL.wNotV, DL.wAnd, DL.wOr, DL.wNot, DL.wCB, DL.wLen, DL.wInt, DL.wAbs, DL.wMax2, DL.wMin2, DL.wTupOf, DL.wUn, DL.wU, DL.wI0, DL.wI, DL.wTup, DL.wLst, DL.wPar, DL.wPar3, DL.wDrop, DL.wSl, DL.wSlL, DL.wPart, DL.wNoPart, DL.endD, DL.wLc, DL.lcStep, DL.wipeD, DL.wYes, DL.gdTup, DL.gdCons, DL.gdNil, DL.idTup, DL.idLst, DL.idEnumL, DL.idEnumT, DL.idZip, DL.idRng1, DL.idRng2, DL.wAny, DL.wAll, DL.wChain, DL.wFor, DL.wWhile, DL.wAppend, DL.wLstM, DL.gdSub, DL.wIsi, DL.tyD, true_and, DL.sz_0, DL.sz_1, DL.sz_2, DL.sz_3, DL.sz_4, DL.sz_5, DL.sz_6, DL.sz_7, DL.sz_8, DL.sz_9, DL.sz_10, DL.sz_11, DL.sz_12, DL.sz_13, DL.sz_14, DL.sz_15, DL.sz_16, DL.sz_17, DL.sz_18, DL.sz_19, DL.sz_20, DL.sz_21, DL.sz_22, DL.sz_23, DL.sz_24, DL.sz_25, DL.sz_26, DL.ixN50, DL.ixN51, DL.ixN52, DL.ixN53, DL.ixN54, DL.Mu.set_same, DL.Mu.set_set, eq_self, decide_true, Bool.not_true, Bool.not_false, Bool.or_false, Bool.or_true, Bool.true_or, Bool.false_or, DL.kit_NoneType_bool, DL.kit_NoneType_int, DL.kit_NoneType_str, DL.kit_NoneType_tuple, DL.kit_NoneType_list, DL.kit_NoneType_dict, DL.kit_bool_bool, DL.kit_bool_int, DL.kit_bool_str, DL.kit_bool_tuple, DL.kit_bool_list, DL.kit_bool_dict, DL.kit_int_bool, DL.kit_int_int, DL.kit_int_str, DL.kit_int_tuple, DL.kit_int_list, DL.kit_int_dict, DL.kit_str_bool, DL.kit_str_int, DL.kit_str_str, DL.kit_str_tuple, DL.kit_str_list, DL.kit_str_dict, DL.kit_tuple_bool, DL.kit_tuple_int, DL.kit_tuple_str, DL.kit_tuple_tuple, DL.kit_tuple_list, DL.kit_tuple_dict, DL.kit_list_bool, DL.kit_list_int, DL.kit_list_str, DL.kit_list_tuple, DL.kit_list_list, DL.kit_list_dict, reduceIte, cntD_n, cntD_s, List.map_cons, List.map_nil, List.length_cons, List.length_nil, List.replicate, List.cons_append, List.nil_append, List.getElem?_cons_zero, List.getElem?_cons_succ, List.set_cons_zero, List.set_cons_succ, onSome, atI_0, atI_1, atI_2, atI_3, atI_4, w_nw, w_na, w_nh, w_ng, w_wn, w_wa, w_wh, w_wg, w_an, w_aw, w_ah, w_ag, w_hn, w_hw, w_ha, w_hg, w_gn, w_gw, w_ga, w_gh, w_self, Bool.false_eq_true, if_false, if_true, Nat.reduceAdd, Nat.reduceSub]
  refine ⟨p, _, l3, rfl, Mu.set_same, hl3, by simp, by simp, fun d l4 hd hl4 => ?_⟩
  rw [Mu.set_set]
  simp only [List.mem_cons, List.not_mem_nil, or_false] at hd
  rcases hd with rfl | rfl | rfl | rfl | rfl
  · exact rt_D (q (.never a) l4 ha hl4)
  · exact rt_D (q (.within a k) l4 ⟨ha, hk⟩ hl4)
  · exact rt_D (q (.answered a b k) l4 ⟨ha, hb, hk⟩ hl4)
  · exact rt_D (q (.ahead a b) l4 ⟨ha, hb⟩ hl4)
  · exact rt_D (q (.again a k) l4 ⟨ha, hk⟩ hl4)
end K18
set_option linter.all false
set_option maxRecDepth 100000
set_option maxHeartbeats 4000000
namespace K18
open PySem L2 DL
theorem ints_of : ∀ {es : List DV}, (∀ d ∈ es, ∃ i : Int, d = .int i) → ∃ q : List Int, es = q.map DV.int ∧ q.length = es.length
  | [], _ => ⟨[], rfl, rfl⟩
  | d :: es, h => by
    obtain ⟨i, rfl⟩ := h d List.mem_cons_self
    obtain ⟨q, rfl, hq⟩ := ints_of fun d' hd' => h d' (List.mem_cons_of_mem _ hd')
    exact ⟨i :: q, rfl, by simp⟩
theorem r_u_law_places : ∀ ds μ Q, s_u_law_places ds μ Q → w_u_law_places (endD Q) (startD 8 ds) μ := by
  rintro ds μ Q ⟨p, n, m, l, rfl, hμ, hl, hn, hm, q⟩
  unfold w_u_law_places
  have hs : startD 8 [.obj p, .int ((n : Nat) : Int), .int ((m : Nat) : Int)] = [some (.obj p), some (.int n), some (.int m), none, none, none, none, none] := rfl
  rw [hs]
  simp only [DL.wSeq]
  unfold w_u_law_places_0
  simp only [DL.wSeq, DL.wAsg, DL.wOp, DL.wVar, DL.wC, DL.wIx, DL.gdName, DL.startD, wishD, DL.pv_, DL.wIfS, DL.wTest, DL.wRet, DL.wIf, DL.wCall, DL.wCons, DL.wNil, DL.wNext, DL.wEq, DL.wNe, DL.wIsN, DL.wNotN, DL.isNonD, DL.onBl, DL.wAndV, DL.wOrV, DL.wNotV, DL.wAnd, DL.wOr, DL.wNot, DL.wCB, DL.wLen, DL.wInt, DL.wAbs, DL.wMax2, DL.wMin2, DL.wTupOf, DL.wUn, DL.wU, DL.wI0, DL.wI, DL.wTup, DL.wLst, DL.wPar, DL.wPar3, DL.wDrop, DL.wSl, DL.wSlL, DL.wPart, DL.wNoPart, DL.endD, DL.wLc, DL.lcStep, DL.wipeD, DL.wYes, DL.gdTup, DL.gdCons, DL.gdNil, DL.idTup, DL.idLst, DL.idEnumL, DL.idEnumT, DL.idZip, DL.idRng1, DL.idRng2, DL.wAny, DL.wAll, DL.wChain, DL.wFor, DL.wWhile, DL.wAppend, DL.wLstM, DL.gdSub, DL.wIsi, DL.tyD, true_and, DL.sz_0, DL.sz_1, DL.sz_2, DL.sz_3, DL.sz_4, DL.sz_5, DL.sz_6, DL.sz_7, DL.sz_8, DL.sz_9, DL.sz_10, DL.sz_11, DL.sz_12, DL.sz_13, DL.sz_14, DL.sz_15, DL.sz_16, DL.sz_17, DL.sz_18, DL.sz_19, DL.sz_20, DL.sz_21, DL.sz_22, DL.sz_23, DL.sz_24, DL.sz_25, DL.sz_26, DL.ixN50, DL.ixN51, DL.ixN52, DL.ixN53, DL.ixN54, DL.Mu.set_same, DL.Mu.set_set, eq_self, decide_true, Bool.not_true, Bool.not_false, Bool.or_false, Bool.or_true, Bool.true_or, Bool.false_or, DL.kit_NoneType_bool, DL.kit_NoneType_int, DL.kit_NoneType_str, DL.kit_NoneType_tuple, DL.kit_NoneType_list, DL.kit_NoneType_dict, DL.kit_bool_bool, DL.kit_bool_int, DL.kit_bool_str, DL.kit_bool_tuple, DL.kit_bool_list, DL.kit_bool_dict, DL.kit_int_bool, DL.kit_int_int, DL.kit_int_str, DL.kit_int_tuple, DL.kit_int_list, DL.kit_int_dict, DL.kit_str_bool, DL.kit_str_int, DL.kit_str_str, DL.kit_str_tuple, DL.kit_str_list, DL.kit_str_dict, DL.kit_tuple_bool, DL.kit_tuple_int, DL.kit_tuple_str, DL.kit_tuple_tuple, DL.kit_tuple_list, DL.kit_tuple_dict, DL.kit_list_bool, DL.kit_list_int, DL.kit_list_str, DL.kit_list_tuple, DL.kit_list_list, DL.kit_list_dict, reduceIte, cntD_n, cntD_s, List.map_cons, List.map_nil, List.length_cons, List.length_nil, List.replicate, List.cons_append, List.nil_append, List.getElem?_cons_zero, List.getElem?_cons_succ, List.set_cons_zero, List.set_cons_succ, onSome, atI_0, atI_1, atI_2, atI_3, atI_4, w_nw, w_na, w_nh, w_ng, w_wn, w_wa, w_wh, w_wg, w_an, w_aw, w_ah, w_ag, w_hn, w_hw, w_ha, w_hg, w_gn, w_gw, w_ga, w_gh, w_self, Bool.false_eq_true, if_false, if_true, Nat.reduceAdd, Nat.reduceSub]
  refine ⟨range_ok hn, ?_⟩
  rw [Int.toNat_natCast, rangeD0]
  refine ⟨by rw [List.length_map, List.length_range]; exact sz_le hn, fun D hD => lcW_hand (fun d => ∃ i : Int, d = .int i) HandOk hD hμ hl (fun d hd ν l2 k hν hl2 hk => ?_) fun es l1 hlen hes hl1 => ?_⟩
  · simp only [DL.wSeq, DL.wAsg, DL.wOp, DL.wVar, DL.wC, DL.wIx, DL.gdName, DL.startD, wishD, DL.pv_, DL.wIfS, DL.wTest, DL.wRet, DL.wIf, DL.wCall, DL.wCons, DL.wNil, DL.wNext, DL.wEq, DL.wNe, DL.wIsN, DL.wNotN, DL.isNonD, DL.onBl, DL.wAndV, DL.wOrV, DL.wNotV, DL.wAnd, DL.wOr, DL.wNot, DL.wCB, DL.wLen, DL.wInt, DL.wAbs, DL.wMax2, DL.wMin2, DL.wTupOf, DL.wUn, DL.wU, DL.wI0, DL.wI, DL.wTup, DL.wLst, DL.wPar, DL.wPar3, DL.wDrop, DL.wSl, DL.wSlL, DL.wPart, DL.wNoPart, DL.endD, DL.wLc, DL.lcStep, DL.wipeD, DL.wYes, DL.gdTup, DL.gdCons, DL.gdNil, DL.idTup, DL.idLst, DL.idEnumL, DL.idEnumT, DL.idZip, DL.idRng1, DL.idRng2, DL.wAny, DL.wAll, DL.wChain, DL.wFor, DL.wWhile, DL.wAppend, DL.wLstM, DL.gdSub, DL.wIsi, DL.tyD, true_and, DL.sz_0, DL.sz_1, DL.sz_2, DL.sz_3, DL.sz_4, DL.sz_5, DL.sz_6, DL.sz_7, DL.sz_8, DL.sz_9, DL.sz_10, DL.sz_11, DL.sz_12, DL.sz_13, DL.sz_14, DL.sz_15, DL.sz_16, DL.sz_17, DL.sz_18, DL.sz_19, DL.sz_20, DL.sz_21, DL.sz_22, DL.sz_23, DL.sz_24, DL.sz_25, DL.sz_26, DL.ixN50, DL.ixN51, DL.ixN52, DL.ixN53, DL.ixN54, DL.Mu.set_same, DL.Mu.set_set, eq_self, decide_true, Bool.not_true, Bool.not_false, Bool.or_false, Bool.or_true, Bool.true_or, Bool.false_or, DL.kit_NoneType_bool, DL.kit_NoneType_int, DL.kit_NoneType_str, DL.kit_NoneType_tuple, DL.kit_NoneType_list, DL.kit_NoneType_dict, DL.kit_bool_bool, DL.kit_bool_int, DL.kit_bool_str, DL.kit_bool_tuple, DL.kit_bool_list, DL.kit_bool_dict, DL.kit_int_bool, DL.kit_int_int, DL.kit_int_str, DL.kit_int_tuple, DL.kit_int_list, DL.kit_int_dict, DL.kit_str_bool, DL.kit_str_int, DL.kit_str_str, DL.kit_str_tuple, DL.kit_str_list, DL.kit_str_dict, DL.kit_tuple_bool, DL.kit_tuple_int, DL.kit_tuple_str, DL.kit_tuple_tuple, DL.kit_tuple_list, DL.kit_tuple_dict, DL.kit_list_bool, DL.kit_list_int, DL.kit_list_str, DL.kit_list_tuple, DL.kit_list_list, DL.kit_list_dict, reduceIte, cntD_n, cntD_s, List.map_cons, List.map_nil, List.length_cons, List.length_nil, List.replicate, List.cons_append, List.nil_append, List.getElem?_cons_zero, List.getElem?_cons_succ, List.set_cons_zero, List.set_cons_succ, onSome, atI_0, atI_1, atI_2, atI_3, atI_4, w_nw, w_na, w_nh, w_ng, w_wn, w_wa, w_wh, w_wg, w_an, w_aw, w_ah, w_ag, w_hn, w_hw, w_ha, w_hg, w_gn, w_gw, w_ga, w_gh, w_self, Bool.false_eq_true, if_false, if_true, Nat.reduceAdd, Nat.reduceSub]
    exact ⟨p, 6, l2, rfl, hν, hl2, by decide, by decide, fun d l3 hl3 h0 h1 => hk _ l3 ⟨d, rfl⟩ hl3⟩
  obtain ⟨q0, rfl, hq0⟩ := ints_of hes
  rw [List.length_map, List.length_map, List.length_range] at hlen
  simp only [DL.wSeq, DL.wAsg, DL.wOp, DL.wVar, DL.wC, DL.wIx, DL.gdName, DL.startD, wishD, DL.pv_, DL.wIfS, DL.wTest, DL.wRet, DL.wIf, DL.wCall, DL.wCons, DL.wNil, DL.wNext, DL.wEq, DL.wNe, DL.wIsN, DL.wNotN, DL.isNonD, DL.onBl, DL.wAndV, DL.wOrV, DL.wNotV, DL.wAnd, DL.wOr, DL.wNot, DL.wCB, DL.wLen, DL.wInt, DL.wAbs, DL.wMax2, DL.wMin2, DL.wTupOf, DL.wUn, DL.wU, DL.wI0, DL.wI, DL.wTup, DL.wLst, DL.wPar, DL.wPar3, DL.wDrop, DL.wSl, DL.wSlL, DL.wPart, DL.wNoPart, DL.endD, DL.wLc, DL.lcStep, DL.wipeD, DL.wYes, DL.gdTup, DL.gdCons, DL.gdNil, DL.idTup, DL.idLst, DL.idEnumL, DL.idEnumT, DL.idZip, DL.idRng1, DL.idRng2, DL.wAny, DL.wAll, DL.wChain, DL.wFor, DL.wWhile, DL.wAppend, DL.wLstM, DL.gdSub, DL.wIsi, DL.tyD, true_and, DL.sz_0, DL.sz_1, DL.sz_2, DL.sz_3, DL.sz_4, DL.sz_5, DL.sz_6, DL.sz_7, DL.sz_8, DL.sz_9, DL.sz_10, DL.sz_11, DL.sz_12, DL.sz_13, DL.sz_14, DL.sz_15, DL.sz_16, DL.sz_17, DL.sz_18, DL.sz_19, DL.sz_20, DL.sz_21, DL.sz_22, DL.sz_23, DL.sz_24, DL.sz_25, DL.sz_26, DL.ixN50, DL.ixN51, DL.ixN52, DL.ixN53, DL.ixN54, DL.Mu.set_same, DL.Mu.set_set, eq_self, decide_true, Bool.not_true, Bool.not_false, Bool.or_false, Bool.or_true, Bool.true_or, Bool.false_or, DL.kit_NoneType_bool, DL.kit_NoneType_int, DL.kit_NoneType_str, DL.kit_NoneType_tuple, DL.kit_NoneType_list, DL.kit_NoneType_dict, DL.kit_bool_bool, DL.kit_bool_int, DL.kit_bool_str, DL.kit_bool_tuple, DL.kit_bool_list, DL.kit_bool_dict, DL.kit_int_bool, DL.kit_int_int, DL.kit_int_str, DL.kit_int_tuple, DL.kit_int_list, DL.kit_int_dict, DL.kit_str_bool, DL.kit_str_int, DL.kit_str_str, DL.kit_str_tuple, DL.kit_str_list, DL.kit_str_dict, DL.kit_tuple_bool, DL.kit_tuple_int, DL.kit_tuple_str, DL.kit_tuple_tuple, DL.kit_tuple_list, DL.kit_tuple_dict, DL.kit_list_bool, DL.kit_list_int, DL.kit_list_str, DL.kit_list_tuple, DL.kit_list_list, DL.kit_list_dict, reduceIte, cntD_n, cntD_s, List.map_cons, List.map_nil, List.length_cons, List.length_nil, List.replicate, List.cons_append, List.nil_append, List.getElem?_cons_zero, List.getElem?_cons_succ, List.set_cons_zero, List.set_cons_succ, onSome, atI_0, atI_1, atI_2, atI_3, atI_4, w_nw, w_na, w_nh, w_ng, w_wn, w_wa, w_wh, w_wg, w_an, w_aw, w_ah, w_ag, w_hn, w_hw, w_ha, w_hg, w_gn, w_gw, w_ga, w_gh, w_self, Bool.false_eq_true, if_false, if_true, Nat.reduceAdd, Nat.reduceSub]
  unfold w_u_law_places_1
  simp only [DL.wSeq, DL.wAsg, DL.wOp, DL.wVar, DL.wC, DL.wIx, DL.gdName, DL.startD, wishD, DL.pv_, DL.wIfS, DL.wTest, DL.wRet, DL.wIf, DL.wCall, DL.wCons, DL.wNil, DL.wNext, DL.wEq, DL.wNe, DL.wIsN, DL.wNotN, DL.isNonD, DL.onBl, DL.wAndV, DL.wOrV, DL.wNotV, DL.wAnd, DL.wOr, DL.wNot, DL.wCB, DL.wLen, DL.wInt, DL.wAbs, DL.wMax2, DL.wMin2, DL.wTupOf, DL.wUn, DL.wU, DL.wI0, DL.wI, DL.wTup, DL.wLst, DL.wPar, DL.wPar3, DL.wDrop, DL.wSl, DL.wSlL, DL.wPart, DL.wNoPart, DL.endD, DL.wLc, DL.lcStep, DL.wipeD, DL.wYes, DL.gdTup, DL.gdCons, DL.gdNil, DL.idTup, DL.idLst, DL.idEnumL, DL.idEnumT, DL.idZip, DL.idRng1, DL.idRng2, DL.wAny, DL.wAll, DL.wChain, DL.wFor, DL.wWhile, DL.wAppend, DL.wLstM, DL.gdSub, DL.wIsi, DL.tyD, true_and, DL.sz_0, DL.sz_1, DL.sz_2, DL.sz_3, DL.sz_4, DL.sz_5, DL.sz_6, DL.sz_7, DL.sz_8, DL.sz_9, DL.sz_10, DL.sz_11, DL.sz_12, DL.sz_13, DL.sz_14, DL.sz_15, DL.sz_16, DL.sz_17, DL.sz_18, DL.sz_19, DL.sz_20, DL.sz_21, DL.sz_22, DL.sz_23, DL.sz_24, DL.sz_25, DL.sz_26, DL.ixN50, DL.ixN51, DL.ixN52, DL.ixN53, DL.ixN54, DL.Mu.set_same, DL.Mu.set_set, eq_self, decide_true, Bool.not_true, Bool.not_false, Bool.or_false, Bool.or_true, Bool.true_or, Bool.false_or, DL.kit_NoneType_bool, DL.kit_NoneType_int, DL.kit_NoneType_str, DL.kit_NoneType_tuple, DL.kit_NoneType_list, DL.kit_NoneType_dict, DL.kit_bool_bool, DL.kit_bool_int, DL.kit_bool_str, DL.kit_bool_tuple, DL.kit_bool_list, DL.kit_bool_dict, DL.kit_int_bool, DL.kit_int_int, DL.kit_int_str, DL.kit_int_tuple, DL.kit_int_list, DL.kit_int_dict, DL.kit_str_bool, DL.kit_str_int, DL.kit_str_str, DL.kit_str_tuple, DL.kit_str_list, DL.kit_str_dict, DL.kit_tuple_bool, DL.kit_tuple_int, DL.kit_tuple_str, DL.kit_tuple_tuple, DL.kit_tuple_list, DL.kit_tuple_dict, DL.kit_list_bool, DL.kit_list_int, DL.kit_list_str, DL.kit_list_tuple, DL.kit_list_list, DL.kit_list_dict, reduceIte, cntD_n, cntD_s, List.map_cons, List.map_nil, List.length_cons, List.length_nil, List.replicate, List.cons_append, List.nil_append, List.getElem?_cons_zero, List.getElem?_cons_succ, List.set_cons_zero, List.set_cons_succ, onSome, atI_0, atI_1, atI_2, atI_3, atI_4, w_nw, w_na, w_nh, w_ng, w_wn, w_wa, w_wh, w_wg, w_an, w_aw, w_ah, w_ag, w_hn, w_hw, w_ha, w_hg, w_gn, w_gw, w_ga, w_gh, w_self, Bool.false_eq_true, if_false, if_true, Nat.reduceAdd, Nat.reduceSub]
  intro a ha
  have hap : a ≠ p := fun z => by
    rw [z, Mu.set_same] at ha
    cases ha
  have ha' : μ a = none := by
    rw [Mu.set_ne hap] at ha
    exact ha
  unfold w_u_law_places_2
  simp only [DL.wSeq, DL.wAsg, DL.wOp, DL.wVar, DL.wC, DL.wIx, DL.gdName, DL.startD, wishD, DL.pv_, DL.wIfS, DL.wTest, DL.wRet, DL.wIf, DL.wCall, DL.wCons, DL.wNil, DL.wNext, DL.wEq, DL.wNe, DL.wIsN, DL.wNotN, DL.isNonD, DL.onBl, DL.wAndV, DL.wOrV, DL.wNotV, DL.wAnd, DL.wOr, DL.wNot, DL.wCB, DL.wLen, DL.wInt, DL.wAbs, DL.wMax2, DL.wMin2, DL.wTupOf, DL.wUn, DL.wU, DL.wI0, DL.wI, DL.wTup, DL.wLst, DL.wPar, DL.wPar3, DL.wDrop, DL.wSl, DL.wSlL, DL.wPart, DL.wNoPart, DL.endD, DL.wLc, DL.lcStep, DL.wipeD, DL.wYes, DL.gdTup, DL.gdCons, DL.gdNil, DL.idTup, DL.idLst, DL.idEnumL, DL.idEnumT, DL.idZip, DL.idRng1, DL.idRng2, DL.wAny, DL.wAll, DL.wChain, DL.wFor, DL.wWhile, DL.wAppend, DL.wLstM, DL.gdSub, DL.wIsi, DL.tyD, true_and, DL.sz_0, DL.sz_1, DL.sz_2, DL.sz_3, DL.sz_4, DL.sz_5, DL.sz_6, DL.sz_7, DL.sz_8, DL.sz_9, DL.sz_10, DL.sz_11, DL.sz_12, DL.sz_13, DL.sz_14, DL.sz_15, DL.sz_16, DL.sz_17, DL.sz_18, DL.sz_19, DL.sz_20, DL.sz_21, DL.sz_22, DL.sz_23, DL.sz_24, DL.sz_25, DL.sz_26, DL.ixN50, DL.ixN51, DL.ixN52, DL.ixN53, DL.ixN54, DL.Mu.set_same, DL.Mu.set_set, eq_self, decide_true, Bool.not_true, Bool.not_false, Bool.or_false, Bool.or_true, Bool.true_or, Bool.false_or, DL.kit_NoneType_bool, DL.kit_NoneType_int, DL.kit_NoneType_str, DL.kit_NoneType_tuple, DL.kit_NoneType_list, DL.kit_NoneType_dict, DL.kit_bool_bool, DL.kit_bool_int, DL.kit_bool_str, DL.kit_bool_tuple, DL.kit_bool_list, DL.kit_bool_dict, DL.kit_int_bool, DL.kit_int_int, DL.kit_int_str, DL.kit_int_tuple, DL.kit_int_list, DL.kit_int_dict, DL.kit_str_bool, DL.kit_str_int, DL.kit_str_str, DL.kit_str_tuple, DL.kit_str_list, DL.kit_str_dict, DL.kit_tuple_bool, DL.kit_tuple_int, DL.kit_tuple_str, DL.kit_tuple_tuple, DL.kit_tuple_list, DL.kit_tuple_dict, DL.kit_list_bool, DL.kit_list_int, DL.kit_list_str, DL.kit_list_tuple, DL.kit_list_list, DL.kit_list_dict, reduceIte, cntD_n, cntD_s, List.map_cons, List.map_nil, List.length_cons, List.length_nil, List.replicate, List.cons_append, List.nil_append, List.getElem?_cons_zero, List.getElem?_cons_succ, List.set_cons_zero, List.set_cons_succ, onSome, atI_0, atI_1, atI_2, atI_3, atI_4, w_nw, w_na, w_nh, w_ng, w_wn, w_wa, w_wh, w_wg, w_an, w_aw, w_ah, w_ag, w_hn, w_hw, w_ha, w_hg, w_gn, w_gw, w_ga, w_gh, w_self, Bool.false_eq_true, if_false, if_true, Nat.reduceAdd, Nat.reduceSub]
  refine ⟨range_ok (by omega), ?_⟩
  rw [Int.toNat_natCast, rangeD0]
  refine forW_by (fun i ρ μ' => ∃ (ps : List (List Int)) (here : List Int) (l' : List DV) (x y : Option DV), ps.length = i + 1 ∧ here.length = n ∧ (∀ c ∈ ps, c.length = n) ∧ HandOk l' ∧ μ' = Mu.set (Mu.set μ p l') a (ps.map placeD) ∧ ρ = [some (.obj p), some (.int n), some (.int m), some (placeD here), some (.obj a), x, none, y])
    ⟨[q0], q0, l1, none, none, rfl, hlen, fun c hc => by rw [List.mem_singleton.mp hc]; exact hlen, hl1, rfl, rfl⟩ ?_ ?_
  · rintro j d ρ μ' N hd ⟨ps, here, l', x, y, hps, hh, hall, hl', rfl, rfl⟩ hN
    rw [List.getElem?_map] at hd
    obtain ⟨i, hi, rfl⟩ := Option.map_eq_some_iff.mp hd
    have hj := (List.getElem?_eq_some_iff.mp hi).1
    rw [List.length_range] at hj
    have e1 : ∀ l2 l3, Mu.set (Mu.set (Mu.set μ p l2) a (ps.map placeD)) p l3 = Mu.set (Mu.set μ p l3) a (ps.map placeD) := fun l2 l3 => by
      rw [Mu.set_comm hap, Mu.set_set]
    have ep : ∀ l2, Mu.set (Mu.set μ p l2) a (ps.map placeD) p = some l2 := fun l2 => by
      rw [Mu.set_ne (Ne.symm hap), Mu.set_same]
    have fin : ∀ (h2 : List Int) (l2 : List DV) (x' y' : Option DV), h2.length = n → HandOk l2 → N [some (.obj p), some (.int n), some (.int m), some (placeD h2), some (.obj a), x', none, y'] (Mu.set (Mu.set μ p l2) a (ps.map placeD ++ [placeD h2])) := fun h2 l2 x' y' hh2 hl2 => by
      refine hN _ _ ⟨ps ++ [h2], h2, l2, x', y', by rw [List.length_append, hps]; rfl, hh2, fun c hc => ?_, hl2, by rw [List.map_append]; rfl, rfl⟩
      rcases List.mem_append.mp hc with hc | hc
      · exact hall c hc
      · rw [List.mem_singleton.mp hc]
        exact hh2
    have szp : (ps.map placeD).length < sizeLine := by
      rw [List.length_map]
      exact Nat.lt_of_lt_of_le (show ps.length < 1001 by omega) (by decide)
    simp only [DL.wSeq, DL.wAsg, DL.wOp, DL.wVar, DL.wC, DL.wIx, DL.gdName, DL.startD, wishD, DL.pv_, DL.wIfS, DL.wTest, DL.wRet, DL.wIf, DL.wCall, DL.wCons, DL.wNil, DL.wNext, DL.wEq, DL.wNe, DL.wIsN, DL.wNotN, DL.isNonD, DL.onBl, DL.wAndV, DL.wOrV, DL.wNotV, DL.wAnd, DL.wOr, DL.wNot, DL.wCB, DL.wLen, DL.wInt, DL.wAbs, DL.wMax2, DL.wMin2, DL.wTupOf, DL.wUn, DL.wU, DL.wI0, DL.wI, DL.wTup, DL.wLst, DL.wPar, DL.wPar3, DL.wDrop, DL.wSl, DL.wSlL, DL.wPart, DL.wNoPart, DL.endD, DL.wLc, DL.lcStep, DL.wipeD, DL.wYes, DL.gdTup, DL.gdCons, DL.gdNil, DL.idTup, DL.idLst, DL.idEnumL, DL.idEnumT, DL.idZip, DL.idRng1, DL.idRng2, DL.wAny, DL.wAll, DL.wChain, DL.wFor, DL.wWhile, DL.wAppend, DL.wLstM, DL.gdSub, DL.wIsi, DL.tyD, true_and, DL.sz_0, DL.sz_1, DL.sz_2, DL.sz_3, DL.sz_4, DL.sz_5, DL.sz_6, DL.sz_7, DL.sz_8, DL.sz_9, DL.sz_10, DL.sz_11, DL.sz_12, DL.sz_13, DL.sz_14, DL.sz_15, DL.sz_16, DL.sz_17, DL.sz_18, DL.sz_19, DL.sz_20, DL.sz_21, DL.sz_22, DL.sz_23, DL.sz_24, DL.sz_25, DL.sz_26, DL.ixN50, DL.ixN51, DL.ixN52, DL.ixN53, DL.ixN54, DL.Mu.set_same, DL.Mu.set_set, eq_self, decide_true, Bool.not_true, Bool.not_false, Bool.or_false, Bool.or_true, Bool.true_or, Bool.false_or, DL.kit_NoneType_bool, DL.kit_NoneType_int, DL.kit_NoneType_str, DL.kit_NoneType_tuple, DL.kit_NoneType_list, DL.kit_NoneType_dict, DL.kit_bool_bool, DL.kit_bool_int, DL.kit_bool_str, DL.kit_bool_tuple, DL.kit_bool_list, DL.kit_bool_dict, DL.kit_int_bool, DL.kit_int_int, DL.kit_int_str, DL.kit_int_tuple, DL.kit_int_list, DL.kit_int_dict, DL.kit_str_bool, DL.kit_str_int, DL.kit_str_str, DL.kit_str_tuple, DL.kit_str_list, DL.kit_str_dict, DL.kit_tuple_bool, DL.kit_tuple_int, DL.kit_tuple_str, DL.kit_tuple_tuple, DL.kit_tuple_list, DL.kit_tuple_dict, DL.kit_list_bool, DL.kit_list_int, DL.kit_list_str, DL.kit_list_tuple, DL.kit_list_list, DL.kit_list_dict, reduceIte, cntD_n, cntD_s, List.map_cons, List.map_nil, List.length_cons, List.length_nil, List.replicate, List.cons_append, List.nil_append, List.getElem?_cons_zero, List.getElem?_cons_succ, List.set_cons_zero, List.set_cons_succ, onSome, atI_0, atI_1, atI_2, atI_3, atI_4, w_nw, w_na, w_nh, w_ng, w_wn, w_wa, w_wh, w_wg, w_an, w_aw, w_ah, w_ag, w_hn, w_hw, w_ha, w_hg, w_gn, w_gw, w_ga, w_gh, w_self, Bool.false_eq_true, if_false, if_true, Nat.reduceAdd, Nat.reduceSub]
    refine ⟨p, 3, l', rfl, ep l', hl', by decide, by decide, fun v l2 hl2 h0 h1 => ?_⟩
    rw [e1]
    simp only [DL.wSeq, DL.wAsg, DL.wOp, DL.wVar, DL.wC, DL.wIx, DL.gdName, DL.startD, wishD, DL.pv_, DL.wIfS, DL.wTest, DL.wRet, DL.wIf, DL.wCall, DL.wCons, DL.wNil, DL.wNext, DL.wEq, DL.wNe, DL.wIsN, DL.wNotN, DL.isNonD, DL.onBl, DL.wAndV, DL.wOrV, DL.wNotV, DL.wAnd, DL.wOr, DL.wNot, DL.wCB, DL.wLen, DL.wInt, DL.wAbs, DL.wMax2, DL.wMin2, DL.wTupOf, DL.wUn, DL.wU, DL.wI0, DL.wI, DL.wTup, DL.wLst, DL.wPar, DL.wPar3, DL.wDrop, DL.wSl, DL.wSlL, DL.wPart, DL.wNoPart, DL.endD, DL.wLc, DL.lcStep, DL.wipeD, DL.wYes, DL.gdTup, DL.gdCons, DL.gdNil, DL.idTup, DL.idLst, DL.idEnumL, DL.idEnumT, DL.idZip, DL.idRng1, DL.idRng2, DL.wAny, DL.wAll, DL.wChain, DL.wFor, DL.wWhile, DL.wAppend, DL.wLstM, DL.gdSub, DL.wIsi, DL.tyD, true_and, DL.sz_0, DL.sz_1, DL.sz_2, DL.sz_3, DL.sz_4, DL.sz_5, DL.sz_6, DL.sz_7, DL.sz_8, DL.sz_9, DL.sz_10, DL.sz_11, DL.sz_12, DL.sz_13, DL.sz_14, DL.sz_15, DL.sz_16, DL.sz_17, DL.sz_18, DL.sz_19, DL.sz_20, DL.sz_21, DL.sz_22, DL.sz_23, DL.sz_24, DL.sz_25, DL.sz_26, DL.ixN50, DL.ixN51, DL.ixN52, DL.ixN53, DL.ixN54, DL.Mu.set_same, DL.Mu.set_set, eq_self, decide_true, Bool.not_true, Bool.not_false, Bool.or_false, Bool.or_true, Bool.true_or, Bool.false_or, DL.kit_NoneType_bool, DL.kit_NoneType_int, DL.kit_NoneType_str, DL.kit_NoneType_tuple, DL.kit_NoneType_list, DL.kit_NoneType_dict, DL.kit_bool_bool, DL.kit_bool_int, DL.kit_bool_str, DL.kit_bool_tuple, DL.kit_bool_list, DL.kit_bool_dict, DL.kit_int_bool, DL.kit_int_int, DL.kit_int_str, DL.kit_int_tuple, DL.kit_int_list, DL.kit_int_dict, DL.kit_str_bool, DL.kit_str_int, DL.kit_str_str, DL.kit_str_tuple, DL.kit_str_list, DL.kit_str_dict, DL.kit_tuple_bool, DL.kit_tuple_int, DL.kit_tuple_str, DL.kit_tuple_tuple, DL.kit_tuple_list, DL.kit_tuple_dict, DL.kit_list_bool, DL.kit_list_int, DL.kit_list_str, DL.kit_list_tuple, DL.kit_list_list, DL.kit_list_dict, reduceIte, cntD_n, cntD_s, List.map_cons, List.map_nil, List.length_cons, List.length_nil, List.replicate, List.cons_append, List.nil_append, List.getElem?_cons_zero, List.getElem?_cons_succ, List.set_cons_zero, List.set_cons_succ, onSome, atI_0, atI_1, atI_2, atI_3, atI_4, w_nw, w_na, w_nh, w_ng, w_wn, w_wa, w_wh, w_wg, w_an, w_aw, w_ah, w_ag, w_hn, w_hw, w_ha, w_hg, w_gn, w_gw, w_ga, w_gh, w_self, Bool.false_eq_true, if_false, if_true, Nat.reduceAdd, Nat.reduceSub]
    by_cases hv : 0 < v
    · rw [decide_eq_true hv, if_pos rfl]
      simp only [placeD]
      refine ⟨sz_map (by omega), fun D hD => lcW_hand (fun d => ∃ i : Int, d = .int i) HandOk hD (ep l2) hl2 (fun d hd ν l3 k hν hl3 hk => ?_) fun es l3 hlen3 hes3 hl3 => ?_⟩
      · obtain ⟨z, _, rfl⟩ := List.mem_map.mp hd
        simp only [DL.wSeq, DL.wAsg, DL.wOp, DL.wVar, DL.wC, DL.wIx, DL.gdName, DL.startD, wishD, DL.pv_, DL.wIfS, DL.wTest, DL.wRet, DL.wIf, DL.wCall, DL.wCons, DL.wNil, DL.wNext, DL.wEq, DL.wNe, DL.wIsN, DL.wNotN, DL.isNonD, DL.onBl, DL.wAndV, DL.wOrV, DL.wNotV, DL.wAnd, DL.wOr, DL.wNot, DL.wCB, DL.wLen, DL.wInt, DL.wAbs, DL.wMax2, DL.wMin2, DL.wTupOf, DL.wUn, DL.wU, DL.wI0, DL.wI, DL.wTup, DL.wLst, DL.wPar, DL.wPar3, DL.wDrop, DL.wSl, DL.wSlL, DL.wPart, DL.wNoPart, DL.endD, DL.wLc, DL.lcStep, DL.wipeD, DL.wYes, DL.gdTup, DL.gdCons, DL.gdNil, DL.idTup, DL.idLst, DL.idEnumL, DL.idEnumT, DL.idZip, DL.idRng1, DL.idRng2, DL.wAny, DL.wAll, DL.wChain, DL.wFor, DL.wWhile, DL.wAppend, DL.wLstM, DL.gdSub, DL.wIsi, DL.tyD, true_and, DL.sz_0, DL.sz_1, DL.sz_2, DL.sz_3, DL.sz_4, DL.sz_5, DL.sz_6, DL.sz_7, DL.sz_8, DL.sz_9, DL.sz_10, DL.sz_11, DL.sz_12, DL.sz_13, DL.sz_14, DL.sz_15, DL.sz_16, DL.sz_17, DL.sz_18, DL.sz_19, DL.sz_20, DL.sz_21, DL.sz_22, DL.sz_23, DL.sz_24, DL.sz_25, DL.sz_26, DL.ixN50, DL.ixN51, DL.ixN52, DL.ixN53, DL.ixN54, DL.Mu.set_same, DL.Mu.set_set, eq_self, decide_true, Bool.not_true, Bool.not_false, Bool.or_false, Bool.or_true, Bool.true_or, Bool.false_or, DL.kit_NoneType_bool, DL.kit_NoneType_int, DL.kit_NoneType_str, DL.kit_NoneType_tuple, DL.kit_NoneType_list, DL.kit_NoneType_dict, DL.kit_bool_bool, DL.kit_bool_int, DL.kit_bool_str, DL.kit_bool_tuple, DL.kit_bool_list, DL.kit_bool_dict, DL.kit_int_bool, DL.kit_int_int, DL.kit_int_str, DL.kit_int_tuple, DL.kit_int_list, DL.kit_int_dict, DL.kit_str_bool, DL.kit_str_int, DL.kit_str_str, DL.kit_str_tuple, DL.kit_str_list, DL.kit_str_dict, DL.kit_tuple_bool, DL.kit_tuple_int, DL.kit_tuple_str, DL.kit_tuple_tuple, DL.kit_tuple_list, DL.kit_tuple_dict, DL.kit_list_bool, DL.kit_list_int, DL.kit_list_str, DL.kit_list_tuple, DL.kit_list_list, DL.kit_list_dict, reduceIte, cntD_n, cntD_s, List.map_cons, List.map_nil, List.length_cons, List.length_nil, List.replicate, List.cons_append, List.nil_append, List.getElem?_cons_zero, List.getElem?_cons_succ, List.set_cons_zero, List.set_cons_succ, onSome, atI_0, atI_1, atI_2, atI_3, atI_4, w_nw, w_na, w_nh, w_ng, w_wn, w_wa, w_wh, w_wg, w_an, w_aw, w_ah, w_ag, w_hn, w_hw, w_ha, w_hg, w_gn, w_gw, w_ga, w_gh, w_self, Bool.false_eq_true, if_false, if_true, Nat.reduceAdd, Nat.reduceSub]
        refine ⟨p, 3, l3, rfl, hν, hl3, by decide, by decide, fun v l4 hl4 h0 h1 => ?_⟩
        exact hk _ l4 ⟨_, rfl⟩ hl4
      · rw [e1]
        obtain ⟨q1, rfl, hq1⟩ := ints_of hes3
        rw [List.length_map, List.length_map] at hlen3
        simp only [DL.wSeq, DL.wAsg, DL.wOp, DL.wVar, DL.wC, DL.wIx, DL.gdName, DL.startD, wishD, DL.pv_, DL.wIfS, DL.wTest, DL.wRet, DL.wIf, DL.wCall, DL.wCons, DL.wNil, DL.wNext, DL.wEq, DL.wNe, DL.wIsN, DL.wNotN, DL.isNonD, DL.onBl, DL.wAndV, DL.wOrV, DL.wNotV, DL.wAnd, DL.wOr, DL.wNot, DL.wCB, DL.wLen, DL.wInt, DL.wAbs, DL.wMax2, DL.wMin2, DL.wTupOf, DL.wUn, DL.wU, DL.wI0, DL.wI, DL.wTup, DL.wLst, DL.wPar, DL.wPar3, DL.wDrop, DL.wSl, DL.wSlL, DL.wPart, DL.wNoPart, DL.endD, DL.wLc, DL.lcStep, DL.wipeD, DL.wYes, DL.gdTup, DL.gdCons, DL.gdNil, DL.idTup, DL.idLst, DL.idEnumL, DL.idEnumT, DL.idZip, DL.idRng1, DL.idRng2, DL.wAny, DL.wAll, DL.wChain, DL.wFor, DL.wWhile, DL.wAppend, DL.wLstM, DL.gdSub, DL.wIsi, DL.tyD, true_and, DL.sz_0, DL.sz_1, DL.sz_2, DL.sz_3, DL.sz_4, DL.sz_5, DL.sz_6, DL.sz_7, DL.sz_8, DL.sz_9, DL.sz_10, DL.sz_11, DL.sz_12, DL.sz_13, DL.sz_14, DL.sz_15, DL.sz_16, DL.sz_17, DL.sz_18, DL.sz_19, DL.sz_20, DL.sz_21, DL.sz_22, DL.sz_23, DL.sz_24, DL.sz_25, DL.sz_26, DL.ixN50, DL.ixN51, DL.ixN52, DL.ixN53, DL.ixN54, DL.Mu.set_same, DL.Mu.set_set, eq_self, decide_true, Bool.not_true, Bool.not_false, Bool.or_false, Bool.or_true, Bool.true_or, Bool.false_or, DL.kit_NoneType_bool, DL.kit_NoneType_int, DL.kit_NoneType_str, DL.kit_NoneType_tuple, DL.kit_NoneType_list, DL.kit_NoneType_dict, DL.kit_bool_bool, DL.kit_bool_int, DL.kit_bool_str, DL.kit_bool_tuple, DL.kit_bool_list, DL.kit_bool_dict, DL.kit_int_bool, DL.kit_int_int, DL.kit_int_str, DL.kit_int_tuple, DL.kit_int_list, DL.kit_int_dict, DL.kit_str_bool, DL.kit_str_int, DL.kit_str_str, DL.kit_str_tuple, DL.kit_str_list, DL.kit_str_dict, DL.kit_tuple_bool, DL.kit_tuple_int, DL.kit_tuple_str, DL.kit_tuple_tuple, DL.kit_tuple_list, DL.kit_tuple_dict, DL.kit_list_bool, DL.kit_list_int, DL.kit_list_str, DL.kit_list_tuple, DL.kit_list_list, DL.kit_list_dict, reduceIte, cntD_n, cntD_s, List.map_cons, List.map_nil, List.length_cons, List.length_nil, List.replicate, List.cons_append, List.nil_append, List.getElem?_cons_zero, List.getElem?_cons_succ, List.set_cons_zero, List.set_cons_succ, onSome, atI_0, atI_1, atI_2, atI_3, atI_4, w_nw, w_na, w_nh, w_ng, w_wn, w_wa, w_wh, w_wg, w_an, w_aw, w_ah, w_ag, w_hn, w_hw, w_ha, w_hg, w_gn, w_gw, w_ga, w_gh, w_self, Bool.false_eq_true, if_false, if_true, Nat.reduceAdd, Nat.reduceSub]
        exact ⟨szp, fin q1 l3 _ _ (by omega) hl3⟩
    · rw [decide_eq_false hv, if_neg Bool.false_ne_true]
      (try simp only [DL.wSeq, DL.wAsg, DL.wOp, DL.wVar, DL.wC, DL.wIx, DL.gdName, DL.startD, wishD, DL.pv_, DL.wIfS, DL.wTest, DL.wRet, DL.wIf, DL.wCall, DL.wCons, DL.wNil, DL.wNext, DL.wEq, DL.wNe, DL.wIsN, DL.wNotN, DL.isNonD, DL.onBl, DL.wAndV, DL.wOrV, DL.wNotV, DL.wAnd, DL.wOr, DL.wNot, DL.wCB, DL.wLen, DL.wInt, DL.wAbs, DL.wMax2, DL.wMin2, DL.wTupOf, DL.wUn, DL.wU, DL.wI0, DL.wI, DL.wTup, DL.wLst, DL.wPar, DL.wPar3, DL.wDrop, DL.wSl, DL.wSlL, DL.wPart, DL.wNoPart, DL.endD, DL.wLc, DL.lcStep, DL.wipeD, DL.wYes, DL.gdTup, DL.gdCons, DL.gdNil, DL.idTup, DL.idLst, DL.idEnumL, DL.idEnumT, DL.idZip, DL.idRng1, DL.idRng2, DL.wAny, DL.wAll, DL.wChain, DL.wFor, DL.wWhile, DL.wAppend, DL.wLstM, DL.gdSub, DL.wIsi, DL.tyD, true_and, DL.sz_0, DL.sz_1, DL.sz_2, DL.sz_3, DL.sz_4, DL.sz_5, DL.sz_6, DL.sz_7, DL.sz_8, DL.sz_9, DL.sz_10, DL.sz_11, DL.sz_12, DL.sz_13, DL.sz_14, DL.sz_15, DL.sz_16, DL.sz_17, DL.sz_18, DL.sz_19, DL.sz_20, DL.sz_21, DL.sz_22, DL.sz_23, DL.sz_24, DL.sz_25, DL.sz_26, DL.ixN50, DL.ixN51, DL.ixN52, DL.ixN53, DL.ixN54, DL.Mu.set_same, DL.Mu.set_set, eq_self, decide_true, Bool.not_true, Bool.not_false, Bool.or_false, Bool.or_true, Bool.true_or, Bool.false_or, DL.kit_NoneType_bool, DL.kit_NoneType_int, DL.kit_NoneType_str, DL.kit_NoneType_tuple, DL.kit_NoneType_list, DL.kit_NoneType_dict, DL.kit_bool_bool, DL.kit_bool_int, DL.kit_bool_str, DL.kit_bool_tuple, DL.kit_bool_list, DL.kit_bool_dict, DL.kit_int_bool, DL.kit_int_int, DL.kit_int_str, DL.kit_int_tuple, DL.kit_int_list, DL.kit_int_dict, DL.kit_str_bool, DL.kit_str_int, DL.kit_str_str, DL.kit_str_tuple, DL.kit_str_list, DL.kit_str_dict, DL.kit_tuple_bool, DL.kit_tuple_int, DL.kit_tuple_str, DL.kit_tuple_tuple, DL.kit_tuple_list, DL.kit_tuple_dict, DL.kit_list_bool, DL.kit_list_int, DL.kit_list_str, DL.kit_list_tuple, DL.kit_list_list, DL.kit_list_dict, reduceIte, cntD_n, cntD_s, List.map_cons, List.map_nil, List.length_cons, List.length_nil, List.replicate, List.cons_append, List.nil_append, List.getElem?_cons_zero, List.getElem?_cons_succ, List.set_cons_zero, List.set_cons_succ, onSome, atI_0, atI_1, atI_2, atI_3, atI_4, w_nw, w_na, w_nh, w_ng, w_wn, w_wa, w_wh, w_wg, w_an, w_aw, w_ah, w_ag, w_hn, w_hw, w_ha, w_hg, w_gn, w_gw, w_ga, w_gh, w_self, Bool.false_eq_true, if_false, if_true, Nat.reduceAdd, Nat.reduceSub])
      exact ⟨szp, fin here l2 _ _ hh hl2⟩
  · rintro ρ μ' ⟨ps, here, l', x, y, hps, hh, hall, hl', rfl, rfl⟩
    rw [List.length_map, List.length_range] at hps
    unfold w_u_law_places_3
    simp only [DL.wSeq, DL.wAsg, DL.wOp, DL.wVar, DL.wC, DL.wIx, DL.gdName, DL.startD, wishD, DL.pv_, DL.wIfS, DL.wTest, DL.wRet, DL.wIf, DL.wCall, DL.wCons, DL.wNil, DL.wNext, DL.wEq, DL.wNe, DL.wIsN, DL.wNotN, DL.isNonD, DL.onBl, DL.wAndV, DL.wOrV, DL.wNotV, DL.wAnd, DL.wOr, DL.wNot, DL.wCB, DL.wLen, DL.wInt, DL.wAbs, DL.wMax2, DL.wMin2, DL.wTupOf, DL.wUn, DL.wU, DL.wI0, DL.wI, DL.wTup, DL.wLst, DL.wPar, DL.wPar3, DL.wDrop, DL.wSl, DL.wSlL, DL.wPart, DL.wNoPart, DL.endD, DL.wLc, DL.lcStep, DL.wipeD, DL.wYes, DL.gdTup, DL.gdCons, DL.gdNil, DL.idTup, DL.idLst, DL.idEnumL, DL.idEnumT, DL.idZip, DL.idRng1, DL.idRng2, DL.wAny, DL.wAll, DL.wChain, DL.wFor, DL.wWhile, DL.wAppend, DL.wLstM, DL.gdSub, DL.wIsi, DL.tyD, true_and, DL.sz_0, DL.sz_1, DL.sz_2, DL.sz_3, DL.sz_4, DL.sz_5, DL.sz_6, DL.sz_7, DL.sz_8, DL.sz_9, DL.sz_10, DL.sz_11, DL.sz_12, DL.sz_13, DL.sz_14, DL.sz_15, DL.sz_16, DL.sz_17, DL.sz_18, DL.sz_19, DL.sz_20, DL.sz_21, DL.sz_22, DL.sz_23, DL.sz_24, DL.sz_25, DL.sz_26, DL.ixN50, DL.ixN51, DL.ixN52, DL.ixN53, DL.ixN54, DL.Mu.set_same, DL.Mu.set_set, eq_self, decide_true, Bool.not_true, Bool.not_false, Bool.or_false, Bool.or_true, Bool.true_or, Bool.false_or, DL.kit_NoneType_bool, DL.kit_NoneType_int, DL.kit_NoneType_str, DL.kit_NoneType_tuple, DL.kit_NoneType_list, DL.kit_NoneType_dict, DL.kit_bool_bool, DL.kit_bool_int, DL.kit_bool_str, DL.kit_bool_tuple, DL.kit_bool_list, DL.kit_bool_dict, DL.kit_int_bool, DL.kit_int_int, DL.kit_int_str, DL.kit_int_tuple, DL.kit_int_list, DL.kit_int_dict, DL.kit_str_bool, DL.kit_str_int, DL.kit_str_str, DL.kit_str_tuple, DL.kit_str_list, DL.kit_str_dict, DL.kit_tuple_bool, DL.kit_tuple_int, DL.kit_tuple_str, DL.kit_tuple_tuple, DL.kit_tuple_list, DL.kit_tuple_dict, DL.kit_list_bool, DL.kit_list_int, DL.kit_list_str, DL.kit_list_tuple, DL.kit_list_list, DL.kit_list_dict, reduceIte, cntD_n, cntD_s, List.map_cons, List.map_nil, List.length_cons, List.length_nil, List.replicate, List.cons_append, List.nil_append, List.getElem?_cons_zero, List.getElem?_cons_succ, List.set_cons_zero, List.set_cons_succ, onSome, atI_0, atI_1, atI_2, atI_3, atI_4, w_nw, w_na, w_nh, w_ng, w_wn, w_wa, w_wh, w_wg, w_an, w_aw, w_ah, w_ag, w_hn, w_hw, w_ha, w_hg, w_gn, w_gw, w_ga, w_gh, w_self, Bool.false_eq_true, if_false, if_true, Nat.reduceAdd, Nat.reduceSub]
    refine .inr ⟨a, ps.map placeD, Mu.set μ p l', rfl, Mu.set_same, ?_, q ps l' hps ⟨by omega, hall⟩ hl'⟩
    rw [Mu.del_set (by rw [Mu.set_ne hap]; exact ha')]
    exact Sub.refl _
theorem wishes_of {n : Nat} : ∀ {es : List DV}, (∀ d ∈ es, ∃ w : Wish, d = wishD w ∧ WishOk n w) → ∃ ws : List Wish, es = ws.map wishD ∧ ws.length = es.length ∧ ∀ w ∈ ws, WishOk n w
  | [], _ => ⟨[], rfl, rfl, fun _ h => by cases h⟩
  | d :: es, h => by
    obtain ⟨b, rfl, hb⟩ := h d List.mem_cons_self
    obtain ⟨a, rfl, ha, hb2⟩ := wishes_of fun d' hd' => h d' (List.mem_cons_of_mem _ hd')
    refine ⟨b :: a, rfl, by simp, fun c hc => ?_⟩
    rcases List.mem_cons.mp hc with rfl | hc
    · exact hb
    · exact hb2 c hc
theorem r_law : ∀ ds μ Q, s_law ds μ Q → w_law (endD Q) (startD 6 ds) μ := by
  rintro ds μ Q ⟨ns, rfl, hns, hμ0, q⟩
  unfold w_law
  have hs : startD 6 [lstI ns] = [some (lstI ns), none, none, none, none, none] := rfl
  rw [hs]
  simp only [DL.wSeq]
  unfold w_law_0
  simp only [DL.wSeq, DL.wAsg, DL.wOp, DL.wVar, DL.wC, DL.wIx, DL.gdName, DL.startD, wishD, DL.pv_, DL.wIfS, DL.wTest, DL.wRet, DL.wIf, DL.wCall, DL.wCons, DL.wNil, DL.wNext, DL.wEq, DL.wNe, DL.wIsN, DL.wNotN, DL.isNonD, DL.onBl, DL.wAndV, DL.wOrV, DL.wNotV, DL.wAnd, DL.wOr, DL.wNot, DL.wCB, DL.wLen, DL.wInt, DL.wAbs, DL.wMax2, DL.wMin2, DL.wTupOf, DL.wUn, DL.wU, DL.wI0, DL.wI, DL.wTup, DL.wLst, DL.wPar, DL.wPar3, DL.wDrop, DL.wSl, DL.wSlL, DL.wPart, DL.wNoPart, DL.endD, DL.wLc, DL.lcStep, DL.wipeD, DL.wYes, DL.gdTup, DL.gdCons, DL.gdNil, DL.idTup, DL.idLst, DL.idEnumL, DL.idEnumT, DL.idZip, DL.idRng1, DL.idRng2, DL.wAny, DL.wAll, DL.wChain, DL.wFor, DL.wWhile, DL.wAppend, DL.wLstM, DL.gdSub, DL.wIsi, DL.tyD, true_and, DL.sz_0, DL.sz_1, DL.sz_2, DL.sz_3, DL.sz_4, DL.sz_5, DL.sz_6, DL.sz_7, DL.sz_8, DL.sz_9, DL.sz_10, DL.sz_11, DL.sz_12, DL.sz_13, DL.sz_14, DL.sz_15, DL.sz_16, DL.sz_17, DL.sz_18, DL.sz_19, DL.sz_20, DL.sz_21, DL.sz_22, DL.sz_23, DL.sz_24, DL.sz_25, DL.sz_26, DL.ixN50, DL.ixN51, DL.ixN52, DL.ixN53, DL.ixN54, DL.Mu.set_same, DL.Mu.set_set, eq_self, decide_true, Bool.not_true, Bool.not_false, Bool.or_false, Bool.or_true, Bool.true_or, Bool.false_or, DL.kit_NoneType_bool, DL.kit_NoneType_int, DL.kit_NoneType_str, DL.kit_NoneType_tuple, DL.kit_NoneType_list, DL.kit_NoneType_dict, DL.kit_bool_bool, DL.kit_bool_int, DL.kit_bool_str, DL.kit_bool_tuple, DL.kit_bool_list, DL.kit_bool_dict, DL.kit_int_bool, DL.kit_int_int, DL.kit_int_str, DL.kit_int_tuple, DL.kit_int_list, DL.kit_int_dict, DL.kit_str_bool, DL.kit_str_int, DL.kit_str_str, DL.kit_str_tuple, DL.kit_str_list, DL.kit_str_dict, DL.kit_tuple_bool, DL.kit_tuple_int, DL.kit_tuple_str, DL.kit_tuple_tuple, DL.kit_tuple_list, DL.kit_tuple_dict, DL.kit_list_bool, DL.kit_list_int, DL.kit_list_str, DL.kit_list_tuple, DL.kit_list_list, DL.kit_list_dict, reduceIte, cntD_n, cntD_s, List.map_cons, List.map_nil, List.length_cons, List.length_nil, List.replicate, List.cons_append, List.nil_append, List.getElem?_cons_zero, List.getElem?_cons_succ, List.set_cons_zero, List.set_cons_succ, onSome, atI_0, atI_1, atI_2, atI_3, atI_4, w_nw, w_na, w_nh, w_ng, w_wn, w_wa, w_wh, w_wg, w_an, w_aw, w_ah, w_ag, w_hn, w_hw, w_ha, w_hg, w_gn, w_gw, w_ga, w_gh, w_self, Bool.false_eq_true, if_false, if_true, Nat.reduceAdd, Nat.reduceSub]
  refine ⟨ns, rfl, hns, fun p l hp hl => ?_⟩
  unfold w_law_1
  simp only [DL.wSeq, DL.wAsg, DL.wOp, DL.wVar, DL.wC, DL.wIx, DL.gdName, DL.startD, wishD, DL.pv_, DL.wIfS, DL.wTest, DL.wRet, DL.wIf, DL.wCall, DL.wCons, DL.wNil, DL.wNext, DL.wEq, DL.wNe, DL.wIsN, DL.wNotN, DL.isNonD, DL.onBl, DL.wAndV, DL.wOrV, DL.wNotV, DL.wAnd, DL.wOr, DL.wNot, DL.wCB, DL.wLen, DL.wInt, DL.wAbs, DL.wMax2, DL.wMin2, DL.wTupOf, DL.wUn, DL.wU, DL.wI0, DL.wI, DL.wTup, DL.wLst, DL.wPar, DL.wPar3, DL.wDrop, DL.wSl, DL.wSlL, DL.wPart, DL.wNoPart, DL.endD, DL.wLc, DL.lcStep, DL.wipeD, DL.wYes, DL.gdTup, DL.gdCons, DL.gdNil, DL.idTup, DL.idLst, DL.idEnumL, DL.idEnumT, DL.idZip, DL.idRng1, DL.idRng2, DL.wAny, DL.wAll, DL.wChain, DL.wFor, DL.wWhile, DL.wAppend, DL.wLstM, DL.gdSub, DL.wIsi, DL.tyD, true_and, DL.sz_0, DL.sz_1, DL.sz_2, DL.sz_3, DL.sz_4, DL.sz_5, DL.sz_6, DL.sz_7, DL.sz_8, DL.sz_9, DL.sz_10, DL.sz_11, DL.sz_12, DL.sz_13, DL.sz_14, DL.sz_15, DL.sz_16, DL.sz_17, DL.sz_18, DL.sz_19, DL.sz_20, DL.sz_21, DL.sz_22, DL.sz_23, DL.sz_24, DL.sz_25, DL.sz_26, DL.ixN50, DL.ixN51, DL.ixN52, DL.ixN53, DL.ixN54, DL.Mu.set_same, DL.Mu.set_set, eq_self, decide_true, Bool.not_true, Bool.not_false, Bool.or_false, Bool.or_true, Bool.true_or, Bool.false_or, DL.kit_NoneType_bool, DL.kit_NoneType_int, DL.kit_NoneType_str, DL.kit_NoneType_tuple, DL.kit_NoneType_list, DL.kit_NoneType_dict, DL.kit_bool_bool, DL.kit_bool_int, DL.kit_bool_str, DL.kit_bool_tuple, DL.kit_bool_list, DL.kit_bool_dict, DL.kit_int_bool, DL.kit_int_int, DL.kit_int_str, DL.kit_int_tuple, DL.kit_int_list, DL.kit_int_dict, DL.kit_str_bool, DL.kit_str_int, DL.kit_str_str, DL.kit_str_tuple, DL.kit_str_list, DL.kit_str_dict, DL.kit_tuple_bool, DL.kit_tuple_int, DL.kit_tuple_str, DL.kit_tuple_tuple, DL.kit_tuple_list, DL.kit_tuple_dict, DL.kit_list_bool, DL.kit_list_int, DL.kit_list_str, DL.kit_list_tuple, DL.kit_list_list, DL.kit_list_dict, reduceIte, cntD_n, cntD_s, List.map_cons, List.map_nil, List.length_cons, List.length_nil, List.replicate, List.cons_append, List.nil_append, List.getElem?_cons_zero, List.getElem?_cons_succ, List.set_cons_zero, List.set_cons_succ, onSome, atI_0, atI_1, atI_2, atI_3, atI_4, w_nw, w_na, w_nh, w_ng, w_wn, w_wa, w_wh, w_wg, w_an, w_aw, w_ah, w_ag, w_hn, w_hw, w_ha, w_hg, w_gn, w_gw, w_ga, w_gh, w_self, Bool.false_eq_true, if_false, if_true, Nat.reduceAdd, Nat.reduceSub]
  refine ⟨rfl, ?_⟩
  simp only [DL.wSeq, DL.wAsg, DL.wOp, DL.wVar, DL.wC, DL.wIx, DL.gdName, DL.startD, wishD, DL.pv_, DL.wIfS, DL.wTest, DL.wRet, DL.wIf, DL.wCall, DL.wCons, DL.wNil, DL.wNext, DL.wEq, DL.wNe, DL.wIsN, DL.wNotN, DL.isNonD, DL.onBl, DL.wAndV, DL.wOrV, DL.wNotV, DL.wAnd, DL.wOr, DL.wNot, DL.wCB, DL.wLen, DL.wInt, DL.wAbs, DL.wMax2, DL.wMin2, DL.wTupOf, DL.wUn, DL.wU, DL.wI0, DL.wI, DL.wTup, DL.wLst, DL.wPar, DL.wPar3, DL.wDrop, DL.wSl, DL.wSlL, DL.wPart, DL.wNoPart, DL.endD, DL.wLc, DL.lcStep, DL.wipeD, DL.wYes, DL.gdTup, DL.gdCons, DL.gdNil, DL.idTup, DL.idLst, DL.idEnumL, DL.idEnumT, DL.idZip, DL.idRng1, DL.idRng2, DL.wAny, DL.wAll, DL.wChain, DL.wFor, DL.wWhile, DL.wAppend, DL.wLstM, DL.gdSub, DL.wIsi, DL.tyD, true_and, DL.sz_0, DL.sz_1, DL.sz_2, DL.sz_3, DL.sz_4, DL.sz_5, DL.sz_6, DL.sz_7, DL.sz_8, DL.sz_9, DL.sz_10, DL.sz_11, DL.sz_12, DL.sz_13, DL.sz_14, DL.sz_15, DL.sz_16, DL.sz_17, DL.sz_18, DL.sz_19, DL.sz_20, DL.sz_21, DL.sz_22, DL.sz_23, DL.sz_24, DL.sz_25, DL.sz_26, DL.ixN50, DL.ixN51, DL.ixN52, DL.ixN53, DL.ixN54, DL.Mu.set_same, DL.Mu.set_set, eq_self, decide_true, Bool.not_true, Bool.not_false, Bool.or_false, Bool.or_true, Bool.true_or, Bool.false_or, DL.kit_NoneType_bool, DL.kit_NoneType_int, DL.kit_NoneType_str, DL.kit_NoneType_tuple, DL.kit_NoneType_list, DL.kit_NoneType_dict, DL.kit_bool_bool, DL.kit_bool_int, DL.kit_bool_str, DL.kit_bool_tuple, DL.kit_bool_list, DL.kit_bool_dict, DL.kit_int_bool, DL.kit_int_int, DL.kit_int_str, DL.kit_int_tuple, DL.kit_int_list, DL.kit_int_dict, DL.kit_str_bool, DL.kit_str_int, DL.kit_str_str, DL.kit_str_tuple, DL.kit_str_list, DL.kit_str_dict, DL.kit_tuple_bool, DL.kit_tuple_int, DL.kit_tuple_str, DL.kit_tuple_tuple, DL.kit_tuple_list, DL.kit_tuple_dict, DL.kit_list_bool, DL.kit_list_int, DL.kit_list_str, DL.kit_list_tuple, DL.kit_list_list, DL.kit_list_dict, reduceIte, cntD_n, cntD_s, List.map_cons, List.map_nil, List.length_cons, List.length_nil, List.replicate, List.cons_append, List.nil_append, List.getElem?_cons_zero, List.getElem?_cons_succ, List.set_cons_zero, List.set_cons_succ, onSome, atI_0, atI_1, atI_2, atI_3, atI_4, w_nw, w_na, w_nh, w_ng, w_wn, w_wa, w_wh, w_wg, w_an, w_aw, w_ah, w_ag, w_hn, w_hw, w_ha, w_hg, w_gn, w_gw, w_ga, w_gh, w_self, Bool.false_eq_true, if_false, if_true, Nat.reduceAdd, Nat.reduceSub]
  unfold w_law_2
  simp only [DL.wSeq, DL.wAsg, DL.wOp, DL.wVar, DL.wC, DL.wIx, DL.gdName, DL.startD, wishD, DL.pv_, DL.wIfS, DL.wTest, DL.wRet, DL.wIf, DL.wCall, DL.wCons, DL.wNil, DL.wNext, DL.wEq, DL.wNe, DL.wIsN, DL.wNotN, DL.isNonD, DL.onBl, DL.wAndV, DL.wOrV, DL.wNotV, DL.wAnd, DL.wOr, DL.wNot, DL.wCB, DL.wLen, DL.wInt, DL.wAbs, DL.wMax2, DL.wMin2, DL.wTupOf, DL.wUn, DL.wU, DL.wI0, DL.wI, DL.wTup, DL.wLst, DL.wPar, DL.wPar3, DL.wDrop, DL.wSl, DL.wSlL, DL.wPart, DL.wNoPart, DL.endD, DL.wLc, DL.lcStep, DL.wipeD, DL.wYes, DL.gdTup, DL.gdCons, DL.gdNil, DL.idTup, DL.idLst, DL.idEnumL, DL.idEnumT, DL.idZip, DL.idRng1, DL.idRng2, DL.wAny, DL.wAll, DL.wChain, DL.wFor, DL.wWhile, DL.wAppend, DL.wLstM, DL.gdSub, DL.wIsi, DL.tyD, true_and, DL.sz_0, DL.sz_1, DL.sz_2, DL.sz_3, DL.sz_4, DL.sz_5, DL.sz_6, DL.sz_7, DL.sz_8, DL.sz_9, DL.sz_10, DL.sz_11, DL.sz_12, DL.sz_13, DL.sz_14, DL.sz_15, DL.sz_16, DL.sz_17, DL.sz_18, DL.sz_19, DL.sz_20, DL.sz_21, DL.sz_22, DL.sz_23, DL.sz_24, DL.sz_25, DL.sz_26, DL.ixN50, DL.ixN51, DL.ixN52, DL.ixN53, DL.ixN54, DL.Mu.set_same, DL.Mu.set_set, eq_self, decide_true, Bool.not_true, Bool.not_false, Bool.or_false, Bool.or_true, Bool.true_or, Bool.false_or, DL.kit_NoneType_bool, DL.kit_NoneType_int, DL.kit_NoneType_str, DL.kit_NoneType_tuple, DL.kit_NoneType_list, DL.kit_NoneType_dict, DL.kit_bool_bool, DL.kit_bool_int, DL.kit_bool_str, DL.kit_bool_tuple, DL.kit_bool_list, DL.kit_bool_dict, DL.kit_int_bool, DL.kit_int_int, DL.kit_int_str, DL.kit_int_tuple, DL.kit_int_list, DL.kit_int_dict, DL.kit_str_bool, DL.kit_str_int, DL.kit_str_str, DL.kit_str_tuple, DL.kit_str_list, DL.kit_str_dict, DL.kit_tuple_bool, DL.kit_tuple_int, DL.kit_tuple_str, DL.kit_tuple_tuple, DL.kit_tuple_list, DL.kit_tuple_dict, DL.kit_list_bool, DL.kit_list_int, DL.kit_list_str, DL.kit_list_tuple, DL.kit_list_list, DL.kit_list_dict, reduceIte, cntD_n, cntD_s, List.map_cons, List.map_nil, List.length_cons, List.length_nil, List.replicate, List.cons_append, List.nil_append, List.getElem?_cons_zero, List.getElem?_cons_succ, List.set_cons_zero, List.set_cons_succ, onSome, atI_0, atI_1, atI_2, atI_3, atI_4, w_nw, w_na, w_nh, w_ng, w_wn, w_wa, w_wh, w_wg, w_an, w_aw, w_ah, w_ag, w_hn, w_hw, w_ha, w_hg, w_gn, w_gw, w_ga, w_gh, w_self, Bool.false_eq_true, if_false, if_true, Nat.reduceAdd, Nat.reduceSub]
  refine ⟨by decide, ?_⟩
  refine forW_by (fun i ρ μ' => ∃ (l' : List DV) (x y z u : Option DV), HandOk l' ∧ μ' = Mu.set μ p l' ∧ ρ = [some (lstI ns), some (.obj p), x, y, z, u]) ⟨l, none, none, none, none, hl, rfl, rfl⟩ ?_ ?_
  · rintro j d ρ μ' N hd ⟨l', x, y, z, u, hl', rfl, rfl⟩ hN
    simp only [DL.wSeq, DL.wAsg, DL.wOp, DL.wVar, DL.wC, DL.wIx, DL.gdName, DL.startD, wishD, DL.pv_, DL.wIfS, DL.wTest, DL.wRet, DL.wIf, DL.wCall, DL.wCons, DL.wNil, DL.wNext, DL.wEq, DL.wNe, DL.wIsN, DL.wNotN, DL.isNonD, DL.onBl, DL.wAndV, DL.wOrV, DL.wNotV, DL.wAnd, DL.wOr, DL.wNot, DL.wCB, DL.wLen, DL.wInt, DL.wAbs, DL.wMax2, DL.wMin2, DL.wTupOf, DL.wUn, DL.wU, DL.wI0, DL.wI, DL.wTup, DL.wLst, DL.wPar, DL.wPar3, DL.wDrop, DL.wSl, DL.wSlL, DL.wPart, DL.wNoPart, DL.endD, DL.wLc, DL.lcStep, DL.wipeD, DL.wYes, DL.gdTup, DL.gdCons, DL.gdNil, DL.idTup, DL.idLst, DL.idEnumL, DL.idEnumT, DL.idZip, DL.idRng1, DL.idRng2, DL.wAny, DL.wAll, DL.wChain, DL.wFor, DL.wWhile, DL.wAppend, DL.wLstM, DL.gdSub, DL.wIsi, DL.tyD, true_and, DL.sz_0, DL.sz_1, DL.sz_2, DL.sz_3, DL.sz_4, DL.sz_5, DL.sz_6, DL.sz_7, DL.sz_8, DL.sz_9, DL.sz_10, DL.sz_11, DL.sz_12, DL.sz_13, DL.sz_14, DL.sz_15, DL.sz_16, DL.sz_17, DL.sz_18, DL.sz_19, DL.sz_20, DL.sz_21, DL.sz_22, DL.sz_23, DL.sz_24, DL.sz_25, DL.sz_26, DL.ixN50, DL.ixN51, DL.ixN52, DL.ixN53, DL.ixN54, DL.Mu.set_same, DL.Mu.set_set, eq_self, decide_true, Bool.not_true, Bool.not_false, Bool.or_false, Bool.or_true, Bool.true_or, Bool.false_or, DL.kit_NoneType_bool, DL.kit_NoneType_int, DL.kit_NoneType_str, DL.kit_NoneType_tuple, DL.kit_NoneType_list, DL.kit_NoneType_dict, DL.kit_bool_bool, DL.kit_bool_int, DL.kit_bool_str, DL.kit_bool_tuple, DL.kit_bool_list, DL.kit_bool_dict, DL.kit_int_bool, DL.kit_int_int, DL.kit_int_str, DL.kit_int_tuple, DL.kit_int_list, DL.kit_int_dict, DL.kit_str_bool, DL.kit_str_int, DL.kit_str_str, DL.kit_str_tuple, DL.kit_str_list, DL.kit_str_dict, DL.kit_tuple_bool, DL.kit_tuple_int, DL.kit_tuple_str, DL.kit_tuple_tuple, DL.kit_tuple_list, DL.kit_tuple_dict, DL.kit_list_bool, DL.kit_list_int, DL.kit_list_str, DL.kit_list_tuple, DL.kit_list_list, DL.kit_list_dict, reduceIte, cntD_n, cntD_s, List.map_cons, List.map_nil, List.length_cons, List.length_nil, List.replicate, List.cons_append, List.nil_append, List.getElem?_cons_zero, List.getElem?_cons_succ, List.set_cons_zero, List.set_cons_succ, onSome, atI_0, atI_1, atI_2, atI_3, atI_4, w_nw, w_na, w_nh, w_ng, w_wn, w_wa, w_wh, w_wg, w_an, w_aw, w_ah, w_ag, w_hn, w_hw, w_ha, w_hg, w_gn, w_gw, w_ga, w_gh, w_self, Bool.false_eq_true, if_false, if_true, Nat.reduceAdd, Nat.reduceSub]
    refine ⟨p, 3, l', rfl, Mu.set_same, hl', by decide, by decide, fun v l1 hl1 h0 h1 => ?_⟩
    rw [Mu.set_set]
    obtain ⟨n, rfl⟩ : ∃ n : Nat, v = n := ⟨v.toNat, by omega⟩
    simp only [DL.wSeq, DL.wAsg, DL.wOp, DL.wVar, DL.wC, DL.wIx, DL.gdName, DL.startD, wishD, DL.pv_, DL.wIfS, DL.wTest, DL.wRet, DL.wIf, DL.wCall, DL.wCons, DL.wNil, DL.wNext, DL.wEq, DL.wNe, DL.wIsN, DL.wNotN, DL.isNonD, DL.onBl, DL.wAndV, DL.wOrV, DL.wNotV, DL.wAnd, DL.wOr, DL.wNot, DL.wCB, DL.wLen, DL.wInt, DL.wAbs, DL.wMax2, DL.wMin2, DL.wTupOf, DL.wUn, DL.wU, DL.wI0, DL.wI, DL.wTup, DL.wLst, DL.wPar, DL.wPar3, DL.wDrop, DL.wSl, DL.wSlL, DL.wPart, DL.wNoPart, DL.endD, DL.wLc, DL.lcStep, DL.wipeD, DL.wYes, DL.gdTup, DL.gdCons, DL.gdNil, DL.idTup, DL.idLst, DL.idEnumL, DL.idEnumT, DL.idZip, DL.idRng1, DL.idRng2, DL.wAny, DL.wAll, DL.wChain, DL.wFor, DL.wWhile, DL.wAppend, DL.wLstM, DL.gdSub, DL.wIsi, DL.tyD, true_and, DL.sz_0, DL.sz_1, DL.sz_2, DL.sz_3, DL.sz_4, DL.sz_5, DL.sz_6, DL.sz_7, DL.sz_8, DL.sz_9, DL.sz_10, DL.sz_11, DL.sz_12, DL.sz_13, DL.sz_14, DL.sz_15, DL.sz_16, DL.sz_17, DL.sz_18, DL.sz_19, DL.sz_20, DL.sz_21, DL.sz_22, DL.sz_23, DL.sz_24, DL.sz_25, DL.sz_26, DL.ixN50, DL.ixN51, DL.ixN52, DL.ixN53, DL.ixN54, DL.Mu.set_same, DL.Mu.set_set, eq_self, decide_true, Bool.not_true, Bool.not_false, Bool.or_false, Bool.or_true, Bool.true_or, Bool.false_or, DL.kit_NoneType_bool, DL.kit_NoneType_int, DL.kit_NoneType_str, DL.kit_NoneType_tuple, DL.kit_NoneType_list, DL.kit_NoneType_dict, DL.kit_bool_bool, DL.kit_bool_int, DL.kit_bool_str, DL.kit_bool_tuple, DL.kit_bool_list, DL.kit_bool_dict, DL.kit_int_bool, DL.kit_int_int, DL.kit_int_str, DL.kit_int_tuple, DL.kit_int_list, DL.kit_int_dict, DL.kit_str_bool, DL.kit_str_int, DL.kit_str_str, DL.kit_str_tuple, DL.kit_str_list, DL.kit_str_dict, DL.kit_tuple_bool, DL.kit_tuple_int, DL.kit_tuple_str, DL.kit_tuple_tuple, DL.kit_tuple_list, DL.kit_tuple_dict, DL.kit_list_bool, DL.kit_list_int, DL.kit_list_str, DL.kit_list_tuple, DL.kit_list_list, DL.kit_list_dict, reduceIte, cntD_n, cntD_s, List.map_cons, List.map_nil, List.length_cons, List.length_nil, List.replicate, List.cons_append, List.nil_append, List.getElem?_cons_zero, List.getElem?_cons_succ, List.set_cons_zero, List.set_cons_succ, onSome, atI_0, atI_1, atI_2, atI_3, atI_4, w_nw, w_na, w_nh, w_ng, w_wn, w_wa, w_wh, w_wg, w_an, w_aw, w_ah, w_ag, w_hn, w_hw, w_ha, w_hg, w_gn, w_gw, w_ga, w_gh, w_self, Bool.false_eq_true, if_false, if_true, Nat.reduceAdd, Nat.reduceSub]
    rw [show (1 : Int) + ((n : Nat) : Int) = ((n + 1 : Nat) : Int) by omega]
    refine ⟨p, _, l1, rfl, Mu.set_same, hl1, by decide, by decide, fun d l2 hd hl2 => ?_⟩
    rw [Mu.set_set]
    have hint : ∃ k : Nat, d = .int ((k : Nat) : Int) ∧ k ≤ 4 := by
      simp only [List.mem_cons, List.not_mem_nil, or_false] at hd
      rcases hd with e | e | e
      · exact ⟨1, e, by decide⟩
      · exact ⟨2, e, by decide⟩
      · exact ⟨4, e, by decide⟩
    obtain ⟨k, rfl, hk⟩ := hint
    simp only [DL.wSeq, DL.wAsg, DL.wOp, DL.wVar, DL.wC, DL.wIx, DL.gdName, DL.startD, wishD, DL.pv_, DL.wIfS, DL.wTest, DL.wRet, DL.wIf, DL.wCall, DL.wCons, DL.wNil, DL.wNext, DL.wEq, DL.wNe, DL.wIsN, DL.wNotN, DL.isNonD, DL.onBl, DL.wAndV, DL.wOrV, DL.wNotV, DL.wAnd, DL.wOr, DL.wNot, DL.wCB, DL.wLen, DL.wInt, DL.wAbs, DL.wMax2, DL.wMin2, DL.wTupOf, DL.wUn, DL.wU, DL.wI0, DL.wI, DL.wTup, DL.wLst, DL.wPar, DL.wPar3, DL.wDrop, DL.wSl, DL.wSlL, DL.wPart, DL.wNoPart, DL.endD, DL.wLc, DL.lcStep, DL.wipeD, DL.wYes, DL.gdTup, DL.gdCons, DL.gdNil, DL.idTup, DL.idLst, DL.idEnumL, DL.idEnumT, DL.idZip, DL.idRng1, DL.idRng2, DL.wAny, DL.wAll, DL.wChain, DL.wFor, DL.wWhile, DL.wAppend, DL.wLstM, DL.gdSub, DL.wIsi, DL.tyD, true_and, DL.sz_0, DL.sz_1, DL.sz_2, DL.sz_3, DL.sz_4, DL.sz_5, DL.sz_6, DL.sz_7, DL.sz_8, DL.sz_9, DL.sz_10, DL.sz_11, DL.sz_12, DL.sz_13, DL.sz_14, DL.sz_15, DL.sz_16, DL.sz_17, DL.sz_18, DL.sz_19, DL.sz_20, DL.sz_21, DL.sz_22, DL.sz_23, DL.sz_24, DL.sz_25, DL.sz_26, DL.ixN50, DL.ixN51, DL.ixN52, DL.ixN53, DL.ixN54, DL.Mu.set_same, DL.Mu.set_set, eq_self, decide_true, Bool.not_true, Bool.not_false, Bool.or_false, Bool.or_true, Bool.true_or, Bool.false_or, DL.kit_NoneType_bool, DL.kit_NoneType_int, DL.kit_NoneType_str, DL.kit_NoneType_tuple, DL.kit_NoneType_list, DL.kit_NoneType_dict, DL.kit_bool_bool, DL.kit_bool_int, DL.kit_bool_str, DL.kit_bool_tuple, DL.kit_bool_list, DL.kit_bool_dict, DL.kit_int_bool, DL.kit_int_int, DL.kit_int_str, DL.kit_int_tuple, DL.kit_int_list, DL.kit_int_dict, DL.kit_str_bool, DL.kit_str_int, DL.kit_str_str, DL.kit_str_tuple, DL.kit_str_list, DL.kit_str_dict, DL.kit_tuple_bool, DL.kit_tuple_int, DL.kit_tuple_str, DL.kit_tuple_tuple, DL.kit_tuple_list, DL.kit_tuple_dict, DL.kit_list_bool, DL.kit_list_int, DL.kit_list_str, DL.kit_list_tuple, DL.kit_list_list, DL.kit_list_dict, reduceIte, cntD_n, cntD_s, List.map_cons, List.map_nil, List.length_cons, List.length_nil, List.replicate, List.cons_append, List.nil_append, List.getElem?_cons_zero, List.getElem?_cons_succ, List.set_cons_zero, List.set_cons_succ, onSome, atI_0, atI_1, atI_2, atI_3, atI_4, w_nw, w_na, w_nh, w_ng, w_wn, w_wa, w_wh, w_wg, w_an, w_aw, w_ah, w_ag, w_hn, w_hw, w_ha, w_hg, w_gn, w_gw, w_ga, w_gh, w_self, Bool.false_eq_true, if_false, if_true, Nat.reduceAdd, Nat.reduceSub]
    refine ⟨range_ok (by omega), ?_⟩
    rw [Int.toNat_natCast, rangeD0]
    refine ⟨by rw [List.length_map, List.length_range]; exact sz_le (by omega), fun D hD => lcW_hand (fun d => ∃ w : Wish, d = wishD w ∧ WishOk (n + 1) w) HandOk hD Mu.set_same hl2 (fun d hd ν l3 k hν hl3 hk => ?_) fun es l3 hlen hes hl3 => ?_⟩
    · simp only [DL.wSeq, DL.wAsg, DL.wOp, DL.wVar, DL.wC, DL.wIx, DL.gdName, DL.startD, wishD, DL.pv_, DL.wIfS, DL.wTest, DL.wRet, DL.wIf, DL.wCall, DL.wCons, DL.wNil, DL.wNext, DL.wEq, DL.wNe, DL.wIsN, DL.wNotN, DL.isNonD, DL.onBl, DL.wAndV, DL.wOrV, DL.wNotV, DL.wAnd, DL.wOr, DL.wNot, DL.wCB, DL.wLen, DL.wInt, DL.wAbs, DL.wMax2, DL.wMin2, DL.wTupOf, DL.wUn, DL.wU, DL.wI0, DL.wI, DL.wTup, DL.wLst, DL.wPar, DL.wPar3, DL.wDrop, DL.wSl, DL.wSlL, DL.wPart, DL.wNoPart, DL.endD, DL.wLc, DL.lcStep, DL.wipeD, DL.wYes, DL.gdTup, DL.gdCons, DL.gdNil, DL.idTup, DL.idLst, DL.idEnumL, DL.idEnumT, DL.idZip, DL.idRng1, DL.idRng2, DL.wAny, DL.wAll, DL.wChain, DL.wFor, DL.wWhile, DL.wAppend, DL.wLstM, DL.gdSub, DL.wIsi, DL.tyD, true_and, DL.sz_0, DL.sz_1, DL.sz_2, DL.sz_3, DL.sz_4, DL.sz_5, DL.sz_6, DL.sz_7, DL.sz_8, DL.sz_9, DL.sz_10, DL.sz_11, DL.sz_12, DL.sz_13, DL.sz_14, DL.sz_15, DL.sz_16, DL.sz_17, DL.sz_18, DL.sz_19, DL.sz_20, DL.sz_21, DL.sz_22, DL.sz_23, DL.sz_24, DL.sz_25, DL.sz_26, DL.ixN50, DL.ixN51, DL.ixN52, DL.ixN53, DL.ixN54, DL.Mu.set_same, DL.Mu.set_set, eq_self, decide_true, Bool.not_true, Bool.not_false, Bool.or_false, Bool.or_true, Bool.true_or, Bool.false_or, DL.kit_NoneType_bool, DL.kit_NoneType_int, DL.kit_NoneType_str, DL.kit_NoneType_tuple, DL.kit_NoneType_list, DL.kit_NoneType_dict, DL.kit_bool_bool, DL.kit_bool_int, DL.kit_bool_str, DL.kit_bool_tuple, DL.kit_bool_list, DL.kit_bool_dict, DL.kit_int_bool, DL.kit_int_int, DL.kit_int_str, DL.kit_int_tuple, DL.kit_int_list, DL.kit_int_dict, DL.kit_str_bool, DL.kit_str_int, DL.kit_str_str, DL.kit_str_tuple, DL.kit_str_list, DL.kit_str_dict, DL.kit_tuple_bool, DL.kit_tuple_int, DL.kit_tuple_str, DL.kit_tuple_tuple, DL.kit_tuple_list, DL.kit_tuple_dict, DL.kit_list_bool, DL.kit_list_int, DL.kit_list_str, DL.kit_list_tuple, DL.kit_list_list, DL.kit_list_dict, reduceIte, cntD_n, cntD_s, List.map_cons, List.map_nil, List.length_cons, List.length_nil, List.replicate, List.cons_append, List.nil_append, List.getElem?_cons_zero, List.getElem?_cons_succ, List.set_cons_zero, List.set_cons_succ, onSome, atI_0, atI_1, atI_2, atI_3, atI_4, w_nw, w_na, w_nh, w_ng, w_wn, w_wa, w_wh, w_wg, w_an, w_aw, w_ah, w_ag, w_hn, w_hw, w_ha, w_hg, w_gn, w_gw, w_ga, w_gh, w_self, Bool.false_eq_true, if_false, if_true, Nat.reduceAdd, Nat.reduceSub]
      exact ⟨p, n + 1, l3, rfl, hν, hl3, by omega, fun w l4 hw hl4 => hk _ l4 ⟨w, rfl, hw⟩ hl4⟩
    · rw [Mu.set_set]
      obtain ⟨ws, rfl, hws, hok⟩ := wishes_of hes
      rw [List.length_map, List.length_map, List.length_range] at hlen
      simp only [DL.wSeq, DL.wAsg, DL.wOp, DL.wVar, DL.wC, DL.wIx, DL.gdName, DL.startD, wishD, DL.pv_, DL.wIfS, DL.wTest, DL.wRet, DL.wIf, DL.wCall, DL.wCons, DL.wNil, DL.wNext, DL.wEq, DL.wNe, DL.wIsN, DL.wNotN, DL.isNonD, DL.onBl, DL.wAndV, DL.wOrV, DL.wNotV, DL.wAnd, DL.wOr, DL.wNot, DL.wCB, DL.wLen, DL.wInt, DL.wAbs, DL.wMax2, DL.wMin2, DL.wTupOf, DL.wUn, DL.wU, DL.wI0, DL.wI, DL.wTup, DL.wLst, DL.wPar, DL.wPar3, DL.wDrop, DL.wSl, DL.wSlL, DL.wPart, DL.wNoPart, DL.endD, DL.wLc, DL.lcStep, DL.wipeD, DL.wYes, DL.gdTup, DL.gdCons, DL.gdNil, DL.idTup, DL.idLst, DL.idEnumL, DL.idEnumT, DL.idZip, DL.idRng1, DL.idRng2, DL.wAny, DL.wAll, DL.wChain, DL.wFor, DL.wWhile, DL.wAppend, DL.wLstM, DL.gdSub, DL.wIsi, DL.tyD, true_and, DL.sz_0, DL.sz_1, DL.sz_2, DL.sz_3, DL.sz_4, DL.sz_5, DL.sz_6, DL.sz_7, DL.sz_8, DL.sz_9, DL.sz_10, DL.sz_11, DL.sz_12, DL.sz_13, DL.sz_14, DL.sz_15, DL.sz_16, DL.sz_17, DL.sz_18, DL.sz_19, DL.sz_20, DL.sz_21, DL.sz_22, DL.sz_23, DL.sz_24, DL.sz_25, DL.sz_26, DL.ixN50, DL.ixN51, DL.ixN52, DL.ixN53, DL.ixN54, DL.Mu.set_same, DL.Mu.set_set, eq_self, decide_true, Bool.not_true, Bool.not_false, Bool.or_false, Bool.or_true, Bool.true_or, Bool.false_or, DL.kit_NoneType_bool, DL.kit_NoneType_int, DL.kit_NoneType_str, DL.kit_NoneType_tuple, DL.kit_NoneType_list, DL.kit_NoneType_dict, DL.kit_bool_bool, DL.kit_bool_int, DL.kit_bool_str, DL.kit_bool_tuple, DL.kit_bool_list, DL.kit_bool_dict, DL.kit_int_bool, DL.kit_int_int, DL.kit_int_str, DL.kit_int_tuple, DL.kit_int_list, DL.kit_int_dict, DL.kit_str_bool, DL.kit_str_int, DL.kit_str_str, DL.kit_str_tuple, DL.kit_str_list, DL.kit_str_dict, DL.kit_tuple_bool, DL.kit_tuple_int, DL.kit_tuple_str, DL.kit_tuple_tuple, DL.kit_tuple_list, DL.kit_tuple_dict, DL.kit_list_bool, DL.kit_list_int, DL.kit_list_str, DL.kit_list_tuple, DL.kit_list_list, DL.kit_list_dict, reduceIte, cntD_n, cntD_s, List.map_cons, List.map_nil, List.length_cons, List.length_nil, List.replicate, List.cons_append, List.nil_append, List.getElem?_cons_zero, List.getElem?_cons_succ, List.set_cons_zero, List.set_cons_succ, onSome, atI_0, atI_1, atI_2, atI_3, atI_4, w_nw, w_na, w_nh, w_ng, w_wn, w_wa, w_wh, w_wg, w_an, w_aw, w_ah, w_ag, w_hn, w_hw, w_ha, w_hg, w_gn, w_gw, w_ga, w_gh, w_self, Bool.false_eq_true, if_false, if_true, Nat.reduceAdd, Nat.reduceSub]
      refine ⟨p, _, l3, rfl, Mu.set_same, hl3, by decide, by decide, fun d l4 hd hl4 => ?_⟩
      rw [Mu.set_set]
      have hint : ∃ k : Nat, d = .int ((k : Nat) : Int) ∧ k ≤ 18 := by
        simp only [List.mem_cons, List.not_mem_nil, or_false] at hd
        rcases hd with e | e | e | e
        · exact ⟨0, e, by decide⟩
        · exact ⟨3, e, by decide⟩
        · exact ⟨9, e, by decide⟩
        · exact ⟨18, e, by decide⟩
      obtain ⟨m, rfl, hm⟩ := hint
      refine ⟨p, n + 1, m, l4, rfl, Mu.set_same, hl4, by omega, by omega, fun ps l5 hps hpo hl5 => ?_⟩
      rw [Mu.set_set]
      refine ⟨n + 1, ws, ps, rfl, by omega, hok, hpo, by omega, by omega, ?_⟩
      (try simp only [DL.wSeq, DL.wAsg, DL.wOp, DL.wVar, DL.wC, DL.wIx, DL.gdName, DL.startD, wishD, DL.pv_, DL.wIfS, DL.wTest, DL.wRet, DL.wIf, DL.wCall, DL.wCons, DL.wNil, DL.wNext, DL.wEq, DL.wNe, DL.wIsN, DL.wNotN, DL.isNonD, DL.onBl, DL.wAndV, DL.wOrV, DL.wNotV, DL.wAnd, DL.wOr, DL.wNot, DL.wCB, DL.wLen, DL.wInt, DL.wAbs, DL.wMax2, DL.wMin2, DL.wTupOf, DL.wUn, DL.wU, DL.wI0, DL.wI, DL.wTup, DL.wLst, DL.wPar, DL.wPar3, DL.wDrop, DL.wSl, DL.wSlL, DL.wPart, DL.wNoPart, DL.endD, DL.wLc, DL.lcStep, DL.wipeD, DL.wYes, DL.gdTup, DL.gdCons, DL.gdNil, DL.idTup, DL.idLst, DL.idEnumL, DL.idEnumT, DL.idZip, DL.idRng1, DL.idRng2, DL.wAny, DL.wAll, DL.wChain, DL.wFor, DL.wWhile, DL.wAppend, DL.wLstM, DL.gdSub, DL.wIsi, DL.tyD, true_and, DL.sz_0, DL.sz_1, DL.sz_2, DL.sz_3, DL.sz_4, DL.sz_5, DL.sz_6, DL.sz_7, DL.sz_8, DL.sz_9, DL.sz_10, DL.sz_11, DL.sz_12, DL.sz_13, DL.sz_14, DL.sz_15, DL.sz_16, DL.sz_17, DL.sz_18, DL.sz_19, DL.sz_20, DL.sz_21, DL.sz_22, DL.sz_23, DL.sz_24, DL.sz_25, DL.sz_26, DL.ixN50, DL.ixN51, DL.ixN52, DL.ixN53, DL.ixN54, DL.Mu.set_same, DL.Mu.set_set, eq_self, decide_true, Bool.not_true, Bool.not_false, Bool.or_false, Bool.or_true, Bool.true_or, Bool.false_or, DL.kit_NoneType_bool, DL.kit_NoneType_int, DL.kit_NoneType_str, DL.kit_NoneType_tuple, DL.kit_NoneType_list, DL.kit_NoneType_dict, DL.kit_bool_bool, DL.kit_bool_int, DL.kit_bool_str, DL.kit_bool_tuple, DL.kit_bool_list, DL.kit_bool_dict, DL.kit_int_bool, DL.kit_int_int, DL.kit_int_str, DL.kit_int_tuple, DL.kit_int_list, DL.kit_int_dict, DL.kit_str_bool, DL.kit_str_int, DL.kit_str_str, DL.kit_str_tuple, DL.kit_str_list, DL.kit_str_dict, DL.kit_tuple_bool, DL.kit_tuple_int, DL.kit_tuple_str, DL.kit_tuple_tuple, DL.kit_tuple_list, DL.kit_tuple_dict, DL.kit_list_bool, DL.kit_list_int, DL.kit_list_str, DL.kit_list_tuple, DL.kit_list_list, DL.kit_list_dict, reduceIte, cntD_n, cntD_s, List.map_cons, List.map_nil, List.length_cons, List.length_nil, List.replicate, List.cons_append, List.nil_append, List.getElem?_cons_zero, List.getElem?_cons_succ, List.set_cons_zero, List.set_cons_succ, onSome, atI_0, atI_1, atI_2, atI_3, atI_4, w_nw, w_na, w_nh, w_ng, w_wn, w_wa, w_wh, w_wg, w_an, w_aw, w_ah, w_ag, w_hn, w_hw, w_ha, w_hg, w_gn, w_gw, w_ga, w_gh, w_self, Bool.false_eq_true, if_false, if_true, Nat.reduceAdd, Nat.reduceSub])
      exact hN _ _ ⟨l5, _, _, _, _, hl5, rfl, rfl⟩
  · rintro ρ μ' ⟨l', x, y, z, u, hl', rfl, rfl⟩
    unfold w_law_3
    simp only [DL.wSeq, DL.wAsg, DL.wOp, DL.wVar, DL.wC, DL.wIx, DL.gdName, DL.startD, wishD, DL.pv_, DL.wIfS, DL.wTest, DL.wRet, DL.wIf, DL.wCall, DL.wCons, DL.wNil, DL.wNext, DL.wEq, DL.wNe, DL.wIsN, DL.wNotN, DL.isNonD, DL.onBl, DL.wAndV, DL.wOrV, DL.wNotV, DL.wAnd, DL.wOr, DL.wNot, DL.wCB, DL.wLen, DL.wInt, DL.wAbs, DL.wMax2, DL.wMin2, DL.wTupOf, DL.wUn, DL.wU, DL.wI0, DL.wI, DL.wTup, DL.wLst, DL.wPar, DL.wPar3, DL.wDrop, DL.wSl, DL.wSlL, DL.wPart, DL.wNoPart, DL.endD, DL.wLc, DL.lcStep, DL.wipeD, DL.wYes, DL.gdTup, DL.gdCons, DL.gdNil, DL.idTup, DL.idLst, DL.idEnumL, DL.idEnumT, DL.idZip, DL.idRng1, DL.idRng2, DL.wAny, DL.wAll, DL.wChain, DL.wFor, DL.wWhile, DL.wAppend, DL.wLstM, DL.gdSub, DL.wIsi, DL.tyD, true_and, DL.sz_0, DL.sz_1, DL.sz_2, DL.sz_3, DL.sz_4, DL.sz_5, DL.sz_6, DL.sz_7, DL.sz_8, DL.sz_9, DL.sz_10, DL.sz_11, DL.sz_12, DL.sz_13, DL.sz_14, DL.sz_15, DL.sz_16, DL.sz_17, DL.sz_18, DL.sz_19, DL.sz_20, DL.sz_21, DL.sz_22, DL.sz_23, DL.sz_24, DL.sz_25, DL.sz_26, DL.ixN50, DL.ixN51, DL.ixN52, DL.ixN53, DL.ixN54, DL.Mu.set_same, DL.Mu.set_set, eq_self, decide_true, Bool.not_true, Bool.not_false, Bool.or_false, Bool.or_true, Bool.true_or, Bool.false_or, DL.kit_NoneType_bool, DL.kit_NoneType_int, DL.kit_NoneType_str, DL.kit_NoneType_tuple, DL.kit_NoneType_list, DL.kit_NoneType_dict, DL.kit_bool_bool, DL.kit_bool_int, DL.kit_bool_str, DL.kit_bool_tuple, DL.kit_bool_list, DL.kit_bool_dict, DL.kit_int_bool, DL.kit_int_int, DL.kit_int_str, DL.kit_int_tuple, DL.kit_int_list, DL.kit_int_dict, DL.kit_str_bool, DL.kit_str_int, DL.kit_str_str, DL.kit_str_tuple, DL.kit_str_list, DL.kit_str_dict, DL.kit_tuple_bool, DL.kit_tuple_int, DL.kit_tuple_str, DL.kit_tuple_tuple, DL.kit_tuple_list, DL.kit_tuple_dict, DL.kit_list_bool, DL.kit_list_int, DL.kit_list_str, DL.kit_list_tuple, DL.kit_list_list, DL.kit_list_dict, reduceIte, cntD_n, cntD_s, List.map_cons, List.map_nil, List.length_cons, List.length_nil, List.replicate, List.cons_append, List.nil_append, List.getElem?_cons_zero, List.getElem?_cons_succ, List.set_cons_zero, List.set_cons_succ, onSome, atI_0, atI_1, atI_2, atI_3, atI_4, w_nw, w_na, w_nh, w_ng, w_wn, w_wa, w_wh, w_wg, w_an, w_aw, w_ah, w_ag, w_hn, w_hw, w_ha, w_hg, w_gn, w_gw, w_ga, w_gh, w_self, Bool.false_eq_true, if_false, if_true, Nat.reduceAdd, Nat.reduceSub]
    exact rt_D (q _)
theorem rps_ints {K : PySem.W.Frag} {μ : Mu} {H : Hp} : ∀ ns : List Int, Rps K μ H (ns.map DV.int) (ns.map V.int)
  | [] => rfl
  | n :: ns => ⟨.int n, ns.map V.int, rfl, rfl, rps_ints ns⟩
/-- at the script -/
theorem at_script {K : PySem.W.Frag} {H : Hp} {a : Addr} {ns : List Int} (hl : ns.length ≤ 63) (hO : Only H) (hS : SqL K H a (ns.map V.int)) : lift K s_law [.ref a] H (fun v _ => v = .bl true) fun _ _ _ => False := by
  refine ⟨[lstI ns], fun _ => none, fun d _ => d = .bl true, ⟨.ref a, [], rfl, ⟨a, ns.map V.int, rfl, fun H' k => Same.seq (fun b o h => k b o rfl h) hS, ?_⟩, rfl⟩, fun b ds e => (by cases e), ⟨ns, rfl, hl, fun _ => rfl, fun _ => rfl⟩, ?_⟩
  · exact rps_ints ns
  · intro v H' d μ' e _ _ r
    subst e
    exact r
end K18
set_option Elab.async false
set_option linter.all false
set_option maxRecDepth 100000
set_option maxHeartbeats 4000000
namespace K18
open PySem PySem.Spec L2 DL

def topS (i : Nat) : Stmt := PySem.Challenge.pw_steadycraft_k18_whole_counts_by_the_word.main.body.getD i (.Pass ⟨0, 0, 0, 0⟩)
abbrev s_in_box_st : Stmt := topS 1
abbrev N_in_box : List Str := ["box", "place", "axis", "ends"]
theorem sc_in_box : FnScope N_in_box ["box", "place"] (defScope s_in_box_st) := ⟨rfl, rfl, rfl, by decide +kernel, rfl, by decide +kernel, by decide +kernel⟩
abbrev s_lies_in_st : Stmt := topS 4
abbrev N_lies_in : List Str := ["area", "place", "box"]
theorem sc_lies_in : FnScope N_lies_in ["area", "place"] (defScope s_lies_in_st) := ⟨rfl, rfl, rfl, by decide +kernel, rfl, by decide +kernel, by decide +kernel⟩
abbrev s_begun_one_st : Stmt := topS 5
abbrev N_begun_one : List Str := ["wish", "place", "word", "is_there"]
theorem sc_begun_one : FnScope N_begun_one ["wish", "place"] (defScope s_begun_one_st) := ⟨rfl, rfl, rfl, by decide +kernel, rfl, by decide +kernel, by decide +kernel⟩
abbrev s_waited_st : Stmt := topS 6
abbrev N_waited : List Str := ["wish", "count", "place", "is_there"]
theorem sc_waited : FnScope N_waited ["wish", "count", "place", "is_there"] (defScope s_waited_st) := ⟨rfl, rfl, rfl, by decide +kernel, rfl, by decide +kernel, by decide +kernel⟩
abbrev s_counted_one_st : Stmt := topS 7
abbrev N_counted_one : List Str := ["wish", "count", "place", "word", "is_there"]
theorem sc_counted_one : FnScope N_counted_one ["wish", "count", "place"] (defScope s_counted_one_st) := ⟨rfl, rfl, rfl, by decide +kernel, rfl, by decide +kernel, by decide +kernel⟩
abbrev s_begun_st : Stmt := topS 8
abbrev N_begun : List Str := ["wishes", "place", "wish"]
theorem sc_begun : FnScope N_begun ["wishes", "place"] (defScope s_begun_st) := ⟨rfl, rfl, rfl, by decide +kernel, rfl, by decide +kernel, by decide +kernel⟩
abbrev s_counted_st : Stmt := topS 9
abbrev N_counted : List Str := ["wishes", "counts", "place", "at", "wish"]
theorem sc_counted : FnScope N_counted ["wishes", "counts", "place"] (defScope s_counted_st) := ⟨rfl, rfl, rfl, by decide +kernel, rfl, by decide +kernel, by decide +kernel⟩
abbrev s_u_law_hand_st : Stmt := topS 11
abbrev N_u_law_hand : List Str := ["script", "cells", "cell"]
theorem sc_u_law_hand : FnScope N_u_law_hand ["script"] (defScope s_u_law_hand_st) := ⟨rfl, rfl, rfl, by decide +kernel, rfl, by decide +kernel, by decide +kernel⟩
abbrev s_u_law_draw_st : Stmt := topS 12
abbrev N_u_law_draw : List Str := ["hand", "many", "cell", "digit", "number"]
theorem sc_u_law_draw : FnScope N_u_law_draw ["hand", "many"] (defScope s_u_law_draw_st) := ⟨rfl, rfl, rfl, by decide +kernel, rfl, by decide +kernel, by decide +kernel⟩
abbrev s_u_law_some_st : Stmt := topS 13
abbrev N_u_law_some : List Str := ["hand", "things"]
theorem sc_u_law_some : FnScope N_u_law_some ["hand", "things"] (defScope s_u_law_some_st) := ⟨rfl, rfl, rfl, by decide +kernel, rfl, by decide +kernel, by decide +kernel⟩
abbrev s_u_law_in_st : Stmt := topS 14
abbrev N_u_law_in : List Str := ["area", "place", "one", "low", "high", "box"]
theorem sc_u_law_in : FnScope N_u_law_in ["area", "place"] (defScope s_u_law_in_st) := ⟨rfl, rfl, rfl, by decide +kernel, rfl, by decide +kernel, by decide +kernel⟩
abbrev s_u_law_breaks_st : Stmt := topS 15
abbrev N_u_law_breaks : List Str := ["wish", "places", "at", "word", "here", "there", "place"]
theorem sc_u_law_breaks : FnScope N_u_law_breaks ["wish", "places", "at"] (defScope s_u_law_breaks_st) := ⟨rfl, rfl, rfl, by decide +kernel, rfl, by decide +kernel, by decide +kernel⟩
abbrev s_u_law_box_st : Stmt := topS 16
abbrev N_u_law_box : List Str := ["hand", "axes", "found", "axis", "low"]
theorem sc_u_law_box : FnScope N_u_law_box ["hand", "axes"] (defScope s_u_law_box_st) := ⟨rfl, rfl, rfl, by decide +kernel, rfl, by decide +kernel, by decide +kernel⟩
abbrev s_u_law_area_st : Stmt := topS 17
abbrev N_u_law_area : List Str := ["hand", "axes", "turn"]
theorem sc_u_law_area : FnScope N_u_law_area ["hand", "axes"] (defScope s_u_law_area_st) := ⟨rfl, rfl, rfl, by decide +kernel, rfl, by decide +kernel, by decide +kernel⟩
abbrev s_u_law_wish_st : Stmt := topS 18
abbrev N_u_law_wish : List Str := ["hand", "axes", "one", "other", "k", "some"]
theorem sc_u_law_wish : FnScope N_u_law_wish ["hand", "axes"] (defScope s_u_law_wish_st) := ⟨rfl, rfl, rfl, by decide +kernel, rfl, by decide +kernel, by decide +kernel⟩
abbrev s_u_law_places_st : Stmt := topS 19
abbrev N_u_law_places : List Str := ["hand", "axes", "many", "here", "found", "turn", "axis", "one"]
theorem sc_u_law_places : FnScope N_u_law_places ["hand", "axes", "many"] (defScope s_u_law_places_st) := ⟨rfl, rfl, rfl, by decide +kernel, rfl, by decide +kernel, by decide +kernel⟩
abbrev s_u_law_count_st : Stmt := topS 20
abbrev N_u_law_count : List Str := ["wish", "places", "at", "word", "here", "many", "there", "some", "beat", "place"]
theorem sc_u_law_count : FnScope N_u_law_count ["wish", "places", "at"] (defScope s_u_law_count_st) := ⟨rfl, rfl, rfl, by decide +kernel, rfl, by decide +kernel, by decide +kernel⟩
abbrev s_u_law_is_st : Stmt := topS 21
abbrev N_u_law_is : List Str := ["told", "due", "one", "other"]
theorem sc_u_law_is : FnScope N_u_law_is ["told", "due"] (defScope s_u_law_is_st) := ⟨rfl, rfl, rfl, by decide +kernel, rfl, by decide +kernel, by decide +kernel⟩
abbrev s_u_law_is_walk_right_st : Stmt := topS 22
abbrev N_u_law_is_walk_right : List Str := ["wishes", "places", "at", "dues", "wish"]
theorem sc_u_law_is_walk_right : FnScope N_u_law_is_walk_right ["wishes", "places"] (defScope s_u_law_is_walk_right_st) := ⟨rfl, rfl, rfl, by decide +kernel, rfl, by decide +kernel, by decide +kernel⟩
abbrev s_u_law_are_known_right_st : Stmt := topS 23
abbrev N_u_law_are_known_right : List Str := ["line", "one", "two", "wishes", "more"]
theorem sc_u_law_are_known_right : FnScope N_u_law_are_known_right [] (defScope s_u_law_are_known_right_st) := ⟨rfl, rfl, rfl, by decide +kernel, rfl, by decide +kernel, by decide +kernel⟩
abbrev s_law_st : Stmt := topS 24
abbrev N_law : List Str := ["script", "hand", "turn", "axes", "wishes", "again"]
theorem sc_law : FnScope N_law ["script"] (defScope s_law_st) := ⟨rfl, rfl, rfl, by decide +kernel, rfl, by decide +kernel, by decide +kernel⟩
theorem boot_abs_ : bootBuiltins "abs" = some (.builtin "abs") := by decide +kernel
theorem boot_all_ : bootBuiltins "all" = some (.builtin "all") := by decide +kernel
theorem boot_any_ : bootBuiltins "any" = some (.builtin "any") := by decide +kernel
theorem boot_bool_ : bootBuiltins "bool" = some (.type "bool") := by decide +kernel
theorem boot_enumerate_ : bootBuiltins "enumerate" = some (.type "enumerate") := by decide +kernel
theorem boot_int_ : bootBuiltins "int" = some (.type "int") := by decide +kernel
theorem boot_isinstance_ : bootBuiltins "isinstance" = some (.builtin "isinstance") := by decide +kernel
theorem boot_len_ : bootBuiltins "len" = some (.builtin "len") := by decide +kernel
theorem boot_max_ : bootBuiltins "max" = some (.builtin "max") := by decide +kernel
theorem boot_min_ : bootBuiltins "min" = some (.builtin "min") := by decide +kernel
theorem boot_range_ : bootBuiltins "range" = some (.type "range") := by decide +kernel
theorem boot_tuple_ : bootBuiltins "tuple" = some (.type "tuple") := by decide +kernel
theorem boot_zip_ : bootBuiltins "zip" = some (.type "zip") := by decide +kernel
/-- what the top has left -/
structure Txt (K : PySem.W.Frag) (mg : Str → Option Value) : Prop where
  d_in_box : Dfn K mg "in_box" s_in_box_st ["box", "place"]
  d_lies_in : Dfn K mg "lies_in" s_lies_in_st ["area", "place"]
  d_begun_one : Dfn K mg "begun_one" s_begun_one_st ["wish", "place"]
  d_waited : Dfn K mg "waited" s_waited_st ["wish", "count", "place", "is_there"]
  d_counted_one : Dfn K mg "counted_one" s_counted_one_st ["wish", "count", "place"]
  d_begun : Dfn K mg "begun" s_begun_st ["wishes", "place"]
  d_counted : Dfn K mg "counted" s_counted_st ["wishes", "counts", "place"]
  d_u_law_hand : Dfn K mg "_law_hand" s_u_law_hand_st ["script"]
  d_u_law_draw : Dfn K mg "_law_draw" s_u_law_draw_st ["hand", "many"]
  d_u_law_some : Dfn K mg "_law_some" s_u_law_some_st ["hand", "things"]
  d_u_law_in : Dfn K mg "_law_in" s_u_law_in_st ["area", "place"]
  d_u_law_breaks : Dfn K mg "_law_breaks" s_u_law_breaks_st ["wish", "places", "at"]
  d_u_law_box : Dfn K mg "_law_box" s_u_law_box_st ["hand", "axes"]
  d_u_law_area : Dfn K mg "_law_area" s_u_law_area_st ["hand", "axes"]
  d_u_law_wish : Dfn K mg "_law_wish" s_u_law_wish_st ["hand", "axes"]
  d_u_law_places : Dfn K mg "_law_places" s_u_law_places_st ["hand", "axes", "many"]
  d_u_law_count : Dfn K mg "_law_count" s_u_law_count_st ["wish", "places", "at"]
  d_u_law_is : Dfn K mg "_law_is" s_u_law_is_st ["told", "due"]
  d_u_law_is_walk_right : Dfn K mg "_law_is_walk_right" s_u_law_is_walk_right_st ["wishes", "places"]
  d_u_law_are_known_right : Dfn K mg "_law_are_known_right" s_u_law_are_known_right_st []
  d_law : Dfn K mg "law" s_law_st ["script"]
  n_abs : mg "abs" = none
  n_all : mg "all" = none
  n_any : mg "any" = none
  n_bool : mg "bool" = none
  n_enumerate : mg "enumerate" = none
  n_int : mg "int" = none
  n_isinstance : mg "isinstance" = none
  n_len : mg "len" = none
  n_max : mg "max" = none
  n_min : mg "min" = none
  n_range : mg "range" = none
  n_tuple : mg "tuple" = none
  n_zip : mg "zip" = none
  g_KEPT : ∃ u, mg "KEPT" = some u ∧ RelV ((.int (-1))) u
section
variable {P : Program} {w : World} {K : PySem.W.Frag} {mg : Str → Option Value} {base : Heap}
theorem ok_in_box (T : Txt K mg)  : CalD P w K mg base 1 "in_box" s_in_box := by
  refine cal_D (k := 0) (N := N_in_box) T.d_in_box sc_in_box len_in_box fun f cdv A outer sh H E hr => ⟨t_in_box K, w_in_box, ?_, e_in_box K, r_in_box⟩
  exact (pss_one (ps_ret (pe_callB (cr_all rfl) (by rfl) T.n_all boot_all_ (pa_cons (pe_lc (own := [("axis", 2), ("ends", 3)]) (g := (gTup K 2 (gCons (gName 2) (gCons (gName 3) gNil)))) (tt := tYes) (te := (tChain (rI0 fun i j => .bl (decide (i ≤ j))) (rI0 fun i j => .bl (decide (i ≤ j))) (tOp (rIx K) (tVar 3) (tC (.int 0))) (tOp (rIx K) (tVar 1) (tVar 2)) (tOp (rIx K) (tVar 3) (tC (.int 1))))) rfl sc_in_box.nd (pi_enumT (by rfl) T.n_enumerate (pa_cons (pv 0) pa_nil)) (blkOk_by (N := N_in_box) (sc := (defScope s_in_box_st)) (by decide +kernel)) (fun _ _ _ _ _ => (pg_tup rfl (pgs_cons (pg_name (i := 2) sc_in_box.nd rfl (.inl rfl)) (pgs_cons (pg_name (i := 3) sc_in_box.nd rfl (.inl rfl)) pgs_nil)))) (fun _ _ _ _ _ => pts_nil) (fun _ _ _ _ _ => (pe_chain op_le op_le (pe_ix ix_seq (pv 3) pe_int (fun _ _ => rfl)) (pe_ix ix_seq (pv 1) (pv 2) (fun _ _ => rfl)) (pe_ix ix_seq (pv 3) pe_int (fun _ _ => rfl))))) pa_nil))))
theorem ok_lies_in (T : Txt K mg) (c_in_box : CalD P w K mg base 1 "in_box" s_in_box) : CalD P w K mg base 2 "lies_in" s_lies_in := by
  refine cal_D (k := 1) (N := N_lies_in) T.d_lies_in sc_lies_in len_lies_in fun f cdv A outer sh H E hr => ⟨t_lies_in K, w_lies_in, ?_, e_lies_in K, r_lies_in⟩
  exact (pss_one (ps_ret (pe_callB (cr_any rfl) (by rfl) T.n_any boot_any_ (pa_cons (pe_lc (own := [("box", 2)]) (g := (gName 2)) (tt := tYes) (te := (tCall (lift K s_in_box) [] L2.E0 (tCons (tVar 2) (tCons (tVar 1) tNil)))) rfl sc_lies_in.nd (pi_tup (pv 0)) (blkOk_by (N := N_lies_in) (sc := (defScope s_lies_in_st)) (by decide +kernel)) (fun _ _ _ _ _ => (pg_name (i := 2) sc_lies_in.nd rfl (.inl rfl))) (fun _ _ _ _ _ => pts_nil) (fun _ _ _ _ _ => (pe_cD c_in_box hr (by decide) (by rfl) (pa_cons (pv 2) (pa_cons (pv 1) pa_nil))))) pa_nil))))
theorem ok_begun_one (T : Txt K mg) (c_lies_in : CalD P w K mg base 2 "lies_in" s_lies_in) : CalD P w K mg base 3 "begun_one" s_begun_one := by
  refine cal_D (k := 2) (N := N_begun_one) T.d_begun_one sc_begun_one len_begun_one fun f cdv A outer sh H E hr => ⟨t_begun_one K, w_begun_one, ?_, e_begun_one K, r_begun_one⟩
  exact (pss_cons (ps_set (i := 2) sc_begun_one.nd rfl (.inl rfl) (pe_ix ix_seq (pv 0) pe_int (fun _ _ => rfl)))
      (pss_cons (ps_set (i := 3) sc_begun_one.nd rfl (.inl rfl) (pe_cD c_lies_in hr (by decide) (by rfl) (pa_cons (pe_ix ix_seq (pv 0) pe_int (fun _ _ => rfl)) (pa_cons (pv 1) pa_nil))))
      (pss_cons (ps_if (pt_cmpR op_eq (pv 2) pe_str (nomark _)) (pss_one (ps_ret (pe_ifExp (pt_val (pv 3)) pe_non pe_int))) pss_nil)
      (pss_cons (ps_if (pt_cmpR op_eq (pv 2) pe_str (nomark _)) (pss_one (ps_ret (pe_ifExp (pt_val (pv 3)) (C8.pe_gc (by rfl) T.g_KEPT) pe_int))) pss_nil)
      (pss_cons (ps_if (pt_cmpR op_eq (pv 2) pe_str (nomark _)) (pss_one (ps_ret (pe_callTy cb_int (by rfl) T.n_int boot_int_ (pa_cons (pe_and (pv 3) (pe_one (pe_not (pe_cD c_lies_in hr (by decide) (by rfl) (pa_cons (pe_ix ix_seq (pv 0) pe_int (fun _ _ => rfl)) (pa_cons (pv 1) pa_nil)))))) pa_nil)))) pss_nil)
      (pss_cons (ps_if (pt_cmpR op_eq (pv 2) pe_str (nomark _)) (pss_cons (ps_if (PW.pt (pw_and (pt_not (pt_val (pv 3))) (pw_and1 (pt_val (pe_cD c_lies_in hr (by decide) (by rfl) (pa_cons (pe_ix ix_seq (pv 0) pe_int (fun _ _ => rfl)) (pa_cons (pv 1) pa_nil))))))) (pss_one (ps_ret pe_non)) pss_nil)
      (pss_one (ps_ret (pe_callTy cb_int (by rfl) T.n_int boot_int_ (pa_cons (pv 3) pa_nil))))) pss_nil)
      (pss_one (ps_ret (pe_callTy cb_int (by rfl) T.n_int boot_int_ (pa_cons (pe_not (pv 3)) pa_nil))))))))))
theorem ok_waited (T : Txt K mg) (c_lies_in : CalD P w K mg base 2 "lies_in" s_lies_in) : CalD P w K mg base 3 "waited" s_waited := by
  refine cal_D (k := 2) (N := N_waited) T.d_waited sc_waited len_waited fun f cdv A outer sh H E hr => ⟨t_waited K, w_waited, ?_, e_waited K, r_waited⟩
  exact (pss_cons (ps_if (pt_val (pe_cD c_lies_in hr (by decide) (by rfl) (pa_cons (pe_ix ix_seq (pv 0) pe_int (fun _ _ => rfl)) (pa_cons (pv 2) pa_nil)))) (pss_one (ps_ret pe_int)) pss_nil)
      (pss_cons (ps_if (pt_cmpR op_eq (pv 1) pe_int (nomark _)) (pss_one (ps_ret (pe_callTy cb_int (by rfl) T.n_int boot_int_ (pa_cons (pv 3) pa_nil)))) pss_nil)
      (pss_one (ps_ret (pe_ifExp (pt_cmpR op_eq (pv 1) (pe_ix ix_seq (pv 0) pe_int (fun _ _ => rfl)) (nomark _)) pe_non (pe_op op_add (pv 1) pe_int))))))
theorem ok_counted_one (T : Txt K mg) (c_lies_in : CalD P w K mg base 2 "lies_in" s_lies_in) (c_waited : CalD P w K mg base 3 "waited" s_waited) : CalD P w K mg base 4 "counted_one" s_counted_one := by
  refine cal_D (k := 3) (N := N_counted_one) T.d_counted_one sc_counted_one len_counted_one fun f cdv A outer sh H E hr => ⟨t_counted_one K, w_counted_one, ?_, e_counted_one K, r_counted_one⟩
  exact (pss_cons (ps_if (pt_cmpR op_isNo (pv 1) pe_non (nomark _)) (pss_one (ps_ret pe_non)) pss_nil)
      (pss_cons (ps_set (i := 3) sc_counted_one.nd rfl (.inl rfl) (pe_ix ix_seq (pv 0) pe_int (fun _ _ => rfl)))
      (pss_cons (ps_set (i := 4) sc_counted_one.nd rfl (.inl rfl) (pe_cD c_lies_in hr (by decide) (by rfl) (pa_cons (pe_ix ix_seq (pv 0) pe_int (fun _ _ => rfl)) (pa_cons (pv 2) pa_nil))))
      (pss_cons (ps_if (pt_cmpR op_eq (pv 3) pe_str (nomark _)) (pss_one (ps_ret (pe_ifExp (pt_val (pv 4)) pe_non pe_int))) pss_nil)
      (pss_cons (ps_if (pt_cmpR op_eq (pv 3) pe_str (nomark _)) (pss_cons (ps_if (PW.pt (pw_or (pt_cmpR op_eq (pv 1) (C8.pe_gc (by rfl) T.g_KEPT) (nomark _)) (pw_or1 (pt_val (pv 4))))) (pss_one (ps_ret (C8.pe_gc (by rfl) T.g_KEPT))) pss_nil)
      (pss_one (ps_ret (pe_ifExp (pt_cmpR op_eq (pe_op op_add (pv 1) pe_int) (pe_ix ix_seq (pv 0) pe_int (fun _ _ => rfl)) (nomark _)) pe_non (pe_op op_add (pv 1) pe_int))))) pss_nil)
      (pss_cons (ps_if (pt_cmpR op_eq (pv 3) pe_str (nomark _)) (pss_one (ps_ret (pe_cD c_waited hr (by decide) (by rfl) (pa_cons (pv 0) (pa_cons (pv 1) (pa_cons (pv 2) (pa_cons (pv 4) pa_nil))))))) pss_nil)
      (pss_cons (ps_if (pt_cmpR op_eq (pv 3) pe_str (nomark _)) (pss_cons (ps_if (PW.pt (pw_or (pt_cmpR op_eq (pv 1) pe_int (nomark _)) (pw_or1 (pt_val (pv 4))))) (pss_one (ps_ret pe_int)) pss_nil)
      (pss_one (ps_ret (pe_ifExp (pt_val (pe_cD c_lies_in hr (by decide) (by rfl) (pa_cons (pe_ix ix_seq (pv 0) pe_int (fun _ _ => rfl)) (pa_cons (pv 2) pa_nil)))) pe_non pe_int)))) pss_nil)
      (pss_cons (ps_if (pt_val (pv 4)) (pss_one (ps_ret pe_int)) pss_nil)
      (pss_one (ps_ret (pe_ifExp (pt_cmpR op_eq (pv 1) (pe_ix ix_seq (pv 0) pe_int (fun _ _ => rfl)) (nomark _)) pe_non (pe_op op_add (pv 1) pe_int))))))))))))
theorem ok_begun (T : Txt K mg) (c_begun_one : CalD P w K mg base 3 "begun_one" s_begun_one) : CalD P w K mg base 4 "begun" s_begun := by
  refine cal_D (k := 3) (N := N_begun) T.d_begun sc_begun len_begun fun f cdv A outer sh H E hr => ⟨t_begun K, w_begun, ?_, e_begun K, r_begun⟩
  exact (pss_one (ps_ret (pe_callTy cb_tup (by rfl) T.n_tuple boot_tuple_ (pa_cons (pe_lc (own := [("wish", 2)]) (g := (gName 2)) (tt := tYes) (te := (tCall (lift K s_begun_one) [] L2.E0 (tCons (tVar 2) (tCons (tVar 1) tNil)))) rfl sc_begun.nd (pi_tup (pv 0)) (blkOk_by (N := N_begun) (sc := (defScope s_begun_st)) (by decide +kernel)) (fun _ _ _ _ _ => (pg_name (i := 2) sc_begun.nd rfl (.inl rfl))) (fun _ _ _ _ _ => pts_nil) (fun _ _ _ _ _ => (pe_cD c_begun_one hr (by decide) (by rfl) (pa_cons (pv 2) (pa_cons (pv 1) pa_nil))))) pa_nil))))
theorem ok_counted (T : Txt K mg) (c_counted_one : CalD P w K mg base 4 "counted_one" s_counted_one) : CalD P w K mg base 5 "counted" s_counted := by
  refine cal_D (k := 4) (N := N_counted) T.d_counted sc_counted len_counted fun f cdv A outer sh H E hr => ⟨t_counted K, w_counted, ?_, e_counted K, r_counted⟩
  exact (pss_one (ps_ret (pe_callTy cb_tup (by rfl) T.n_tuple boot_tuple_ (pa_cons (pe_lc (own := [("at", 3), ("wish", 4)]) (g := (gTup K 2 (gCons (gName 3) (gCons (gName 4) gNil)))) (tt := tYes) (te := (tCall (lift K s_counted_one) [] L2.E0 (tCons (tVar 4) (tCons (tOp (rIx K) (tVar 1) (tVar 3)) (tCons (tVar 2) tNil))))) rfl sc_counted.nd (pi_enumT (by rfl) T.n_enumerate (pa_cons (pv 0) pa_nil)) (blkOk_by (N := N_counted) (sc := (defScope s_counted_st)) (by decide +kernel)) (fun _ _ _ _ _ => (pg_tup rfl (pgs_cons (pg_name (i := 3) sc_counted.nd rfl (.inl rfl)) (pgs_cons (pg_name (i := 4) sc_counted.nd rfl (.inl rfl)) pgs_nil)))) (fun _ _ _ _ _ => pts_nil) (fun _ _ _ _ _ => (pe_cD c_counted_one hr (by decide) (by rfl) (pa_cons (pv 4) (pa_cons (pe_ix ix_seq (pv 1) (pv 3) (fun _ _ => rfl)) (pa_cons (pv 2) pa_nil)))))) pa_nil))))
theorem ok_u_law_hand (T : Txt K mg)  : CalD P w K mg base 1 "_law_hand" s_u_law_hand := by
  refine cal_D (k := 0) (N := N_u_law_hand) T.d_u_law_hand sc_u_law_hand len_u_law_hand fun f cdv A outer sh H E hr => ⟨t_u_law_hand K, w_u_law_hand, ?_, e_u_law_hand K, r_u_law_hand⟩
  exact (pss_cons (ps_setLc (i := 1) (own := [("cell", 2)]) (g := (gName 2)) (tt := tYes) (te := (tCB rAbsD (tCons (tCB rIntD (tCons (tVar 2) tNil)) tNil))) rfl sc_u_law_hand.nd rfl rfl (sw_true rfl rfl rfl (by decide +kernel)) (pi_list (pe_slice sl_list (pv 0) po_none (po_some pe_int))) (blkOk_by (N := N_u_law_hand) (sc := (defScope s_u_law_hand_st)) (by decide +kernel)) (fun _ _ _ _ _ => (pg_name (i := 2) sc_u_law_hand.nd rfl (.inl rfl))) (fun _ _ _ _ _ => pts_nil) (fun _ _ _ _ _ => (pe_callB cb_abs (by rfl) T.n_abs boot_abs_ (pa_cons (pe_callTy cb_int (by rfl) T.n_int boot_int_ (pa_cons (pv 2) pa_nil)) pa_nil))))
      (pss_one (ps_ret (pe_lstM (pa_cons (pv 1) (pa_cons pe_int (pa_cons pe_int (pa_cons (pe_op op_add pe_int (pe_op op_mul pe_int (pe_callB cb_len (by rfl) T.n_len boot_len_ (pa_cons (pv 1) pa_nil)))) (pa_cons pe_int pa_nil)))))))))
theorem ok_u_law_draw (T : Txt K mg)  : CalD P w K mg base 1 "_law_draw" s_u_law_draw := by
  refine cal_D (k := 0) (N := N_u_law_draw) T.d_u_law_draw sc_u_law_draw len_u_law_draw fun f cdv A outer sh H E hr => ⟨t_u_law_draw K, w_u_law_draw, ?_, e_u_law_draw K, r_u_law_draw⟩
  exact (pss_cons (ps_if (PW.pt (pw_and (pt_cmpR op_eq (pe_ix ix_seq (pv 0) pe_int (fun _ _ => rfl)) pe_int (nomark _)) (pw_and1 (pt_cmpR op_lt (pe_ix ix_seq (pv 0) pe_int (fun _ _ => rfl)) (pe_callB cb_len (by rfl) T.n_len boot_len_ (pa_cons (pe_ix ix_seq (pv 0) pe_int (fun _ _ => rfl)) pa_nil)) (nomark _))))) (pss_cons (ps_set (i := 2) sc_u_law_draw.nd rfl (.inl rfl) (pe_ix ix_seq (pe_ix ix_seq (pv 0) pe_int (fun _ _ => rfl)) (pe_ix ix_seq (pv 0) pe_int (fun _ _ => rfl)) (fun _ _ => rfl)))
      (pss_cons (ps_asg (pe_op op_add (pe_ix ix_seq (pv 0) pe_int (fun _ _ => rfl)) pe_int) (pg_sub (pv 0) pe_int set_list))
      (pss_cons (ps_asg (pe_op op_mod (pe_callTy cb_int (by rfl) T.n_int boot_int_ (pa_cons (pe_op op_add (pe_op op_add (pe_op op_mul (pe_ix ix_seq (pv 0) pe_int (fun _ _ => rfl)) pe_int) (pv 2)) pe_int) pa_nil)) pe_int) (pg_sub (pv 0) pe_int set_list))
      (pss_one (ps_if (pt_cmpR op_ge (pv 2) (pe_op op_pow pe_int pe_int) (nomark _)) (pss_one (ps_asg (pv 2) (pg_sub (pv 0) pe_int set_list))) pss_nil))))) pss_nil)
      (pss_cons (ps_if (pt_cmpR op_gt (pe_ix ix_seq (pv 0) pe_int (fun _ _ => rfl)) pe_int (nomark _)) (pss_cons (ps_set (i := 3) sc_u_law_draw.nd rfl (.inl rfl) (pe_op op_mod (pe_callTy cb_int (by rfl) T.n_int boot_int_ (pa_cons (pe_ix ix_seq (pv 0) pe_int (fun _ _ => rfl)) pa_nil)) (pv 1)))
      (pss_cons (ps_asg (pe_op op_fdiv (pe_ix ix_seq (pv 0) pe_int (fun _ _ => rfl)) (pv 1)) (pg_sub (pv 0) pe_int set_list))
      (pss_one (ps_ret (pv 3))))) pss_nil)
      (pss_cons (ps_asg (pe_op op_add (pe_ix ix_seq (pv 0) pe_int (fun _ _ => rfl)) pe_int) (pg_sub (pv 0) pe_int set_list))
      (pss_cons (ps_set (i := 4) sc_u_law_draw.nd rfl (.inl rfl) (pe_op op_mod (pe_callTy cb_int (by rfl) T.n_int boot_int_ (pa_cons (pe_op op_mul (pe_callTy cb_int (by rfl) T.n_int boot_int_ (pa_cons (pe_op op_add (pe_ix ix_seq (pv 0) pe_int (fun _ _ => rfl)) (pe_op op_mul pe_int (pe_ix ix_seq (pv 0) pe_int (fun _ _ => rfl)))) pa_nil)) pe_int) pa_nil)) pe_int))
      (pss_cons (ps_set (i := 4) sc_u_law_draw.nd rfl (.inl rfl) (pe_op op_mod (pe_callTy cb_int (by rfl) T.n_int boot_int_ (pa_cons (pe_op op_mul (pv 4) (pe_op op_add (pe_op op_fdiv (pv 4) pe_int) pe_int)) pa_nil)) pe_int))
      (pss_cons (ps_set (i := 4) sc_u_law_draw.nd rfl (.inl rfl) (pe_op op_mod (pe_callTy cb_int (by rfl) T.n_int boot_int_ (pa_cons (pe_op op_mul (pv 4) (pe_op op_add (pe_op op_fdiv (pv 4) pe_int) pe_int)) pa_nil)) pe_int))
      (pss_one (ps_ret (pe_op op_mod (pe_callTy cb_int (by rfl) T.n_int boot_int_ (pa_cons (pe_op op_fdiv (pv 4) pe_int) pa_nil)) (pv 1))))))))))
theorem ok_u_law_some (T : Txt K mg) (c_u_law_draw : CalD P w K mg base 1 "_law_draw" s_u_law_draw) : CalD P w K mg base 2 "_law_some" s_u_law_some := by
  refine cal_D (k := 1) (N := N_u_law_some) T.d_u_law_some sc_u_law_some len_u_law_some fun f cdv A outer sh H E hr => ⟨t_u_law_some K, w_u_law_some, ?_, e_u_law_some K, r_u_law_some⟩
  exact (pss_one (ps_ret (pe_ix ix_seq (pv 1) (pe_cD c_u_law_draw hr (by decide) (by rfl) (pa_cons (pv 0) (pa_cons (pe_callB cb_len (by rfl) T.n_len boot_len_ (pa_cons (pv 1) pa_nil)) pa_nil))) (fun _ _ => rfl))))
theorem ok_u_law_in (T : Txt K mg)  : CalD P w K mg base 1 "_law_in" s_u_law_in := by
  refine cal_D (k := 0) (N := N_u_law_in) T.d_u_law_in sc_u_law_in len_u_law_in fun f cdv A outer sh H E hr => ⟨t_u_law_in K, w_u_law_in, ?_, e_u_law_in K, r_u_law_in⟩
  exact (pss_one (ps_ret (pe_callB (cr_any rfl) (by rfl) T.n_any boot_any_ (pa_cons (pe_lc (own := [("box", 5)]) (g := (gName 5)) (tt := tYes) (te := (tCB (rAll K) (tCons (tLc (RZ.iZipA K (tCons (tVar 1) (tCons (tVar 5) tNil))) (gTup K 2 (gCons (gName 2) (gCons (gTup K 2 (gCons (gName 3) (gCons (gName 4) gNil))) gNil))) tYes (tChain (rI0 fun i j => .bl (decide (i ≤ j))) (rI0 fun i j => .bl (decide (i ≤ j))) (tVar 3) (tVar 2) (tVar 4)) [2, 3, 4]) tNil))) rfl sc_u_law_in.nd (pi_tup (pv 0)) (blkOk_by (N := N_u_law_in) (sc := (defScope s_u_law_in_st)) (by decide +kernel)) (fun _ _ _ _ _ => (pg_name (i := 5) sc_u_law_in.nd rfl (.inl rfl))) (fun _ _ _ _ _ => pts_nil) (fun _ _ _ _ _ => (pe_callB (cr_all rfl) (by rfl) T.n_all boot_all_ (pa_cons (pe_lc (own := [("one", 2), ("low", 3), ("high", 4)]) (g := (gTup K 2 (gCons (gName 2) (gCons (gTup K 2 (gCons (gName 3) (gCons (gName 4) gNil))) gNil)))) (tt := tYes) (te := (tChain (rI0 fun i j => .bl (decide (i ≤ j))) (rI0 fun i j => .bl (decide (i ≤ j))) (tVar 3) (tVar 2) (tVar 4))) rfl sc_u_law_in.nd (RZ.pi_zipA (by rfl) T.n_zip (pa_cons (pv 1) (pa_cons (pv 5) pa_nil))) (blkOk_by (N := N_u_law_in) (sc := (relS _ (defScope s_u_law_in_st))) (by decide +kernel)) (fun _ _ _ _ _ => (pg_tup rfl (pgs_cons (pg_name (i := 2) sc_u_law_in.nd rfl (.inl rfl)) (pgs_cons (pg_tup rfl (pgs_cons (pg_name (i := 3) sc_u_law_in.nd rfl (.inl rfl)) (pgs_cons (pg_name (i := 4) sc_u_law_in.nd rfl (.inl rfl)) pgs_nil))) pgs_nil)))) (fun _ _ _ _ _ => pts_nil) (fun _ _ _ _ _ => (pe_chain op_le op_le (pv 3) (pv 2) (pv 4)))) pa_nil)))) pa_nil))))
theorem ok_u_law_breaks (T : Txt K mg) (c_u_law_in : CalD P w K mg base 1 "_law_in" s_u_law_in) : CalD P w K mg base 2 "_law_breaks" s_u_law_breaks := by
  refine cal_D (k := 1) (N := N_u_law_breaks) T.d_u_law_breaks sc_u_law_breaks len_u_law_breaks fun f cdv A outer sh H E hr => ⟨t_u_law_breaks K, w_u_law_breaks, ?_, e_u_law_breaks K, r_u_law_breaks⟩
  exact (pss_cons (ps_par (i := 3) (j := 4) rfl sc_u_law_breaks.nd rfl rfl (by decide) rfl rfl (pa_cons (pe_ix ix_seq (pv 0) pe_int (fun _ _ => rfl)) (pa_cons (pe_lc (own := [("place", 6)]) (g := (gName 6)) (tt := tYes) (te := (tCall (lift K s_u_law_in) [] L2.E0 (tCons (tOp (rIx K) (tVar 0) (tC (.int 1))) (tCons (tVar 6) tNil)))) rfl sc_u_law_breaks.nd (pi_list (pe_slice sl_list (pv 1) po_none (po_some (pe_op op_add (pv 2) pe_int)))) (blkOk_by (N := N_u_law_breaks) (sc := (defScope s_u_law_breaks_st)) (by decide +kernel)) (fun _ _ _ _ _ => (pg_name (i := 6) sc_u_law_breaks.nd rfl (.inl rfl))) (fun _ _ _ _ _ => pts_nil) (fun _ _ _ _ _ => (pe_cD c_u_law_in hr (by decide) (by rfl) (pa_cons (pe_ix ix_seq (pv 0) pe_int (fun _ _ => rfl)) (pa_cons (pv 6) pa_nil))))) pa_nil)) (by rfl))
      (pss_cons (ps_if (pt_cmpR op_eq (pv 3) pe_str (nomark _)) (pss_one (ps_ret (pe_ix ix_seq (pv 4) (pv 2) (fun _ _ => rfl)))) pss_nil)
      (pss_cons (ps_if (pt_cmpR op_eq (pv 3) pe_str (nomark _)) (pss_one (ps_ret (pe_and (pe_cmpR op_eq (pv 2) (pe_ix ix_seq (pv 0) pe_int (fun _ _ => rfl)) (nomark _)) (pe_one (pe_not (pe_callB (cr_any rfl) (by rfl) T.n_any boot_any_ (pa_cons (pv 4) pa_nil))))))) pss_nil)
      (pss_cons (ps_if (pt_cmpR op_eq (pv 3) pe_str (nomark _)) (pss_one (ps_ret (pe_and (pe_cmpR op_ge (pv 2) (pe_ix ix_seq (pv 0) pe_int (fun _ _ => rfl)) (nomark _)) (pe_one (pe_not (pe_callB (cr_any rfl) (by rfl) T.n_any boot_any_ (pa_cons (pe_slice sl_list (pv 4) (po_some (pe_op op_sub (pv 2) (pe_ix ix_seq (pv 0) pe_int (fun _ _ => rfl)))) po_none) pa_nil))))))) pss_nil)
      (pss_cons (ps_setLc (i := 5) (own := [("place", 6)]) (g := (gName 6)) (tt := tYes) (te := (tCall (lift K s_u_law_in) [] L2.E0 (tCons (tOp (rIx K) (tVar 0) (tC (.int 2))) (tCons (tVar 6) tNil)))) rfl sc_u_law_breaks.nd rfl rfl (sw_true rfl rfl rfl (by decide +kernel)) (pi_list (pe_slice sl_list (pv 1) po_none (po_some (pe_op op_add (pv 2) pe_int)))) (blkOk_by (N := N_u_law_breaks) (sc := (defScope s_u_law_breaks_st)) (by decide +kernel)) (fun _ _ _ _ _ => (pg_name (i := 6) sc_u_law_breaks.nd rfl (.inl rfl))) (fun _ _ _ _ _ => pts_nil) (fun _ _ _ _ _ => (pe_cD c_u_law_in hr (by decide) (by rfl) (pa_cons (pe_ix ix_seq (pv 0) pe_int (fun _ _ => rfl)) (pa_cons (pv 6) pa_nil)))))
      (pss_cons (ps_if (pt_cmpR op_eq (pv 3) pe_str (nomark _)) (pss_one (ps_ret (pe_and (pe_ix ix_seq (pv 5) (pv 2) (fun _ _ => rfl)) (pe_one (pe_not (pe_callB (cr_any rfl) (by rfl) T.n_any boot_any_ (pa_cons (pv 4) pa_nil))))))) pss_nil)
      (pss_one (ps_ret (pe_and (pe_cmpR op_ge (pv 2) (pe_ix ix_seq (pv 0) pe_int (fun _ _ => rfl)) (nomark _)) (pe_and (pe_ix ix_seq (pv 4) (pe_op op_sub (pv 2) (pe_ix ix_seq (pv 0) pe_int (fun _ _ => rfl))) (fun _ _ => rfl)) (pe_one (pe_not (pe_callB (cr_any rfl) (by rfl) T.n_any boot_any_ (pa_cons (pe_slice sl_list (pv 5) (po_some (pe_op op_sub (pv 2) (pe_ix ix_seq (pv 0) pe_int (fun _ _ => rfl)))) po_none) pa_nil))))))))))))))
theorem ok_u_law_box (T : Txt K mg) (c_u_law_draw : CalD P w K mg base 1 "_law_draw" s_u_law_draw) (c_u_law_some : CalD P w K mg base 2 "_law_some" s_u_law_some) : CalD P w K mg base 3 "_law_box" s_u_law_box := by
  refine cal_D (k := 2) (N := N_u_law_box) T.d_u_law_box sc_u_law_box len_u_law_box fun f cdv A outer sh H E hr => ⟨t_u_law_box K, w_u_law_box, ?_, e_u_law_box K, r_u_law_box⟩
  exact (pss_cons (ps_set (i := 2) sc_u_law_box.nd rfl (.inl rfl) (pe_lstM pa_nil))
      (pss_cons (ps_for PassesOwn.never rfl (pi_range1 (by rfl) T.n_range (pa_cons (pv 1) pa_nil)) (pg_name (i := 3) sc_u_law_box.nd rfl (.inl rfl)) (pss_cons (ps_set (i := 4) sc_u_law_box.nd rfl (.inl rfl) (pe_cD c_u_law_draw hr (by decide) (by rfl) (pa_cons (pv 0) (pa_cons pe_int pa_nil))))
      (pss_one (ps_expr (pe_bm PySem.F.plainAttrs_list PySem.F.slot_list_append PySem.F.type_list_append mt_append (pv 2) (pa_cons (pe_tup (pa_cons (pv 4) (pa_cons (pe_op op_add (pv 4) (pe_cD c_u_law_some hr (by decide) (by rfl) (pa_cons (pv 0) (pa_cons (pe_lst (pa_cons pe_int (pa_cons pe_int (pa_cons pe_int (pa_cons pe_int (pa_cons pe_int pa_nil)))))) pa_nil)))) pa_nil))) pa_nil))))))
      (pss_one (ps_ret (pe_callTy cb_tup (by rfl) T.n_tuple boot_tuple_ (pa_cons (pv 2) pa_nil))))))
theorem ok_u_law_area (T : Txt K mg) (c_u_law_some : CalD P w K mg base 2 "_law_some" s_u_law_some) (c_u_law_box : CalD P w K mg base 3 "_law_box" s_u_law_box) : CalD P w K mg base 4 "_law_area" s_u_law_area := by
  refine cal_D (k := 3) (N := N_u_law_area) T.d_u_law_area sc_u_law_area len_u_law_area fun f cdv A outer sh H E hr => ⟨t_u_law_area K, w_u_law_area, ?_, e_u_law_area K, r_u_law_area⟩
  exact (pss_one (ps_ret (pe_callTy cb_tup (by rfl) T.n_tuple boot_tuple_ (pa_cons (pe_lc (own := [("turn", 2)]) (g := (gName 2)) (tt := tYes) (te := (tCall (lift K s_u_law_box) [] L2.E0 (tCons (tVar 0) (tCons (tVar 1) tNil)))) rfl sc_u_law_area.nd (pi_range1 (by rfl) T.n_range (pa_cons (pe_cD c_u_law_some hr (by decide) (by rfl) (pa_cons (pv 0) (pa_cons (pe_lst (pa_cons pe_int (pa_cons pe_int (pa_cons pe_int (pa_cons pe_int (pa_cons pe_int (pa_cons pe_int (pa_cons pe_int pa_nil)))))))) pa_nil))) pa_nil)) (blkOk_by (N := N_u_law_area) (sc := (defScope s_u_law_area_st)) (by decide +kernel)) (fun _ _ _ _ _ => (pg_name (i := 2) sc_u_law_area.nd rfl (.inl rfl))) (fun _ _ _ _ _ => pts_nil) (fun _ _ _ _ _ => (pe_cD c_u_law_box hr (by decide) (by rfl) (pa_cons (pv 0) (pa_cons (pv 1) pa_nil))))) pa_nil))))
theorem ok_u_law_wish (T : Txt K mg) (c_u_law_some : CalD P w K mg base 2 "_law_some" s_u_law_some) (c_u_law_area : CalD P w K mg base 4 "_law_area" s_u_law_area) : CalD P w K mg base 5 "_law_wish" s_u_law_wish := by
  refine cal_D (k := 4) (N := N_u_law_wish) T.d_u_law_wish sc_u_law_wish len_u_law_wish fun f cdv A outer sh H E hr => ⟨t_u_law_wish K, w_u_law_wish, ?_, e_u_law_wish K, r_u_law_wish⟩
  exact (pss_cons (ps_par3 (i := 2) (j := 3) (l := 4) rfl sc_u_law_wish.nd rfl rfl rfl (by decide) (by decide) (by decide) rfl rfl rfl (pa_cons (pe_cD c_u_law_area hr (by decide) (by rfl) (pa_cons (pv 0) (pa_cons (pv 1) pa_nil))) (pa_cons (pe_cD c_u_law_area hr (by decide) (by rfl) (pa_cons (pv 0) (pa_cons (pv 1) pa_nil))) (pa_cons (pe_cD c_u_law_some hr (by decide) (by rfl) (pa_cons (pv 0) (pa_cons (pe_lst (pa_cons pe_int (pa_cons pe_int (pa_cons pe_int (pa_cons pe_int (pa_cons pe_int (pa_cons pe_int (pa_cons pe_int (pa_cons pe_int pa_nil))))))))) pa_nil))) pa_nil))) (by rfl))
      (pss_cons (ps_set (i := 5) sc_u_law_wish.nd rfl (.inl rfl) (pe_lst (pa_cons (pe_tup (pa_cons pe_str (pa_cons (pv 2) pa_nil))) (pa_cons (pe_tup (pa_cons pe_str (pa_cons (pv 2) (pa_cons (pv 4) pa_nil)))) (pa_cons (pe_tup (pa_cons pe_str (pa_cons (pv 2) (pa_cons (pv 3) (pa_cons (pv 4) pa_nil))))) (pa_cons (pe_tup (pa_cons pe_str (pa_cons (pv 2) (pa_cons (pv 3) pa_nil)))) (pa_cons (pe_tup (pa_cons pe_str (pa_cons (pv 2) (pa_cons (pv 4) pa_nil)))) pa_nil)))))))
      (pss_one (ps_ret (pe_cD c_u_law_some hr (by decide) (by rfl) (pa_cons (pv 0) (pa_cons (pv 5) pa_nil)))))))
theorem ok_u_law_places (T : Txt K mg) (c_u_law_draw : CalD P w K mg base 1 "_law_draw" s_u_law_draw) : CalD P w K mg base 2 "_law_places" s_u_law_places := by
  refine cal_D (k := 1) (N := N_u_law_places) T.d_u_law_places sc_u_law_places len_u_law_places fun f cdv A outer sh H E hr => ⟨t_u_law_places K, w_u_law_places, ?_, e_u_law_places K, r_u_law_places⟩
  exact (pss_cons (ps_set (i := 3) sc_u_law_places.nd rfl (.inl rfl) (pe_callTy cb_tup (by rfl) T.n_tuple boot_tuple_ (pa_cons (pe_lc (own := [("axis", 6)]) (g := (gName 6)) (tt := tYes) (te := (tCall (lift K s_u_law_draw) [] L2.E0 (tCons (tVar 0) (tCons (tC (.int 6)) tNil)))) rfl sc_u_law_places.nd (pi_range1 (by rfl) T.n_range (pa_cons (pv 1) pa_nil)) (blkOk_by (N := N_u_law_places) (sc := (defScope s_u_law_places_st)) (by decide +kernel)) (fun _ _ _ _ _ => (pg_name (i := 6) sc_u_law_places.nd rfl (.inl rfl))) (fun _ _ _ _ _ => pts_nil) (fun _ _ _ _ _ => (pe_cD c_u_law_draw hr (by decide) (by rfl) (pa_cons (pv 0) (pa_cons pe_int pa_nil))))) pa_nil)))
      (pss_cons (ps_set (i := 4) sc_u_law_places.nd rfl (.inl rfl) (pe_lstM (pa_cons (pv 3) pa_nil)))
      (pss_cons (ps_for PassesOwn.never rfl (pi_range1 (by rfl) T.n_range (pa_cons (pv 2) pa_nil)) (pg_name (i := 5) sc_u_law_places.nd rfl (.inl rfl)) (pss_cons (ps_if (pt_cmpR op_gt (pe_cD c_u_law_draw hr (by decide) (by rfl) (pa_cons (pv 0) (pa_cons pe_int pa_nil))) pe_int (nomark _)) (pss_one (ps_set (i := 3) sc_u_law_places.nd rfl (.inl rfl) (pe_callTy cb_tup (by rfl) T.n_tuple boot_tuple_ (pa_cons (pe_lc (own := [("one", 7)]) (g := (gName 7)) (tt := tYes) (te := (tCB rMaxD (tCons (tC (.int 0)) (tCons (tCB rMinD (tCons (tC (.int 6)) (tCons (tOp (rI0 fun i j => .int (i - j)) (tOp (rI0 fun i j => .int (i + j)) (tVar 7) (tCall (lift K s_u_law_draw) [] L2.E0 (tCons (tVar 0) (tCons (tC (.int 3)) tNil)))) (tC (.int 1))) tNil))) tNil)))) rfl sc_u_law_places.nd (pi_tup (pv 3)) (blkOk_by (N := N_u_law_places) (sc := (defScope s_u_law_places_st)) (by decide +kernel)) (fun _ _ _ _ _ => (pg_name (i := 7) sc_u_law_places.nd rfl (.inl rfl))) (fun _ _ _ _ _ => pts_nil) (fun _ _ _ _ _ => (pe_callB (cb_max rfl) (by rfl) T.n_max boot_max_ (pa_cons pe_int (pa_cons (pe_callB (cb_min rfl) (by rfl) T.n_min boot_min_ (pa_cons pe_int (pa_cons (pe_op op_sub (pe_op op_add (pv 7) (pe_cD c_u_law_draw hr (by decide) (by rfl) (pa_cons (pv 0) (pa_cons pe_int pa_nil)))) pe_int) pa_nil))) pa_nil))))) pa_nil)))) pss_nil)
      (pss_one (ps_expr (pe_bm PySem.F.plainAttrs_list PySem.F.slot_list_append PySem.F.type_list_append mt_append (pv 4) (pa_cons (pv 3) pa_nil))))))
      (pss_one (ps_ret (pv 4))))))
theorem ok_u_law_count (T : Txt K mg) (c_u_law_in : CalD P w K mg base 1 "_law_in" s_u_law_in) (c_u_law_breaks : CalD P w K mg base 2 "_law_breaks" s_u_law_breaks) : CalD P w K mg base 3 "_law_count" s_u_law_count := by
  refine cal_D (k := 2) (N := N_u_law_count) T.d_u_law_count sc_u_law_count len_u_law_count fun f cdv A outer sh H E hr => ⟨t_u_law_count K, w_u_law_count, ?_, e_u_law_count K, r_u_law_count⟩
  exact (pss_cons (ps_if (pt_val (pe_callB (cr_any rfl) (by rfl) T.n_any boot_any_ (pa_cons (pe_lc (own := [("beat", 8)]) (g := (gName 8)) (tt := tYes) (te := (tCall (lift K s_u_law_breaks) [] L2.E0 (tCons (tVar 0) (tCons (tVar 1) (tCons (tVar 8) tNil))))) rfl sc_u_law_count.nd (pi_range1 (by rfl) T.n_range (pa_cons (pe_op op_add (pv 2) pe_int) pa_nil)) (blkOk_by (N := N_u_law_count) (sc := (defScope s_u_law_count_st)) (by decide +kernel)) (fun _ _ _ _ _ => (pg_name (i := 8) sc_u_law_count.nd rfl (.inl rfl))) (fun _ _ _ _ _ => pts_nil) (fun _ _ _ _ _ => (pe_cD c_u_law_breaks hr (by decide) (by rfl) (pa_cons (pv 0) (pa_cons (pv 1) (pa_cons (pv 8) pa_nil)))))) pa_nil))) (pss_one (ps_ret pe_non)) pss_nil)
      (pss_cons (ps_asg (pe_tup (pa_cons (pe_ix ix_seq (pv 0) pe_int (fun _ _ => rfl)) (pa_cons (pe_lc (own := [("place", 9)]) (g := (gName 9)) (tt := tYes) (te := (tCall (lift K s_u_law_in) [] L2.E0 (tCons (tOp (rIx K) (tVar 0) (tC (.int 1))) (tCons (tVar 9) tNil)))) rfl sc_u_law_count.nd (pi_list (pe_slice sl_list (pv 1) po_none (po_some (pe_op op_add (pv 2) pe_int)))) (blkOk_by (N := N_u_law_count) (sc := (defScope s_u_law_count_st)) (by decide +kernel)) (fun _ _ _ _ _ => (pg_name (i := 9) sc_u_law_count.nd rfl (.inl rfl))) (fun _ _ _ _ _ => pts_nil) (fun _ _ _ _ _ => (pe_cD c_u_law_in hr (by decide) (by rfl) (pa_cons (pe_ix ix_seq (pv 0) pe_int (fun _ _ => rfl)) (pa_cons (pv 9) pa_nil))))) pa_nil))) (pg_tup rfl (pgs_cons (pg_name (i := 3) sc_u_law_count.nd rfl (.inl rfl)) (pgs_cons (pg_name (i := 4) sc_u_law_count.nd rfl (.inr rfl)) pgs_nil))))
      (pss_cons (ps_if (pt_cmpR op_eq (pv 3) pe_str (nomark _)) (pss_one (ps_ret pe_int)) pss_nil)
      (pss_cons (ps_if (pt_cmpR op_eq (pv 3) pe_str (nomark _)) (pss_one (ps_ret (pe_ifExp (pt_val (pe_callB (cr_any rfl) (by rfl) T.n_any boot_any_ (pa_cons (pv 4) pa_nil))) (pe_un un_neg pe_int) (pv 2)))) pss_nil)
      (pss_cons (ps_if (pt_cmpR op_eq (pv 3) pe_str (nomark _)) (pss_one (ps_ret (pe_callTy cb_int (by rfl) T.n_int boot_int_ (pa_cons (pe_callB (cr_any rfl) (by rfl) T.n_any boot_any_ (pa_cons (pv 4) pa_nil)) pa_nil)))) pss_nil)
      (pss_cons (ps_if (pt_cmpR op_eq (pv 3) pe_str (nomark _)) (pss_cons (ps_set (i := 5) sc_u_law_count.nd rfl (.inl rfl) pe_int)
      (pss_cons (ps_while PassesOwn.never (PW.pt (pw_and (pt_cmpR op_le (pv 5) (pv 2) (nomark _)) (pw_and1 (pt_not (pt_val (pe_ix ix_seq (pv 4) (pe_op op_sub (pv 2) (pv 5)) (fun _ _ => rfl))))))) (pss_one (ps_set (i := 5) sc_u_law_count.nd rfl (.inl rfl) (pe_op op_add (pv 5) pe_int))))
      (pss_one (ps_ret (pv 5))))) pss_nil)
      (pss_cons (ps_set (i := 6) sc_u_law_count.nd rfl (.inr rfl) (pe_lc (own := [("place", 9)]) (g := (gName 9)) (tt := tYes) (te := (tCall (lift K s_u_law_in) [] L2.E0 (tCons (tOp (rIx K) (tVar 0) (tC (.int 2))) (tCons (tVar 9) tNil)))) rfl sc_u_law_count.nd (pi_list (pe_slice sl_list (pv 1) po_none (po_some (pe_op op_add (pv 2) pe_int)))) (blkOk_by (N := N_u_law_count) (sc := (defScope s_u_law_count_st)) (by decide +kernel)) (fun _ _ _ _ _ => (pg_name (i := 9) sc_u_law_count.nd rfl (.inl rfl))) (fun _ _ _ _ _ => pts_nil) (fun _ _ _ _ _ => (pe_cD c_u_law_in hr (by decide) (by rfl) (pa_cons (pe_ix ix_seq (pv 0) pe_int (fun _ _ => rfl)) (pa_cons (pv 9) pa_nil))))))
      (pss_cons (ps_setLc (i := 7) (own := [("beat", 8)]) (g := (gName 8)) (tt := (tAnd (tB (tOp (rIx K) (tVar 4) (tVar 8))) (tNot (tB (tCB (rAny K) (tCons (tSl (rSlL K) (tVar 6) (tPart (tVar 8)) tNoPart) tNil)))))) (te := (tVar 8)) rfl sc_u_law_count.nd rfl rfl (sw_true rfl rfl rfl (by decide +kernel)) (pi_range1 (by rfl) T.n_range (pa_cons (pe_op op_add (pv 2) pe_int) pa_nil)) (blkOk_by (N := N_u_law_count) (sc := (defScope s_u_law_count_st)) (by decide +kernel)) (fun _ _ _ _ _ => (pg_name (i := 8) sc_u_law_count.nd rfl (.inl rfl))) (fun _ _ _ _ _ => (pts_one (PW.pt (pw_and (pt_val (pe_ix ix_seq (pv 4) (pv 8) (fun _ _ => rfl))) (pw_and1 (pt_not (pt_val (pe_callB (cr_any rfl) (by rfl) T.n_any boot_any_ (pa_cons (pe_slice sl_list (pv 6) (po_some (pv 8)) po_none) pa_nil))))))))) (fun _ _ _ _ _ => (pv 8)))
      (pss_one (ps_ret (pe_ifExp (pt_cmpR op_gt (pe_callB cb_len (by rfl) T.n_len boot_len_ (pa_cons (pv 7) pa_nil)) pe_int (nomark _)) (pe_op op_add (pe_op op_sub (pv 2) (pe_ix ix_seq (pv 7) pe_int (fun _ _ => rfl))) pe_int) pe_int)))))))))))
theorem ok_u_law_is (T : Txt K mg)  : CalD P w K mg base 1 "_law_is" s_u_law_is := by
  refine cal_D (k := 0) (N := N_u_law_is) T.d_u_law_is sc_u_law_is len_u_law_is fun f cdv A outer sh H E hr => ⟨t_u_law_is K, w_u_law_is, ?_, e_u_law_is K, r_u_law_is⟩
  exact (pss_cons (ps_if (PW.pt (pw_or (pt_not (pt_val (pe_callB call_isi (by rfl) T.n_isinstance boot_isinstance_ (pa_cons (pv 0) (pa_cons (pe_bltn (v := .ty "tuple") (by rfl) T.n_tuple boot_tuple_ rfl) pa_nil))))) (pw_or1 (pt_cmpR op_ne (pe_callB cb_len (by rfl) T.n_len boot_len_ (pa_cons (pv 0) pa_nil)) (pe_callB cb_len (by rfl) T.n_len boot_len_ (pa_cons (pv 1) pa_nil)) (nomark _))))) (pss_one (ps_ret pe_bl)) pss_nil)
      (pss_cons (ps_for PassesOwn.never rfl (RZ.pi_zipA (by rfl) T.n_zip (pa_cons (pv 0) (pa_cons (pv 1) pa_nil))) (pg_tup rfl (pgs_cons (pg_name (i := 2) sc_u_law_is.nd rfl (.inl rfl)) (pgs_cons (pg_name (i := 3) sc_u_law_is.nd rfl (.inl rfl)) pgs_nil))) (pss_one (ps_if (PW.pt (pw_or (pt_cmpR op_isNo (pv 2) pe_non (nomark _)) (pw_or1 (pt_cmpR op_isNo (pv 3) pe_non (nomark _))))) (pss_one (ps_if (PW.pt (pw_or (pt_cmpR op_notNo (pv 2) pe_non (nomark _)) (pw_or1 (pt_cmpR op_notNo (pv 3) pe_non (nomark _))))) (pss_one (ps_ret pe_bl)) pss_nil)) (pss_one (ps_if (PW.pt (pw_or (pt_val (pe_callB call_isi (by rfl) T.n_isinstance boot_isinstance_ (pa_cons (pv 2) (pa_cons (pe_bltn (v := .ty "bool") (by rfl) T.n_bool boot_bool_ rfl) pa_nil)))) (pw_or (pt_not (pt_val (pe_callB call_isi (by rfl) T.n_isinstance boot_isinstance_ (pa_cons (pv 2) (pa_cons (pe_bltn (v := .ty "int") (by rfl) T.n_int boot_int_ rfl) pa_nil))))) (pw_or1 (pt_cmpR op_ne (pv 2) (pv 3) (nomark _)))))) (pss_one (ps_ret pe_bl)) pss_nil)))))
      (pss_one (ps_ret pe_bl))))
theorem ok_u_law_is_walk_right (T : Txt K mg) (c_begun : CalD P w K mg base 4 "begun" s_begun) (c_counted : CalD P w K mg base 5 "counted" s_counted) (c_u_law_count : CalD P w K mg base 3 "_law_count" s_u_law_count) (c_u_law_is : CalD P w K mg base 1 "_law_is" s_u_law_is) : CalD P w K mg base 6 "_law_is_walk_right" s_u_law_is_walk_right := by
  refine cal_D (k := 5) (N := N_u_law_is_walk_right) T.d_u_law_is_walk_right sc_u_law_is_walk_right len_u_law_is_walk_right fun f cdv A outer sh H E hr => ⟨t_u_law_is_walk_right K, w_u_law_is_walk_right, ?_, e_u_law_is_walk_right K, r_u_law_is_walk_right⟩
  exact (pss_cons (ps_setLc (i := 3) (own := [("at", 2)]) (g := (gName 2)) (tt := tYes) (te := (tCB (rTupD K) (tCons (tLc (iTup K (tVar 0)) (gName 4) tYes (tCall (lift K s_u_law_count) [] L2.E0 (tCons (tVar 4) (tCons (tVar 1) (tCons (tVar 2) tNil)))) [4]) tNil))) rfl sc_u_law_is_walk_right.nd rfl rfl (sw_true rfl rfl rfl (by decide +kernel)) (pi_range1 (by rfl) T.n_range (pa_cons (pe_callB cb_len (by rfl) T.n_len boot_len_ (pa_cons (pv 1) pa_nil)) pa_nil)) (blkOk_by (N := N_u_law_is_walk_right) (sc := (defScope s_u_law_is_walk_right_st)) (by decide +kernel)) (fun _ _ _ _ _ => (pg_name (i := 2) sc_u_law_is_walk_right.nd rfl (.inr rfl))) (fun _ _ _ _ _ => pts_nil) (fun _ _ _ _ _ => (pe_callTy cb_tup (by rfl) T.n_tuple boot_tuple_ (pa_cons (pe_lc (own := [("wish", 4)]) (g := (gName 4)) (tt := tYes) (te := (tCall (lift K s_u_law_count) [] L2.E0 (tCons (tVar 4) (tCons (tVar 1) (tCons (tVar 2) tNil))))) rfl sc_u_law_is_walk_right.nd (pi_tup (pv 0)) (blkOk_by (N := N_u_law_is_walk_right) (sc := (relS _ (defScope s_u_law_is_walk_right_st))) (by decide +kernel)) (fun _ _ _ _ _ => (pg_name (i := 4) sc_u_law_is_walk_right.nd rfl (.inl rfl))) (fun _ _ _ _ _ => pts_nil) (fun _ _ _ _ _ => (pe_cD c_u_law_count hr (by decide) (by rfl) (pa_cons (pv 4) (pa_cons (pv 1) (pa_cons (pv 2) pa_nil)))))) pa_nil))))
      (pss_cons (ps_if (pt_not (pt_val (pe_cD c_u_law_is hr (by decide) (by rfl) (pa_cons (pe_cD c_begun hr (by decide) (by rfl) (pa_cons (pv 0) (pa_cons (pe_ix ix_seq (pv 1) pe_int (fun _ _ => rfl)) pa_nil))) (pa_cons (pe_ix ix_seq (pv 3) pe_int (fun _ _ => rfl)) pa_nil))))) (pss_one (ps_ret pe_bl)) pss_nil)
      (pss_cons (ps_for PassesOwn.never rfl (pi_range2 (by rfl) T.n_range (pa_cons pe_int (pa_cons (pe_callB cb_len (by rfl) T.n_len boot_len_ (pa_cons (pv 1) pa_nil)) pa_nil))) (pg_name (i := 2) sc_u_law_is_walk_right.nd rfl (.inl rfl)) (pss_one (ps_if (pt_not (pt_val (pe_cD c_u_law_is hr (by decide) (by rfl) (pa_cons (pe_cD c_counted hr (by decide) (by rfl) (pa_cons (pv 0) (pa_cons (pe_ix ix_seq (pv 3) (pe_op op_sub (pv 2) pe_int) (fun _ _ => rfl)) (pa_cons (pe_ix ix_seq (pv 1) (pv 2) (fun _ _ => rfl)) pa_nil)))) (pa_cons (pe_ix ix_seq (pv 3) (pv 2) (fun _ _ => rfl)) pa_nil))))) (pss_one (ps_ret pe_bl)) pss_nil)))
      (pss_one (ps_ret pe_bl)))))
theorem ok_u_law_are_known_right (T : Txt K mg) (c_begun : CalD P w K mg base 4 "begun" s_begun) (c_u_law_is : CalD P w K mg base 1 "_law_is" s_u_law_is) (c_u_law_is_walk_right : CalD P w K mg base 6 "_law_is_walk_right" s_u_law_is_walk_right) : CalD P w K mg base 7 "_law_are_known_right" s_u_law_are_known_right := by
  refine cal_D (k := 6) (N := N_u_law_are_known_right) T.d_u_law_are_known_right sc_u_law_are_known_right len_u_law_are_known_right fun f cdv A outer sh H E hr => ⟨t_u_law_are_known_right K, w_u_law_are_known_right, ?_, e_u_law_are_known_right K, r_u_law_are_known_right⟩
  exact (pss_cons (ps_set (i := 0) sc_u_law_are_known_right.nd rfl (.inl rfl) (pe_lst (pa_cons (pe_tup (pa_cons pe_int pa_nil)) (pa_cons (pe_tup (pa_cons pe_int pa_nil)) (pa_cons (pe_tup (pa_cons pe_int pa_nil)) (pa_cons (pe_tup (pa_cons pe_int pa_nil)) (pa_cons (pe_tup (pa_cons pe_int pa_nil)) (pa_cons (pe_tup (pa_cons pe_int pa_nil)) (pa_cons (pe_tup (pa_cons pe_int pa_nil)) (pa_cons (pe_tup (pa_cons pe_int pa_nil)) pa_nil))))))))))
      (pss_cons (ps_asg (pe_tup (pa_cons (pe_tup (pa_cons (pe_tup (pa_cons (pe_tup (pa_cons pe_int (pa_cons pe_int pa_nil))) pa_nil)) pa_nil)) (pa_cons (pe_tup (pa_cons (pe_tup (pa_cons (pe_tup (pa_cons pe_int (pa_cons pe_int pa_nil))) pa_nil)) pa_nil)) pa_nil))) (pg_tup rfl (pgs_cons (pg_name (i := 1) sc_u_law_are_known_right.nd rfl (.inl rfl)) (pgs_cons (pg_name (i := 2) sc_u_law_are_known_right.nd rfl (.inl rfl)) pgs_nil))))
      (pss_cons (ps_set (i := 3) sc_u_law_are_known_right.nd rfl (.inl rfl) (pe_tup (pa_cons (pe_tup (pa_cons pe_str (pa_cons (pv 1) (pa_cons (pv 2) (pa_cons pe_int pa_nil))))) (pa_cons (pe_tup (pa_cons pe_str (pa_cons (pv 1) (pa_cons (pv 2) (pa_cons pe_int pa_nil))))) (pa_cons (pe_tup (pa_cons pe_str (pa_cons (pv 2) (pa_cons pe_int pa_nil)))) (pa_cons (pe_tup (pa_cons pe_str (pa_cons (pv 2) (pa_cons pe_int pa_nil)))) pa_nil))))))
      (pss_cons (ps_set (i := 4) sc_u_law_are_known_right.nd rfl (.inl rfl) (pe_tup (pa_cons (pe_tup (pa_cons pe_str (pa_cons (pv 1) (pa_cons (pv 2) pa_nil)))) (pa_cons (pe_tup (pa_cons pe_str (pa_cons (pv 2) (pa_cons (pv 1) pa_nil)))) (pa_cons (pe_tup (pa_cons pe_str (pa_cons (pe_tup (pa_cons (pe_tup (pa_cons (pe_tup (pa_cons pe_int (pa_cons pe_int pa_nil))) pa_nil)) pa_nil)) pa_nil))) (pa_cons (pe_tup (pa_cons pe_str (pa_cons (pe_tup (pa_cons (pe_tup (pa_cons (pe_tup (pa_cons pe_int (pa_cons pe_int pa_nil))) pa_nil)) pa_nil)) (pa_cons pe_int pa_nil)))) pa_nil))))))
      (pss_cons (ps_if (PW.pt (pw_or (pt_not (pt_val (pe_cD c_u_law_is hr (by decide) (by rfl) (pa_cons (pe_cD c_begun hr (by decide) (by rfl) (pa_cons (pv 3) (pa_cons (pe_tup (pa_cons pe_int pa_nil)) pa_nil))) (pa_cons (pe_tup (pa_cons pe_int (pa_cons pe_int (pa_cons (pe_un un_neg pe_int) (pa_cons pe_int pa_nil))))) pa_nil))))) (pw_or1 (pt_not (pt_val (pe_cD c_u_law_is hr (by decide) (by rfl) (pa_cons (pe_cD c_begun hr (by decide) (by rfl) (pa_cons (pv 4) (pa_cons (pe_tup (pa_cons pe_int pa_nil)) pa_nil))) (pa_cons (pe_tup (pa_cons pe_non (pa_cons pe_int (pa_cons pe_int (pa_cons pe_int pa_nil))))) pa_nil)))))))) (pss_one (ps_ret pe_bl)) pss_nil)
      (pss_one (ps_ret (pe_and (pe_cD c_u_law_is_walk_right hr (by decide) (by rfl) (pa_cons (pv 3) (pa_cons (pv 0) pa_nil))) (pe_and (pe_cD c_u_law_is_walk_right hr (by decide) (by rfl) (pa_cons (pv 4) (pa_cons (pv 0) pa_nil))) (pe_one (pe_cD c_u_law_is_walk_right hr (by decide) (by rfl) (pa_cons (pe_tup pa_nil) (pa_cons (pv 0) pa_nil)))))))))))))
theorem ok_law (T : Txt K mg) (c_u_law_hand : CalD P w K mg base 1 "_law_hand" s_u_law_hand) (c_u_law_draw : CalD P w K mg base 1 "_law_draw" s_u_law_draw) (c_u_law_some : CalD P w K mg base 2 "_law_some" s_u_law_some) (c_u_law_wish : CalD P w K mg base 5 "_law_wish" s_u_law_wish) (c_u_law_places : CalD P w K mg base 2 "_law_places" s_u_law_places) (c_u_law_is_walk_right : CalD P w K mg base 6 "_law_is_walk_right" s_u_law_is_walk_right) (c_u_law_are_known_right : CalD P w K mg base 7 "_law_are_known_right" s_u_law_are_known_right) : CalD P w K mg base 8 "law" s_law := by
  refine cal_D (k := 7) (N := N_law) T.d_law sc_law len_law fun f cdv A outer sh H E hr => ⟨t_law K, w_law, ?_, e_law K, r_law⟩
  exact (pss_cons (ps_set (i := 1) sc_law.nd rfl (.inr rfl) (pe_cD c_u_law_hand hr (by decide) (by rfl) (pa_cons (pv 0) pa_nil)))
      (pss_cons (ps_if (pt_not (pt_val (pe_cD0 c_u_law_are_known_right hr (by decide) (by rfl)))) (pss_one (ps_ret pe_bl)) pss_nil)
      (pss_cons (ps_for PassesOwn.never rfl (pi_range1 (by rfl) T.n_range (pa_cons pe_int pa_nil)) (pg_name (i := 2) sc_law.nd rfl (.inl rfl)) (pss_cons (ps_set (i := 3) sc_law.nd rfl (.inr rfl) (pe_op op_add pe_int (pe_cD c_u_law_draw hr (by decide) (by rfl) (pa_cons (pv 1) (pa_cons pe_int pa_nil)))))
      (pss_cons (ps_set (i := 4) sc_law.nd rfl (.inl rfl) (pe_callTy cb_tup (by rfl) T.n_tuple boot_tuple_ (pa_cons (pe_lc (own := [("again", 5)]) (g := (gName 5)) (tt := tYes) (te := (tCall (lift K s_u_law_wish) [] L2.E0 (tCons (tVar 1) (tCons (tVar 3) tNil)))) rfl sc_law.nd (pi_range1 (by rfl) T.n_range (pa_cons (pe_cD c_u_law_some hr (by decide) (by rfl) (pa_cons (pv 1) (pa_cons (pe_lst (pa_cons pe_int (pa_cons pe_int (pa_cons pe_int pa_nil)))) pa_nil))) pa_nil)) (blkOk_by (N := N_law) (sc := (defScope s_law_st)) (by decide +kernel)) (fun _ _ _ _ _ => (pg_name (i := 5) sc_law.nd rfl (.inl rfl))) (fun _ _ _ _ _ => pts_nil) (fun _ _ _ _ _ => (pe_cD c_u_law_wish hr (by decide) (by rfl) (pa_cons (pv 1) (pa_cons (pv 3) pa_nil))))) pa_nil)))
      (pss_one (ps_if (pt_not (pt_val (pe_cD c_u_law_is_walk_right hr (by decide) (by rfl) (pa_cons (pv 4) (pa_cons (pe_cD c_u_law_places hr (by decide) (by rfl) (pa_cons (pv 1) (pa_cons (pv 3) (pa_cons (pe_cD c_u_law_some hr (by decide) (by rfl) (pa_cons (pv 1) (pa_cons (pe_lst (pa_cons pe_int (pa_cons pe_int (pa_cons pe_int (pa_cons pe_int pa_nil))))) pa_nil))) pa_nil)))) pa_nil))))) (pss_one (ps_ret pe_bl)) pss_nil)))))
      (pss_one (ps_ret pe_bl)))))
theorem okF_law {f : Addr} {fd : FuncData} (F : Fun K "law" "law" s_law_st f fd) (T : Txt K mg) (c_u_law_hand : CalD P w K mg base 1 "_law_hand" s_u_law_hand) (c_u_law_draw : CalD P w K mg base 1 "_law_draw" s_u_law_draw) (c_u_law_some : CalD P w K mg base 2 "_law_some" s_u_law_some) (c_u_law_wish : CalD P w K mg base 5 "_law_wish" s_u_law_wish) (c_u_law_places : CalD P w K mg base 2 "_law_places" s_u_law_places) (c_u_law_is_walk_right : CalD P w K mg base 6 "_law_is_walk_right" s_u_law_is_walk_right) (c_u_law_are_known_right : CalD P w K mg base 7 "_law_are_known_right" s_u_law_are_known_right) : FnOk P w K mg base L2.CX0 8 f fd ["script"] (lift K s_law) := by
  refine fn_D (k := 7) (N := N_law) F sc_law len_law fun cdv A outer sh H E hr => ⟨t_law K, w_law, ?_, e_law K, r_law⟩
  exact (pss_cons (ps_set (i := 1) sc_law.nd rfl (.inr rfl) (pe_cD c_u_law_hand hr (by decide) (by rfl) (pa_cons (pv 0) pa_nil)))
      (pss_cons (ps_if (pt_not (pt_val (pe_cD0 c_u_law_are_known_right hr (by decide) (by rfl)))) (pss_one (ps_ret pe_bl)) pss_nil)
      (pss_cons (ps_for PassesOwn.never rfl (pi_range1 (by rfl) T.n_range (pa_cons pe_int pa_nil)) (pg_name (i := 2) sc_law.nd rfl (.inl rfl)) (pss_cons (ps_set (i := 3) sc_law.nd rfl (.inr rfl) (pe_op op_add pe_int (pe_cD c_u_law_draw hr (by decide) (by rfl) (pa_cons (pv 1) (pa_cons pe_int pa_nil)))))
      (pss_cons (ps_set (i := 4) sc_law.nd rfl (.inl rfl) (pe_callTy cb_tup (by rfl) T.n_tuple boot_tuple_ (pa_cons (pe_lc (own := [("again", 5)]) (g := (gName 5)) (tt := tYes) (te := (tCall (lift K s_u_law_wish) [] L2.E0 (tCons (tVar 1) (tCons (tVar 3) tNil)))) rfl sc_law.nd (pi_range1 (by rfl) T.n_range (pa_cons (pe_cD c_u_law_some hr (by decide) (by rfl) (pa_cons (pv 1) (pa_cons (pe_lst (pa_cons pe_int (pa_cons pe_int (pa_cons pe_int pa_nil)))) pa_nil))) pa_nil)) (blkOk_by (N := N_law) (sc := (defScope s_law_st)) (by decide +kernel)) (fun _ _ _ _ _ => (pg_name (i := 5) sc_law.nd rfl (.inl rfl))) (fun _ _ _ _ _ => pts_nil) (fun _ _ _ _ _ => (pe_cD c_u_law_wish hr (by decide) (by rfl) (pa_cons (pv 1) (pa_cons (pv 3) pa_nil))))) pa_nil)))
      (pss_one (ps_if (pt_not (pt_val (pe_cD c_u_law_is_walk_right hr (by decide) (by rfl) (pa_cons (pv 4) (pa_cons (pe_cD c_u_law_places hr (by decide) (by rfl) (pa_cons (pv 1) (pa_cons (pv 3) (pa_cons (pe_cD c_u_law_some hr (by decide) (by rfl) (pa_cons (pv 1) (pa_cons (pe_lst (pa_cons pe_int (pa_cons pe_int (pa_cons pe_int (pa_cons pe_int pa_nil))))) pa_nil))) pa_nil)))) pa_nil))))) (pss_one (ps_ret pe_bl)) pss_nil)))))
      (pss_one (ps_ret pe_bl)))))
/-- the whole program -/
theorem ok_all {f : Addr} {fd : FuncData} (F : Fun K "law" "law" s_law_st f fd) (T : Txt K mg) : FnOk P w K mg base L2.CX0 8 f fd ["script"] (lift K s_law) := by
  have c_in_box : CalD P w K mg base 1 "in_box" s_in_box := ok_in_box T 
  have c_u_law_hand : CalD P w K mg base 1 "_law_hand" s_u_law_hand := ok_u_law_hand T 
  have c_u_law_draw : CalD P w K mg base 1 "_law_draw" s_u_law_draw := ok_u_law_draw T 
  have c_u_law_in : CalD P w K mg base 1 "_law_in" s_u_law_in := ok_u_law_in T 
  have c_u_law_is : CalD P w K mg base 1 "_law_is" s_u_law_is := ok_u_law_is T 
  have c_lies_in : CalD P w K mg base 2 "lies_in" s_lies_in := ok_lies_in T c_in_box
  have c_u_law_some : CalD P w K mg base 2 "_law_some" s_u_law_some := ok_u_law_some T c_u_law_draw
  have c_u_law_breaks : CalD P w K mg base 2 "_law_breaks" s_u_law_breaks := ok_u_law_breaks T c_u_law_in
  have c_u_law_places : CalD P w K mg base 2 "_law_places" s_u_law_places := ok_u_law_places T c_u_law_draw
  have c_begun_one : CalD P w K mg base 3 "begun_one" s_begun_one := ok_begun_one T c_lies_in
  have c_waited : CalD P w K mg base 3 "waited" s_waited := ok_waited T c_lies_in
  have c_u_law_box : CalD P w K mg base 3 "_law_box" s_u_law_box := ok_u_law_box T c_u_law_draw c_u_law_some
  have c_u_law_count : CalD P w K mg base 3 "_law_count" s_u_law_count := ok_u_law_count T c_u_law_in c_u_law_breaks
  have c_counted_one : CalD P w K mg base 4 "counted_one" s_counted_one := ok_counted_one T c_lies_in c_waited
  have c_begun : CalD P w K mg base 4 "begun" s_begun := ok_begun T c_begun_one
  have c_u_law_area : CalD P w K mg base 4 "_law_area" s_u_law_area := ok_u_law_area T c_u_law_some c_u_law_box
  have c_counted : CalD P w K mg base 5 "counted" s_counted := ok_counted T c_counted_one
  have c_u_law_wish : CalD P w K mg base 5 "_law_wish" s_u_law_wish := ok_u_law_wish T c_u_law_some c_u_law_area
  have c_u_law_is_walk_right : CalD P w K mg base 6 "_law_is_walk_right" s_u_law_is_walk_right := ok_u_law_is_walk_right T c_begun c_counted c_u_law_count c_u_law_is
  have c_u_law_are_known_right : CalD P w K mg base 7 "_law_are_known_right" s_u_law_are_known_right := ok_u_law_are_known_right T c_begun c_u_law_is c_u_law_is_walk_right
  exact okF_law F T c_u_law_hand c_u_law_draw c_u_law_some c_u_law_wish c_u_law_places c_u_law_is_walk_right c_u_law_are_known_right
end
theorem txt_mk {K : PySem.W.Frag} {h : Heap} {mg : Str → Option Value} (X : K.In h) (G : h.Ns mainGlobals mg) {f0 f1 f2 f3 f4 f5 f6 f7 f8 f9 f10 f11 f12 f13 f14 f15 f16 f17 f18 f19 f20 : Addr}
    {od0 an0 od1 an1 od2 an2 od3 an3 od4 an4 od5 an5 od6 an6 od7 an7 od8 an8 od9 an9 od10 an10 od11 an11 od12 an12 od13 an13 od14 an14 od15 an15 od16 an16 od17 an17 od18 an18 od19 an19 od20 an20 : Option Addr} {sl0 sl1 sl2 sl3 sl4 sl5 sl6 sl7 sl8 sl9 sl10 sl11 sl12 sl13 sl14 sl15 sl16 sl17 sl18 sl19 sl20 : Array (Option Value)} {oc0 kV0 dc0 pm0 cd0 ct0 oc1 kV1 dc1 pm1 cd1 ct1 oc2 kV2 dc2 pm2 cd2 ct2 oc3 kV3 dc3 pm3 cd3 ct3 oc4 kV4 dc4 pm4 cd4 ct4 oc5 kV5 dc5 pm5 cd5 ct5 oc6 kV6 dc6 pm6 cd6 ct6 oc7 kV7 dc7 pm7 cd7 ct7 oc8 kV8 dc8 pm8 cd8 ct8 oc9 kV9 dc9 pm9 cd9 ct9 oc10 kV10 dc10 pm10 cd10 ct10 oc11 kV11 dc11 pm11 cd11 ct11 oc12 kV12 dc12 pm12 cd12 ct12 oc13 kV13 dc13 pm13 cd13 ct13 oc14 kV14 dc14 pm14 cd14 ct14 oc15 kV15 dc15 pm15 cd15 ct15 oc16 kV16 dc16 pm16 cd16 ct16 oc17 kV17 dc17 pm17 cd17 ct17 oc18 kV18 dc18 pm18 cd18 ct18 oc19 kV19 dc19 pm19 cd19 ct19 oc20 kV20 dc20 pm20 cd20 ct20 : Value} {u_KEPT : Value}
    (a0 : PySem.W.nsIn K mainGlobals "in_box" = some (some (.ref f0))) (l0 : K.lookup f0 = some ⟨oc0, od0, .func (PySem.W.fnOf "in_box" "in_box" (defArgs s_in_box_st) (defBody s_in_box_st) (defScope s_in_box_st) .none kV0 dc0 pm0 an0 cd0 ct0), sl0⟩) (c0 : PySem.W.codeIn K cd0 "in_box" = true) (k0 : PySem.W.keepIn K (.ref f0) = true)
    (a1 : PySem.W.nsIn K mainGlobals "lies_in" = some (some (.ref f1))) (l1 : K.lookup f1 = some ⟨oc1, od1, .func (PySem.W.fnOf "lies_in" "lies_in" (defArgs s_lies_in_st) (defBody s_lies_in_st) (defScope s_lies_in_st) .none kV1 dc1 pm1 an1 cd1 ct1), sl1⟩) (c1 : PySem.W.codeIn K cd1 "lies_in" = true) (k1 : PySem.W.keepIn K (.ref f1) = true)
    (a2 : PySem.W.nsIn K mainGlobals "begun_one" = some (some (.ref f2))) (l2 : K.lookup f2 = some ⟨oc2, od2, .func (PySem.W.fnOf "begun_one" "begun_one" (defArgs s_begun_one_st) (defBody s_begun_one_st) (defScope s_begun_one_st) .none kV2 dc2 pm2 an2 cd2 ct2), sl2⟩) (c2 : PySem.W.codeIn K cd2 "begun_one" = true) (k2 : PySem.W.keepIn K (.ref f2) = true)
    (a3 : PySem.W.nsIn K mainGlobals "waited" = some (some (.ref f3))) (l3 : K.lookup f3 = some ⟨oc3, od3, .func (PySem.W.fnOf "waited" "waited" (defArgs s_waited_st) (defBody s_waited_st) (defScope s_waited_st) .none kV3 dc3 pm3 an3 cd3 ct3), sl3⟩) (c3 : PySem.W.codeIn K cd3 "waited" = true) (k3 : PySem.W.keepIn K (.ref f3) = true)
    (a4 : PySem.W.nsIn K mainGlobals "counted_one" = some (some (.ref f4))) (l4 : K.lookup f4 = some ⟨oc4, od4, .func (PySem.W.fnOf "counted_one" "counted_one" (defArgs s_counted_one_st) (defBody s_counted_one_st) (defScope s_counted_one_st) .none kV4 dc4 pm4 an4 cd4 ct4), sl4⟩) (c4 : PySem.W.codeIn K cd4 "counted_one" = true) (k4 : PySem.W.keepIn K (.ref f4) = true)
    (a5 : PySem.W.nsIn K mainGlobals "begun" = some (some (.ref f5))) (l5 : K.lookup f5 = some ⟨oc5, od5, .func (PySem.W.fnOf "begun" "begun" (defArgs s_begun_st) (defBody s_begun_st) (defScope s_begun_st) .none kV5 dc5 pm5 an5 cd5 ct5), sl5⟩) (c5 : PySem.W.codeIn K cd5 "begun" = true) (k5 : PySem.W.keepIn K (.ref f5) = true)
    (a6 : PySem.W.nsIn K mainGlobals "counted" = some (some (.ref f6))) (l6 : K.lookup f6 = some ⟨oc6, od6, .func (PySem.W.fnOf "counted" "counted" (defArgs s_counted_st) (defBody s_counted_st) (defScope s_counted_st) .none kV6 dc6 pm6 an6 cd6 ct6), sl6⟩) (c6 : PySem.W.codeIn K cd6 "counted" = true) (k6 : PySem.W.keepIn K (.ref f6) = true)
    (a7 : PySem.W.nsIn K mainGlobals "_law_hand" = some (some (.ref f7))) (l7 : K.lookup f7 = some ⟨oc7, od7, .func (PySem.W.fnOf "_law_hand" "_law_hand" (defArgs s_u_law_hand_st) (defBody s_u_law_hand_st) (defScope s_u_law_hand_st) .none kV7 dc7 pm7 an7 cd7 ct7), sl7⟩) (c7 : PySem.W.codeIn K cd7 "_law_hand" = true) (k7 : PySem.W.keepIn K (.ref f7) = true)
    (a8 : PySem.W.nsIn K mainGlobals "_law_draw" = some (some (.ref f8))) (l8 : K.lookup f8 = some ⟨oc8, od8, .func (PySem.W.fnOf "_law_draw" "_law_draw" (defArgs s_u_law_draw_st) (defBody s_u_law_draw_st) (defScope s_u_law_draw_st) .none kV8 dc8 pm8 an8 cd8 ct8), sl8⟩) (c8 : PySem.W.codeIn K cd8 "_law_draw" = true) (k8 : PySem.W.keepIn K (.ref f8) = true)
    (a9 : PySem.W.nsIn K mainGlobals "_law_some" = some (some (.ref f9))) (l9 : K.lookup f9 = some ⟨oc9, od9, .func (PySem.W.fnOf "_law_some" "_law_some" (defArgs s_u_law_some_st) (defBody s_u_law_some_st) (defScope s_u_law_some_st) .none kV9 dc9 pm9 an9 cd9 ct9), sl9⟩) (c9 : PySem.W.codeIn K cd9 "_law_some" = true) (k9 : PySem.W.keepIn K (.ref f9) = true)
    (a10 : PySem.W.nsIn K mainGlobals "_law_in" = some (some (.ref f10))) (l10 : K.lookup f10 = some ⟨oc10, od10, .func (PySem.W.fnOf "_law_in" "_law_in" (defArgs s_u_law_in_st) (defBody s_u_law_in_st) (defScope s_u_law_in_st) .none kV10 dc10 pm10 an10 cd10 ct10), sl10⟩) (c10 : PySem.W.codeIn K cd10 "_law_in" = true) (k10 : PySem.W.keepIn K (.ref f10) = true)
    (a11 : PySem.W.nsIn K mainGlobals "_law_breaks" = some (some (.ref f11))) (l11 : K.lookup f11 = some ⟨oc11, od11, .func (PySem.W.fnOf "_law_breaks" "_law_breaks" (defArgs s_u_law_breaks_st) (defBody s_u_law_breaks_st) (defScope s_u_law_breaks_st) .none kV11 dc11 pm11 an11 cd11 ct11), sl11⟩) (c11 : PySem.W.codeIn K cd11 "_law_breaks" = true) (k11 : PySem.W.keepIn K (.ref f11) = true)
    (a12 : PySem.W.nsIn K mainGlobals "_law_box" = some (some (.ref f12))) (l12 : K.lookup f12 = some ⟨oc12, od12, .func (PySem.W.fnOf "_law_box" "_law_box" (defArgs s_u_law_box_st) (defBody s_u_law_box_st) (defScope s_u_law_box_st) .none kV12 dc12 pm12 an12 cd12 ct12), sl12⟩) (c12 : PySem.W.codeIn K cd12 "_law_box" = true) (k12 : PySem.W.keepIn K (.ref f12) = true)
    (a13 : PySem.W.nsIn K mainGlobals "_law_area" = some (some (.ref f13))) (l13 : K.lookup f13 = some ⟨oc13, od13, .func (PySem.W.fnOf "_law_area" "_law_area" (defArgs s_u_law_area_st) (defBody s_u_law_area_st) (defScope s_u_law_area_st) .none kV13 dc13 pm13 an13 cd13 ct13), sl13⟩) (c13 : PySem.W.codeIn K cd13 "_law_area" = true) (k13 : PySem.W.keepIn K (.ref f13) = true)
    (a14 : PySem.W.nsIn K mainGlobals "_law_wish" = some (some (.ref f14))) (l14 : K.lookup f14 = some ⟨oc14, od14, .func (PySem.W.fnOf "_law_wish" "_law_wish" (defArgs s_u_law_wish_st) (defBody s_u_law_wish_st) (defScope s_u_law_wish_st) .none kV14 dc14 pm14 an14 cd14 ct14), sl14⟩) (c14 : PySem.W.codeIn K cd14 "_law_wish" = true) (k14 : PySem.W.keepIn K (.ref f14) = true)
    (a15 : PySem.W.nsIn K mainGlobals "_law_places" = some (some (.ref f15))) (l15 : K.lookup f15 = some ⟨oc15, od15, .func (PySem.W.fnOf "_law_places" "_law_places" (defArgs s_u_law_places_st) (defBody s_u_law_places_st) (defScope s_u_law_places_st) .none kV15 dc15 pm15 an15 cd15 ct15), sl15⟩) (c15 : PySem.W.codeIn K cd15 "_law_places" = true) (k15 : PySem.W.keepIn K (.ref f15) = true)
    (a16 : PySem.W.nsIn K mainGlobals "_law_count" = some (some (.ref f16))) (l16 : K.lookup f16 = some ⟨oc16, od16, .func (PySem.W.fnOf "_law_count" "_law_count" (defArgs s_u_law_count_st) (defBody s_u_law_count_st) (defScope s_u_law_count_st) .none kV16 dc16 pm16 an16 cd16 ct16), sl16⟩) (c16 : PySem.W.codeIn K cd16 "_law_count" = true) (k16 : PySem.W.keepIn K (.ref f16) = true)
    (a17 : PySem.W.nsIn K mainGlobals "_law_is" = some (some (.ref f17))) (l17 : K.lookup f17 = some ⟨oc17, od17, .func (PySem.W.fnOf "_law_is" "_law_is" (defArgs s_u_law_is_st) (defBody s_u_law_is_st) (defScope s_u_law_is_st) .none kV17 dc17 pm17 an17 cd17 ct17), sl17⟩) (c17 : PySem.W.codeIn K cd17 "_law_is" = true) (k17 : PySem.W.keepIn K (.ref f17) = true)
    (a18 : PySem.W.nsIn K mainGlobals "_law_is_walk_right" = some (some (.ref f18))) (l18 : K.lookup f18 = some ⟨oc18, od18, .func (PySem.W.fnOf "_law_is_walk_right" "_law_is_walk_right" (defArgs s_u_law_is_walk_right_st) (defBody s_u_law_is_walk_right_st) (defScope s_u_law_is_walk_right_st) .none kV18 dc18 pm18 an18 cd18 ct18), sl18⟩) (c18 : PySem.W.codeIn K cd18 "_law_is_walk_right" = true) (k18 : PySem.W.keepIn K (.ref f18) = true)
    (a19 : PySem.W.nsIn K mainGlobals "_law_are_known_right" = some (some (.ref f19))) (l19 : K.lookup f19 = some ⟨oc19, od19, .func (PySem.W.fnOf "_law_are_known_right" "_law_are_known_right" (defArgs s_u_law_are_known_right_st) (defBody s_u_law_are_known_right_st) (defScope s_u_law_are_known_right_st) .none kV19 dc19 pm19 an19 cd19 ct19), sl19⟩) (c19 : PySem.W.codeIn K cd19 "_law_are_known_right" = true) (k19 : PySem.W.keepIn K (.ref f19) = true)
    (a20 : PySem.W.nsIn K mainGlobals "law" = some (some (.ref f20))) (l20 : K.lookup f20 = some ⟨oc20, od20, .func (PySem.W.fnOf "law" "law" (defArgs s_law_st) (defBody s_law_st) (defScope s_law_st) .none kV20 dc20 pm20 an20 cd20 ct20), sl20⟩) (c20 : PySem.W.codeIn K cd20 "law" = true) (k20 : PySem.W.keepIn K (.ref f20) = true)
    (z_abs : PySem.W.nsIn K mainGlobals "abs" = some none)
    (z_all : PySem.W.nsIn K mainGlobals "all" = some none)
    (z_any : PySem.W.nsIn K mainGlobals "any" = some none)
    (z_bool : PySem.W.nsIn K mainGlobals "bool" = some none)
    (z_enumerate : PySem.W.nsIn K mainGlobals "enumerate" = some none)
    (z_int : PySem.W.nsIn K mainGlobals "int" = some none)
    (z_isinstance : PySem.W.nsIn K mainGlobals "isinstance" = some none)
    (z_len : PySem.W.nsIn K mainGlobals "len" = some none)
    (z_max : PySem.W.nsIn K mainGlobals "max" = some none)
    (z_min : PySem.W.nsIn K mainGlobals "min" = some none)
    (z_range : PySem.W.nsIn K mainGlobals "range" = some none)
    (z_tuple : PySem.W.nsIn K mainGlobals "tuple" = some none)
    (z_zip : PySem.W.nsIn K mainGlobals "zip" = some none)
    (y_KEPT : PySem.W.nsIn K mainGlobals "KEPT" = some (some u_KEPT)) (x_KEPT : RelV ((.int (-1))) u_KEPT)
    : Txt K mg :=
  ⟨(dfn_mk X G a0 l0 c0 k0 fun _ _ _ _ _ _ us hl => match us, hl with | [_, _], _ => rfl),
   (dfn_mk X G a1 l1 c1 k1 fun _ _ _ _ _ _ us hl => match us, hl with | [_, _], _ => rfl),
   (dfn_mk X G a2 l2 c2 k2 fun _ _ _ _ _ _ us hl => match us, hl with | [_, _], _ => rfl),
   (dfn_mk X G a3 l3 c3 k3 fun _ _ _ _ _ _ us hl => match us, hl with | [_, _, _, _], _ => rfl),
   (dfn_mk X G a4 l4 c4 k4 fun _ _ _ _ _ _ us hl => match us, hl with | [_, _, _], _ => rfl),
   (dfn_mk X G a5 l5 c5 k5 fun _ _ _ _ _ _ us hl => match us, hl with | [_, _], _ => rfl),
   (dfn_mk X G a6 l6 c6 k6 fun _ _ _ _ _ _ us hl => match us, hl with | [_, _, _], _ => rfl),
   (dfn_mk X G a7 l7 c7 k7 fun _ _ _ _ _ _ us hl => match us, hl with | [_], _ => rfl),
   (dfn_mk X G a8 l8 c8 k8 fun _ _ _ _ _ _ us hl => match us, hl with | [_, _], _ => rfl),
   (dfn_mk X G a9 l9 c9 k9 fun _ _ _ _ _ _ us hl => match us, hl with | [_, _], _ => rfl),
   (dfn_mk X G a10 l10 c10 k10 fun _ _ _ _ _ _ us hl => match us, hl with | [_, _], _ => rfl),
   (dfn_mk X G a11 l11 c11 k11 fun _ _ _ _ _ _ us hl => match us, hl with | [_, _, _], _ => rfl),
   (dfn_mk X G a12 l12 c12 k12 fun _ _ _ _ _ _ us hl => match us, hl with | [_, _], _ => rfl),
   (dfn_mk X G a13 l13 c13 k13 fun _ _ _ _ _ _ us hl => match us, hl with | [_, _], _ => rfl),
   (dfn_mk X G a14 l14 c14 k14 fun _ _ _ _ _ _ us hl => match us, hl with | [_, _], _ => rfl),
   (dfn_mk X G a15 l15 c15 k15 fun _ _ _ _ _ _ us hl => match us, hl with | [_, _, _], _ => rfl),
   (dfn_mk X G a16 l16 c16 k16 fun _ _ _ _ _ _ us hl => match us, hl with | [_, _, _], _ => rfl),
   (dfn_mk X G a17 l17 c17 k17 fun _ _ _ _ _ _ us hl => match us, hl with | [_, _], _ => rfl),
   (dfn_mk X G a18 l18 c18 k18 fun _ _ _ _ _ _ us hl => match us, hl with | [_, _], _ => rfl),
   (dfn_mk X G a19 l19 c19 k19 fun _ _ _ _ _ _ us hl => match us, hl with | [], _ => rfl),
   (dfn_mk X G a20 l20 c20 k20 fun _ _ _ _ _ _ us hl => match us, hl with | [_], _ => rfl),
   (PySem.W.mg_none_of X G z_abs),
   (PySem.W.mg_none_of X G z_all),
   (PySem.W.mg_none_of X G z_any),
   (PySem.W.mg_none_of X G z_bool),
   (PySem.W.mg_none_of X G z_enumerate),
   (PySem.W.mg_none_of X G z_int),
   (PySem.W.mg_none_of X G z_isinstance),
   (PySem.W.mg_none_of X G z_len),
   (PySem.W.mg_none_of X G z_max),
   (PySem.W.mg_none_of X G z_min),
   (PySem.W.mg_none_of X G z_range),
   (PySem.W.mg_none_of X G z_tuple),
   (PySem.W.mg_none_of X G z_zip),
   ⟨_, PySem.W.mg_of X G y_KEPT, x_KEPT⟩⟩
theorem all_mk {l : PySem.W.OpenLaw} {w : World} {K : PySem.W.Frag} {mg : Str → Option Value} {fa : Addr} (hfa : mg "law" = some (.ref fa)) (T : Txt K mg) :
    ∃ fd : FuncData, (∀ (s : Shared) (v : Value), BindsTo s fd ⟨[v], []⟩ [("script", v)]) ∧ ∀ base : Heap, K.In base → base.Ns mainGlobals mg → FnOk l.prog w K mg base L2.CX0 8 fa fd ["script"] (lift K s_law) := by
  obtain ⟨f, fd, F, hm, hb⟩ := T.d_law.ex
  have e := hfa.symm.trans hm
  cases e
  refine ⟨fd, fun s v => ?_, fun base _ _ => ok_all F T⟩
  obtain ⟨oc, od, kV, doc, pm, an, cdv, ct, osl, efd, lk, hcd⟩ := F.ex
  subst efd
  exact .of_eq rfl
end K18
open PySem PySem.W PyProof.Rows
set_option maxHeartbeats 0 in
theorem PySem.Challenge.cw_steadycraft_k18_whole_counts_by_the_word_holds : PySem.Challenge.rw_steadycraft_k18_whole_counts_by_the_word.Holds := by
  w_on; o_law; k_head; (case hw => w_witness2)
  k_fill
  refine L2.walk_of (l := PySem.Challenge.rw_steadycraft_k18_whole_counts_by_the_word) (n := 63) (k := 8) (x := "script") (CX := fun _ => L2.CX0) (sp := fun w => DL.lift _ K18.s_law) rfl (by decide) rfl ⟨rfl, by decide, by decide⟩ (fun w h Y => PySem.W.kIn_of Y) ?F (fun _ H a ns hl hO hS => K18.at_script hl hO hS) (fun _ _ _ _ _ h => h)
  case F =>
    intro w mg fa h KX G hmg
    refine' K18.all_mk hmg (K18.txt_mk KX G ?a0 ?l0 ?c0 ?k0 ?a1 ?l1 ?c1 ?k1 ?a2 ?l2 ?c2 ?k2 ?a3 ?l3 ?c3 ?k3 ?a4 ?l4 ?c4 ?k4 ?a5 ?l5 ?c5 ?k5 ?a6 ?l6 ?c6 ?k6 ?a7 ?l7 ?c7 ?k7 ?a8 ?l8 ?c8 ?k8 ?a9 ?l9 ?c9 ?k9 ?a10 ?l10 ?c10 ?k10 ?a11 ?l11 ?c11 ?k11 ?a12 ?l12 ?c12 ?k12 ?a13 ?l13 ?c13 ?k13 ?a14 ?l14 ?c14 ?k14 ?a15 ?l15 ?c15 ?k15 ?a16 ?l16 ?c16 ?k16 ?a17 ?l17 ?c17 ?k17 ?a18 ?l18 ?c18 ?k18 ?a19 ?l19 ?c19 ?k19 ?a20 ?l20 ?c20 ?k20 ?z_abs ?z_all ?z_any ?z_bool ?z_enumerate ?z_int ?z_isinstance ?z_len ?z_max ?z_min ?z_range ?z_tuple ?z_zip ?y_KEPT ?x_KEPT)
    (case a0 => k_is)
    (case l0 => k_is)
    (case c0 => k_is)
    (case k0 => k_is)
    (case a1 => k_is)
    (case l1 => k_is)
    (case c1 => k_is)
    (case k1 => k_is)
    (case a2 => k_is)
    (case l2 => k_is)
    (case c2 => k_is)
    (case k2 => k_is)
    (case a3 => k_is)
    (case l3 => k_is)
    (case c3 => k_is)
    (case k3 => k_is)
    (case a4 => k_is)
    (case l4 => k_is)
    (case c4 => k_is)
    (case k4 => k_is)
    (case a5 => k_is)
    (case l5 => k_is)
    (case c5 => k_is)
    (case k5 => k_is)
    (case a6 => k_is)
    (case l6 => k_is)
    (case c6 => k_is)
    (case k6 => k_is)
    (case a7 => k_is)
    (case l7 => k_is)
    (case c7 => k_is)
    (case k7 => k_is)
    (case a8 => k_is)
    (case l8 => k_is)
    (case c8 => k_is)
    (case k8 => k_is)
    (case a9 => k_is)
    (case l9 => k_is)
    (case c9 => k_is)
    (case k9 => k_is)
    (case a10 => k_is)
    (case l10 => k_is)
    (case c10 => k_is)
    (case k10 => k_is)
    (case a11 => k_is)
    (case l11 => k_is)
    (case c11 => k_is)
    (case k11 => k_is)
    (case a12 => k_is)
    (case l12 => k_is)
    (case c12 => k_is)
    (case k12 => k_is)
    (case a13 => k_is)
    (case l13 => k_is)
    (case c13 => k_is)
    (case k13 => k_is)
    (case a14 => k_is)
    (case l14 => k_is)
    (case c14 => k_is)
    (case k14 => k_is)
    (case a15 => k_is)
    (case l15 => k_is)
    (case c15 => k_is)
    (case k15 => k_is)
    (case a16 => k_is)
    (case l16 => k_is)
    (case c16 => k_is)
    (case k16 => k_is)
    (case a17 => k_is)
    (case l17 => k_is)
    (case c17 => k_is)
    (case k17 => k_is)
    (case a18 => k_is)
    (case l18 => k_is)
    (case c18 => k_is)
    (case k18 => k_is)
    (case a19 => k_is)
    (case l19 => k_is)
    (case c19 => k_is)
    (case k19 => k_is)
    (case a20 => k_is)
    (case l20 => k_is)
    (case c20 => k_is)
    (case k20 => k_is)
    (case z_abs => k_is)
    (case z_all => k_is)
    (case z_any => k_is)
    (case z_bool => k_is)
    (case z_enumerate => k_is)
    (case z_int => k_is)
    (case z_isinstance => k_is)
    (case z_len => k_is)
    (case z_max => k_is)
    (case z_min => k_is)
    (case z_range => k_is)
    (case z_tuple => k_is)
    (case z_zip => k_is)
    (case y_KEPT => k_is)
    (case x_KEPT => exact ⟨_, rfl⟩)
