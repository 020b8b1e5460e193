import PyProof.Rows.All
import Wide.All
import OpenK.AllK
import Wide.FinOn
import PyProof.EqAt
import PyProof.EqKinds
import PyProof.TupleCall
import KE.KStateDown
import Lean
import HandS.Base
import HandS.Call
import HandS.List
import HandS.Comp
import HandS.Ends
import HandS.Dict
import HandS.Iter
import HandS.Text
import HandS.More
import HandS.Exc
import HandS.Words
import HandS.WordsList
import HandS.WordsExc
import HandS.Deep
import HandS.Steps
import HandS.TryOnly
import HandS.TryMany
import HandS.ExcOwn
import HandS.ExcInit
import HandS.ExcField
import HandS.ExcIs
import HandS.IsInst
import HandS.Flow
import HandS.Defaults
import HandS.CallSlots
import HandS.Property
import HandS.Head0
import HandS.Head1
import HandS.Head2
import HandS.HeadEnd
import HandS.HeadHook1
import HandS.HeadHook2
import HandS.OwnEq
import HandS.IterNext
import HandS.ClsMeth
import HandS.OwnIter
import HandS.Star
import HandS.HotCalls
import HandS.Style
import HandS.Replace
import HandS.ReplaceLit
import HandS.Zip
import HandS.NoneIn
import HandS.Dict
import HandS.HeadHook3
import PySem.Challenge.RW_needmerge_k12_script_made_or_refused
set_option Elab.async false
set_option linter.all false
set_option maxRecDepth 100000
set_option maxHeartbeats 4000000
/-! D1: data without heaps. D: a value with all that hangs on it; Mu: the things that may change; Asr: they lie in the heap; We, Wa, Wt, Ws, Wg, Wi: the readings, told over D and Mu alone. -/
namespace Nm
open PySem L2

inductive D where
  | non | bl (b : Bool) | int (i : Int) | str (x : Str) | ty (n : String)
  | ref (a : Addr)
  | lst (ds : List D) | tup (ds : List D) | sq (ds : List D)
  | ins (a C : Addr) (ns : List Str) (ds : List D)
  | exc (a d : Addr) (s : D)

inductive C where
  | lst (ds : List D)
  | ins (k : Addr) (ns : List Str) (ds : List D)

abbrev Mu := Addr → Option C
abbrev Gm := List (Option D)
def um (μ : Mu) (a : Addr) (c : C) : Mu := fun b => if b = a then some c else μ b
def dm (μ : Mu) (a : Addr) : Mu := fun b => if b = a then none else μ b
theorem um_same {μ : Mu} {a : Addr} {c : C} : um μ a c a = some c := if_pos rfl
theorem um_ne {μ : Mu} {a b : Addr} {c : C} (h : b ≠ a) : um μ a c b = μ b := if_neg h
theorem um_um {μ : Mu} {a : Addr} {c c' : C} : um (um μ a c) a c' = um μ a c' := by
  funext b; unfold um; split <;> rfl
theorem dm_same {μ : Mu} {a : Addr} : dm μ a a = none := if_pos rfl
theorem dm_ne {μ : Mu} {a b : Addr} (h : b ≠ a) : dm μ a b = μ b := if_neg h
theorem mu_ne {μ : Mu} {a b : Addr} {c : C} (h : μ a = some c) (h' : μ b = none) : a ≠ b := by
  intro e; subst e; rw [h] at h'; cases h'
theorem um_comm {μ : Mu} {a b : Addr} {c c' : C} (h : a ≠ b) : um (um μ a c) b c' = um (um μ b c') a c := by
  funext z; unfold um
  by_cases h1 : z = a
  · subst h1; rw [if_neg h, if_pos rfl, if_pos rfl]
  · rw [if_neg h1]
    by_cases h2 : z = b
    · rw [if_pos h2, if_neg h1]
    · rw [if_neg h2, if_neg h1]
theorem um_self {μ : Mu} {a : Addr} {c : C} (h : μ a = some c) : um μ a c = μ := by
  funext z; unfold um; by_cases h1 : z = a
  · rw [if_pos h1, h1, h]
  · rw [if_neg h1]
theorem dm_um {μ : Mu} {a : Addr} {c : C} (h : μ a = none) : dm (um μ a c) a = μ := by
  funext z; unfold dm um; by_cases h1 : z = a
  · rw [if_pos h1, h1, h]
  · rw [if_neg h1, if_neg h1]
/-- the one is a part of the other -/
def SubM (μ' μ : Mu) : Prop := ∀ a c, μ' a = some c → μ a = some c
theorem SubM.refl (μ : Mu) : SubM μ μ := fun _ _ h => h
theorem SubM.trans {a b c : Mu} (h : SubM a b) (g : SubM b c) : SubM a c := fun x y e => g x y (h x y e)
theorem SubM.um {μ : Mu} {a : Addr} {c : C} (h : μ a = none) : SubM μ (um μ a c) := fun b d e => by rw [um_ne (mu_ne e h)]; exact e
theorem SubM.umum {μ μ' : Mu} {a : Addr} {c : C} (h : SubM μ' μ) : SubM (Nm.um μ' a c) (Nm.um μ a c) := fun b d e => by
  unfold Nm.um at *
  by_cases q : b = a
  · rw [if_pos q] at *; exact e
  · rw [if_neg q] at *; exact h _ _ e
inductive SubG : Gm → Gm → Prop
  | nil : SubG [] []
  | cons {x : Option D} {r s : Gm} : SubG r s → SubG (x :: r) (x :: s)
  | drop {x : Option D} {r s : Gm} : SubG r s → SubG (none :: r) (x :: s)
theorem SubG.refl : ∀ Γ : Gm, SubG Γ Γ
  | [] => .nil
  | _ :: r => .cons (SubG.refl r)

section
variable (K : PySem.W.Frag)
mutual
/-- d lies at v -/
def Has (S : Hp) : D → V → Prop
  | .non, v => v = .non
  | .bl b, v => v = .bl b
  | .int i, v => v = .int i
  | .str x, v => v = .str x
  | .ty n, v => v = .ty n
  | .ref a, v => v = .ref a
  | .lst ds, v => ∃ a xs, v = .ref a ∧ S a = some (.lst xs) ∧ HasL S ds xs
  | .tup ds, v => ∃ a xs, v = .ref a ∧ SqT K S a xs ∧ HasL S ds xs
  | .sq ds, v => ∃ a xs, v = .ref a ∧ SqL K S a xs ∧ HasL S ds xs
  | .ins a k ns ds, v => v = .ref a ∧ ∃ dx xs, S a = some (.ins k dx (ns.zip xs)) ∧ ns.length = xs.length ∧ HasL S ds xs
  | .exc a d s, v => v = .ref a ∧ ∃ w, S d = some (.xd [(("subject" : Str), w)]) ∧ Has S s w
def HasL (S : Hp) : List D → List V → Prop
  | [], xs => xs = []
  | d :: ds, xs => ∃ x r, xs = x :: r ∧ Has S d x ∧ HasL S ds r
end
/-- an object that may change holds c -/
def Hc (S H : Hp) (a : Addr) : C → Prop
  | .lst ds => ∃ xs, H a = some (.lst xs) ∧ HasL K S ds xs
  | .ins k ns ds => ∃ dx xs, H a = some (.ins k dx (ns.zip xs)) ∧ ns.length = xs.length ∧ HasL K S ds xs
structure Asr (S H : Hp) (μ : Mu) : Prop where
  ex : Same S H
  mu : ∀ a c, μ a = some c → S a = none ∧ Hc K S H a c
/-- the slots -/
def HasE (S : Hp) : Gm → St → Prop
  | [], σ => σ = []
  | g :: Γ, σ => ∃ s r, σ = s :: r ∧ (∀ d, g = some d → ∃ v, s = some v ∧ Has K S d v) ∧ HasE S Γ r
end
structure Nx (S H : Hp) (μ : Mu) (S' H' : Hp) (μ' : Mu) : Prop where
  ss : Same S S'
  keep : ∀ a o, H a = some o → μ a = none → H' a = some o
  nost : ∀ a, H a ≠ none → S a = none → μ a = none → S' a = none
  fr : ∀ a, μ a = none → μ' a ≠ none → H a = none
  dom : ∀ a, H a ≠ none → H' a ≠ none

theorem same_sqt {K : PySem.W.Frag} {S S' : Hp} {a : Addr} {xs : List V} (e : Same S S') : SqT K S a xs → SqT K S' a xs
  | .inl (.inl h) => .inl (.inl (e _ _ h))
  | .inl (.inr ⟨o, h⟩) => .inl (.inr ⟨o, e _ _ h⟩)
  | .inr h => .inr h
section
variable {K : PySem.W.Frag}
mutual
theorem Has.mono {S S' : Hp} (e : Same S S') : ∀ (d : D) (v : V), Has K S d v → Has K S' d v
  | .non, v, h => by unfold Has at h ⊢; exact h
  | .bl _, v, h => by unfold Has at h ⊢; exact h
  | .int _, v, h => by unfold Has at h ⊢; exact h
  | .str _, v, h => by unfold Has at h ⊢; exact h
  | .ty _, v, h => by unfold Has at h ⊢; exact h
  | .ref _, v, h => by unfold Has at h ⊢; exact h
  | .lst ds, v, h => by
    unfold Has at h ⊢
    obtain ⟨a, xs, h1, h2, h3⟩ := h
    exact ⟨a, xs, h1, e _ _ h2, HasL.mono e ds xs h3⟩
  | .tup ds, v, h => by
    unfold Has at h ⊢
    obtain ⟨a, xs, h1, h2, h3⟩ := h
    exact ⟨a, xs, h1, same_sqt e h2, HasL.mono e ds xs h3⟩
  | .sq ds, v, h => by
    unfold Has at h ⊢
    obtain ⟨a, xs, h1, h2, h3⟩ := h
    exact ⟨a, xs, h1, Same.seq e h2, HasL.mono e ds xs h3⟩
  | .ins a k ns ds, v, h => by
    unfold Has at h ⊢
    obtain ⟨h1, dx, xs, h2, h3, h4⟩ := h
    exact ⟨h1, dx, xs, e _ _ h2, h3, HasL.mono e ds xs h4⟩
  | .exc a d s, v, h => by
    unfold Has at h ⊢
    obtain ⟨h1, w, h2, h3⟩ := h
    exact ⟨h1, w, e _ _ h2, Has.mono e s w h3⟩
theorem HasL.mono {S S' : Hp} (e : Same S S') : ∀ (ds : List D) (xs : List V), HasL K S ds xs → HasL K S' ds xs
  | [], xs, h => by unfold HasL at h ⊢; exact h
  | d :: ds, xs, h => by
    unfold HasL at h ⊢
    obtain ⟨x, r, h1, h2, h3⟩ := h
    exact ⟨x, r, h1, Has.mono e d x h2, HasL.mono e ds r h3⟩
end
theorem HasL.nil {S : Hp} : HasL K S [] [] := by unfold HasL; rfl
theorem HasL.cons {S : Hp} {d : D} {ds : List D} {x : V} {xs : List V} (h : Has K S d x) (t : HasL K S ds xs) : HasL K S (d :: ds) (x :: xs) := by
  unfold HasL; exact ⟨x, xs, rfl, h, t⟩
theorem HasL.nil_inv {S : Hp} {xs : List V} (h : HasL K S [] xs) : xs = [] := by unfold HasL at h; exact h
theorem HasL.cons_inv {S : Hp} {d : D} {ds : List D} {xs : List V} (h : HasL K S (d :: ds) xs) : ∃ x r, xs = x :: r ∧ Has K S d x ∧ HasL K S ds r := by
  unfold HasL at h; exact h
theorem HasL.length {S : Hp} : ∀ {ds : List D} {xs : List V}, HasL K S ds xs → xs.length = ds.length
  | [], xs, h => by rw [h.nil_inv]; rfl
  | d :: ds, xs, h => by
    obtain ⟨x, r, e, _, t⟩ := h.cons_inv
    rw [e, List.length_cons, List.length_cons, t.length]
theorem HasL.get {S : Hp} : ∀ {ds : List D} {xs : List V} {i : Nat} {d : D}, HasL K S ds xs → ds[i]? = some d → ∃ x, xs[i]? = some x ∧ Has K S d x
  | [], xs, i, d, h, e => by simp at e
  | d0 :: ds, xs, 0, d, h, e => by
    obtain ⟨x, r, e1, hx, t⟩ := h.cons_inv
    have e2 : d0 = d := by simpa using e
    subst e1 e2
    exact ⟨x, by simp, hx⟩
  | d0 :: ds, xs, i + 1, d, h, e => by
    obtain ⟨x, r, e1, hx, t⟩ := h.cons_inv
    subst e1
    obtain ⟨y, h1, h2⟩ := HasL.get (i := i) (d := d) t (by simpa using e)
    exact ⟨y, by simpa using h1, h2⟩
theorem HasL.got {S : Hp} : ∀ {ds : List D} {xs : List V} {i : Nat} {x : V}, HasL K S ds xs → xs[i]? = some x → ∃ d, ds[i]? = some d ∧ Has K S d x := fun {ds xs i x} h e => by
  have l : i < xs.length := by
    rcases Nat.lt_or_ge i xs.length with q | q
    · exact q
    · rw [List.getElem?_eq_none q] at e; cases e
  rw [h.length] at l
  obtain ⟨y, h1, h2⟩ := h.get (List.getElem?_eq_getElem l)
  rw [e] at h1; cases h1
  exact ⟨_, List.getElem?_eq_getElem l, h2⟩
theorem HasL.app {S : Hp} : ∀ {ds es : List D} {xs ys : List V}, HasL K S ds xs → HasL K S es ys → HasL K S (ds ++ es) (xs ++ ys)
  | [], es, xs, ys, h, g => by rw [h.nil_inv]; exact g
  | d :: ds, es, xs, ys, h, g => by
    obtain ⟨x, r, e1, hx, t⟩ := h.cons_inv
    subst e1
    exact .cons hx (HasL.app t g)
theorem HasL.set {S : Hp} {d : D} {x : V} (hx : Has K S d x) : ∀ {ds : List D} {xs : List V} (i : Nat), HasL K S ds xs → HasL K S (ds.set i d) (xs.set i x)
  | [], xs, i, h => by rw [h.nil_inv]; exact .nil
  | d0 :: ds, xs, 0, h => by
    obtain ⟨y, r, e1, hy, t⟩ := h.cons_inv
    subst e1
    exact .cons hx t
  | d0 :: ds, xs, i + 1, h => by
    obtain ⟨y, r, e1, hy, t⟩ := h.cons_inv
    subst e1
    exact .cons hy (HasL.set hx i t)
theorem HasL.drop {S : Hp} : ∀ {ds : List D} {xs : List V} (n : Nat), HasL K S ds xs → HasL K S (ds.drop n) (xs.drop n)
  | ds, xs, 0, h => h
  | [], xs, n + 1, h => by rw [h.nil_inv]; exact .nil
  | d :: ds, xs, n + 1, h => by
    obtain ⟨y, r, e1, hy, t⟩ := h.cons_inv
    subst e1
    exact HasL.drop n t
theorem HasL.take {S : Hp} : ∀ {ds : List D} {xs : List V} (n : Nat), HasL K S ds xs → HasL K S (ds.take n) (xs.take n)
  | ds, xs, 0, h => .nil
  | [], xs, n + 1, h => by rw [h.nil_inv]; exact .nil
  | d :: ds, xs, n + 1, h => by
    obtain ⟨y, r, e1, hy, t⟩ := h.cons_inv
    subst e1
    exact .cons hy (HasL.take n t)
theorem HasL.rev {S : Hp} : ∀ {ds : List D} {xs : List V}, HasL K S ds xs → HasL K S ds.reverse xs.reverse
  | [], xs, h => by rw [h.nil_inv]; exact .nil
  | d :: ds, xs, h => by
    obtain ⟨y, r, e1, hy, t⟩ := h.cons_inv
    subst e1
    rw [List.reverse_cons, List.reverse_cons]
    exact HasL.app (HasL.rev t) (.cons hy .nil)
theorem Hc.mono {S S' H : Hp} {a : Addr} {c : C} (e : Same S S') (h : Hc K S H a c) : Hc K S' H a c := by
  cases c with
  | lst ds => obtain ⟨xs, h1, h2⟩ := h; exact ⟨xs, h1, h2.mono e⟩
  | ins k ns ds => obtain ⟨dx, xs, h1, h2, h3⟩ := h; exact ⟨dx, xs, h1, h2, h3.mono e⟩
theorem Hc.at {S H H' : Hp} {a : Addr} {c : C} (e : H' a = H a) (h : Hc K S H a c) : Hc K S H' a c := by
  cases c with
  | lst ds => obtain ⟨xs, h1, h2⟩ := h; exact ⟨xs, e.trans h1, h2⟩
  | ins k ns ds => obtain ⟨dx, xs, h1, h2, h3⟩ := h; exact ⟨dx, xs, e.trans h1, h2, h3⟩
theorem Hc.some {S H : Hp} {a : Addr} {c : C} (h : Hc K S H a c) : H a ≠ none := by
  cases c with
  | lst ds => obtain ⟨xs, h1, h2⟩ := h; rw [h1]; exact Option.some_ne_none _
  | ins k ns ds => obtain ⟨dx, xs, h1, h2, h3⟩ := h; rw [h1]; exact Option.some_ne_none _
theorem HasE.mono {S S' : Hp} (e : Same S S') : ∀ {Γ : Gm} {σ : St}, HasE K S Γ σ → HasE K S' Γ σ
  | [], σ, h => h
  | g :: Γ, σ, h => by
    obtain ⟨s, r, e1, h1, h2⟩ := h
    refine ⟨s, r, e1, fun d q => ?_, HasE.mono e h2⟩
    obtain ⟨v, a, b⟩ := h1 d q
    exact ⟨v, a, b.mono e⟩
theorem HasE.get {S : Hp} : ∀ {Γ : Gm} {σ : St} {i : Nat} {d : D}, HasE K S Γ σ → Γ[i]? = some (some d) → ∃ v, σ[i]? = some (some v) ∧ Has K S d v
  | [], σ, i, d, h, e => by simp at e
  | g :: Γ, σ, 0, d, h, e => by
    obtain ⟨s, r, e1, h1, h2⟩ := h
    have e2 : g = some d := by simpa using e
    obtain ⟨v, a, b⟩ := h1 d e2
    exact ⟨v, by rw [e1, a]; simp, b⟩
  | g :: Γ, σ, i + 1, d, h, e => by
    obtain ⟨s, r, e1, h1, h2⟩ := h
    obtain ⟨v, a, b⟩ := HasE.get (i := i) (d := d) h2 (by simpa using e)
    exact ⟨v, by rw [e1]; simpa using a, b⟩
theorem HasE.set {S : Hp} {d : D} {v : V} (hd : Has K S d v) : ∀ {Γ : Gm} {σ : St} (i : Nat), HasE K S Γ σ → HasE K S (Γ.set i (some d)) (σ.set i (some v))
  | [], σ, i, h => by
    have e : σ = [] := h
    subst e; exact rfl
  | g :: Γ, σ, 0, h => by
    obtain ⟨s, r, e1, h1, h2⟩ := h
    subst e1
    exact ⟨_, _, rfl, fun d' q => ⟨v, rfl, by cases q; exact hd⟩, h2⟩
  | g :: Γ, σ, i + 1, h => by
    obtain ⟨s, r, e1, h1, h2⟩ := h
    subst e1
    exact ⟨_, _, rfl, h1, HasE.set hd i h2⟩
theorem HasE.unset {S : Hp} : ∀ {Γ : Gm} {σ : St} (i : Nat), HasE K S Γ σ → HasE K S (Γ.set i none) (σ.set i none)
  | [], σ, i, h => by
    have e : σ = [] := h
    subst e; exact rfl
  | g :: Γ, σ, 0, h => by
    obtain ⟨s, r, e1, h1, h2⟩ := h
    subst e1
    exact ⟨_, _, rfl, fun d' q => (by cases q), h2⟩
  | g :: Γ, σ, i + 1, h => by
    obtain ⟨s, r, e1, h1, h2⟩ := h
    subst e1
    exact ⟨_, _, rfl, h1, HasE.unset i h2⟩
theorem HasE.sub {S : Hp} : ∀ {Γ Γ' : Gm} {σ : St}, SubG Γ' Γ → HasE K S Γ σ → HasE K S Γ' σ := fun {Γ Γ' σ} g => by
  induction g generalizing σ with
  | nil => exact fun h => h
  | cons _ ih =>
    rintro ⟨s, r, e1, h1, h2⟩
    exact ⟨s, r, e1, h1, ih h2⟩
  | drop _ ih =>
    rintro ⟨s, r, e1, h1, h2⟩
    exact ⟨s, r, e1, fun d q => (by cases q), ih h2⟩
theorem HasE.of {S : Hp} (n : Nat) : ∀ {ds : List D} {vs : List V}, HasL K S ds vs → HasE K S (ds.map some ++ List.replicate n none) (vs.map some ++ List.replicate n none)
  | [], vs, h => by
    rw [h.nil_inv]
    show HasE K S (List.replicate n none) (List.replicate n none)
    clear h
    induction n with
    | zero => exact rfl
    | succ n ih => exact ⟨_, _, rfl, fun d q => (by cases q), ih⟩
  | d :: ds, vs, h => by
    obtain ⟨x, r, e1, hx, t⟩ := h.cons_inv
    subst e1
    exact ⟨_, _, rfl, fun d' q => ⟨x, rfl, by cases q; exact hx⟩, HasE.of n t⟩

theorem Nx.refl {S H : Hp} {μ : Mu} : Nx S H μ S H μ := ⟨fun _ _ h => h, fun _ _ h _ => h, fun _ _ h _ => h, fun a h h' => absurd h h', fun _ h => h⟩
theorem Nx.trans {S H S1 H1 S2 H2 : Hp} {μ μ1 μ2 : Mu} (a : Nx S H μ S1 H1 μ1) (b : Nx S1 H1 μ1 S2 H2 μ2) : Nx S H μ S2 H2 μ2 := by
  have un : ∀ x, H x ≠ none → μ x = none → μ1 x = none := fun x h1 h2 => by
    cases e : μ1 x with
    | none => rfl
    | some c => exact absurd (a.fr x h2 (by rw [e]; exact Option.some_ne_none _)) h1
  refine ⟨a.ss.trans b.ss, fun x o h h' => ?_, fun x h h' h2 => ?_, fun x h h' => ?_, fun x h => b.dom x (a.dom x h)⟩
  · exact b.keep x o (a.keep x o h h') (un x (by rw [h]; exact Option.some_ne_none _) h')
  · exact b.nost x (a.dom x h) (a.nost x h h' h2) (un x h h2)
  · cases e : μ1 x with
    | some c => exact a.fr x h (by rw [e]; exact Option.some_ne_none _)
    | none =>
      have e1 := b.fr x e h'
      cases e2 : H x with
      | none => rfl
      | some o => exact absurd e1 (a.dom x (by rw [e2]; exact Option.some_ne_none _))
theorem Nx.sub {S H : Hp} {μ μ' : Mu} (s : SubM μ' μ) : Nx S H μ S H μ' :=
  ⟨fun _ _ h => h, fun _ _ h _ => h, fun _ _ h _ => h, fun a h h' => (by
    cases e : μ' a with
    | none => exact absurd e h'
    | some c => rw [s a c e] at h; cases h), fun _ h => h⟩
theorem Asr.sub {S H : Hp} {μ μ' : Mu} (x : Asr K S H μ) (s : SubM μ' μ) : Asr K S H μ' := ⟨x.ex, fun a c e => x.mu a c (s a c e)⟩
theorem Asr.unk {S H : Hp} {μ : Mu} (x : Asr K S H μ) {p : Addr} (hp : H p = none) : S p = none ∧ μ p = none := by
  constructor
  · cases e : S p with
    | none => rfl
    | some o => rw [x.ex p o e] at hp; cases hp
  · cases e : μ p with
    | none => rfl
    | some c => exact absurd hp (x.mu p c e).2.some
/-- a new object that never changes -/
theorem Asr.lay {S H : Hp} {μ : Mu} (x : Asr K S H μ) {p : Addr} (o : HO) (hp : H p = none) : Nx S H μ (upd S p o) (upd H p o) μ ∧ Asr K (upd S p o) (upd H p o) μ := by
  obtain ⟨hS, hm⟩ := x.unk hp
  have ss : Same S (upd S p o) := fun b u e => by rw [upd_ne (ne_of_none e hS)]; exact e
  refine ⟨⟨ss, fun b u e _ => by rw [upd_ne (ne_of_none e hp)]; exact e, fun b h h1 _ => ?_, fun b h h' => absurd h h', fun b h => ?_⟩, ⟨fun b u e => ?_, fun b c e => ?_⟩⟩
  · have : b ≠ p := fun q => h (q ▸ hp)
    rw [upd_ne this]; exact h1
  · by_cases q : b = p
    · rw [q, upd_same]; exact Option.some_ne_none _
    · rw [upd_ne q]; exact h
  · by_cases q : b = p
    · rw [q, upd_same] at e ⊢; exact e
    · rw [upd_ne q] at e ⊢; exact x.ex b u e
  · have q : b ≠ p := fun q => by rw [q, hm] at e; cases e
    obtain ⟨a1, a2⟩ := x.mu b c e
    exact ⟨by rw [upd_ne q]; exact a1, (a2.mono ss).at (upd_ne q)⟩
/-- a new object that may change -/
theorem Asr.layM {S H : Hp} {μ : Mu} (x : Asr K S H μ) {p : Addr} (o : HO) (c : C) (hp : H p = none) (hc : Hc K S (upd H p o) p c) : Nx S H μ S (upd H p o) (um μ p c) ∧ Asr K S (upd H p o) (um μ p c) := by
  obtain ⟨hS, hm⟩ := x.unk hp
  refine ⟨⟨fun _ _ h => h, fun b u e _ => by rw [upd_ne (ne_of_none e hp)]; exact e, fun _ _ h _ => h, fun b h h' => ?_, fun b h => ?_⟩, ⟨fun b u e => ?_, fun b c' e => ?_⟩⟩
  · by_cases q : b = p
    · rw [q]; exact hp
    · rw [um_ne q] at h'; exact absurd h h'
  · by_cases q : b = p
    · rw [q, upd_same]; exact Option.some_ne_none _
    · rw [upd_ne q]; exact h
  · rw [upd_ne (ne_of_none e hS)]; exact x.ex b u e
  · by_cases q : b = p
    · subst q
      rw [um_same] at e
      have e1 : c = c' := Option.some.inj e
      exact ⟨hS, e1 ▸ hc⟩
    · rw [um_ne q] at e
      obtain ⟨a1, a2⟩ := x.mu b c' e
      exact ⟨a1, a2.at (upd_ne q)⟩
/-- one that may change is written -/
theorem Asr.wr {S H : Hp} {μ : Mu} (x : Asr K S H μ) {p : Addr} (o : HO) (c c0 : C) (hp : μ p = some c0) (hc : Hc K S (upd H p o) p c) : Nx S H μ S (upd H p o) (um μ p c) ∧ Asr K S (upd H p o) (um μ p c) := by
  obtain ⟨hS, h0⟩ := x.mu p c0 hp
  refine ⟨⟨fun _ _ h => h, fun b u e hb => ?_, fun _ _ h _ => h, fun b h h' => ?_, fun b h => ?_⟩, ⟨fun b u e => ?_, fun b c' e => ?_⟩⟩
  · have q : b ≠ p := fun q => by rw [q, hp] at hb; cases hb
    rw [upd_ne q]; exact e
  · by_cases q : b = p
    · rw [q, hp] at h; cases h
    · rw [um_ne q] at h'; exact absurd h h'
  · by_cases q : b = p
    · rw [q, upd_same]; exact Option.some_ne_none _
    · rw [upd_ne q]; exact h
  · have q : b ≠ p := fun q => by rw [q, hS] at e; cases e
    rw [upd_ne q]; exact x.ex b u e
  · by_cases q : b = p
    · subst q
      rw [um_same] at e
      have e1 : c = c' := Option.some.inj e
      exact ⟨hS, e1 ▸ hc⟩
    · rw [um_ne q] at e
      obtain ⟨a1, a2⟩ := x.mu b c' e
      exact ⟨a1, a2.at (upd_ne q)⟩
/-- the value that it is from now on -/
def frz (a : Addr) : C → D
  | .lst ds => .lst ds
  | .ins k ns ds => .ins a k ns ds
/-- one that may change is never changed again -/
theorem Asr.freeze {S H : Hp} {μ : Mu} (x : Asr K S H μ) {p : Addr} {c : C} (hp : μ p = some c) : ∃ S', Nx S H μ S' H (dm μ p) ∧ Asr K S' H (dm μ p) ∧ Has K S' (frz p c) (.ref p) := by
  obtain ⟨hS, h0⟩ := x.mu p c hp
  obtain ⟨o, ho⟩ : ∃ o, H p = some o := Option.ne_none_iff_exists'.mp h0.some
  have ss : Same S (upd S p o) := fun b u e => by rw [upd_ne (ne_of_none e hS)]; exact e
  refine ⟨upd S p o, ⟨ss, fun b u e _ => e, fun b h h1 h2 => ?_, fun b h h' => ?_, fun _ h => h⟩, ⟨fun b u e => ?_, fun b c' e => ?_⟩, ?_⟩
  · have q : b ≠ p := fun q => by rw [q, hp] at h2; cases h2
    rw [upd_ne q]; exact h1
  · by_cases q : b = p
    · rw [q, hp] at h; cases h
    · rw [dm_ne q] at h'; exact absurd h h'
  · by_cases q : b = p
    · rw [q, upd_same] at e; rw [q, ho]; exact e
    · rw [upd_ne q] at e; exact x.ex b u e
  · by_cases q : b = p
    · rw [q, dm_same] at e; cases e
    · rw [dm_ne q] at e
      obtain ⟨a1, a2⟩ := x.mu b c' e
      exact ⟨by rw [upd_ne q]; exact a1, a2.mono ss⟩
  · cases c with
    | lst ds =>
      obtain ⟨xs, h1, h2⟩ := h0
      rw [ho] at h1
      have := h2.mono ss
      show Has K _ (.lst ds) _
      unfold Has
      exact ⟨p, xs, rfl, by rw [upd_same]; exact h1, this⟩
    | ins k ns ds =>
      obtain ⟨dx, xs, h1, h2, h3⟩ := h0
      rw [ho] at h1
      have := h3.mono ss
      show Has K _ (.ins p k ns ds) _
      unfold Has
      exact ⟨rfl, dx, xs, by rw [upd_same]; exact h1, h2, this⟩
end
end Nm
/-! D2: the readings over D and Mu: expressions, arguments, tests, targets, statements, loops. -/
namespace Nm
open PySem L2
abbrev PD := D → Mu → Prop
abbrev XD := Value → D → Mu → Prop
abbrev subj : Str := "subject"
def X0 : XD := fun _ _ _ => False
section
variable (K : PySem.W.Frag)
def Post (S H : Hp) (μ : Mu) (P : PD) (Q : VK) : Prop := ∀ d μ' v S' H', P d μ' → Nx S H μ S' H' μ' → Asr K S' H' μ' → Has K S' d v → Q v H'
def PostX (S H : Hp) (μ : Mu) (X : XD) (W : WX) (σ : St) : Prop := ∀ c s μ' v d S' H', X c s μ' → Nx S H μ S' H' μ' → Asr K S' H' μ' → S' d = some (.xd [(subj, v)]) → Has K S' s v → W c (some d) σ H'
def We (W : WX) (te : TE) (Γ : Gm) (μ : Mu) (P : PD) (X : XD) : Prop :=
  ∀ S σ H Q, Asr K S H μ → HasE K S Γ σ → Post K S H μ P Q → PostX K S H μ X W σ → te σ H Q
def Wa (W : WX) (ta : TA) (Γ : Gm) (μ : Mu) (P : List D → Mu → Prop) (X : XD) : Prop :=
  ∀ S σ H Q, Asr K S H μ → HasE K S Γ σ → (∀ ds μ' vs S' H', P ds μ' → Nx S H μ S' H' μ' → Asr K S' H' μ' → HasL K S' ds vs → Q vs H') → PostX K S H μ X W σ → ta σ H Q
def Wt (W : WX) (tt : TT) (Γ : Gm) (μ : Mu) (P : Bool → Mu → Prop) (X : XD) : Prop :=
  ∀ S σ H Q, Asr K S H μ → HasE K S Γ σ → (∀ b μ' S' H', P b μ' → Nx S H μ S' H' μ' → Asr K S' H' μ' → Q b H') → PostX K S H μ X W σ → tt σ H Q
def Wo (W : WX) (to : TO) (Γ : Gm) (μ : Mu) (P : Option Int → Mu → Prop) (X : XD) : Prop :=
  ∀ S σ H Q, Asr K S H μ → HasE K S Γ σ → (∀ b μ' S' H', P b μ' → Nx S H μ S' H' μ' → Asr K S' H' μ' → Q b H') → PostX K S H μ X W σ → to σ H Q
/-- an operation on values, told on D -/
def OpS (r : R2) (o : D → D → Mu → PD → Prop) : Prop := ∀ S H μ x y d1 d2 P Q, Asr K S H μ → Has K S d1 x → Has K S d2 y → o d1 d2 μ P → Post K S H μ P Q → r x y H Q
def UnS (r : V → Hp → VK → Prop) (o : D → Mu → PD → Prop) : Prop := ∀ S H μ x d1 P Q, Asr K S H μ → Has K S d1 x → o d1 μ P → Post K S H μ P Q → r x H Q
def CbS (r : List V → Hp → VK → Prop) (o : List D → Mu → PD → Prop) : Prop := ∀ S H μ xs ds P Q, Asr K S H μ → HasL K S ds xs → o ds μ P → Post K S H μ P Q → r xs H Q
/-- what is wanted behind a statement -/
structure En where
  nx : Gm → Mu → Prop
  rt : D → Mu → Prop
  ex : Value → D → Gm → Mu → Prop
  bk : Gm → Mu → Prop := fun _ _ => False
  ct : Gm → Mu → Prop := fun _ _ => False
def PostG (S H : Hp) (μ : Mu) (P : Gm → Mu → Prop) (Q : St → Hp → Prop) : Prop := ∀ Γ' μ' σ' S' H', P Γ' μ' → Nx S H μ S' H' μ' → Asr K S' H' μ' → HasE K S' Γ' σ' → Q σ' H'
structure PostE (S H : Hp) (μ : Mu) (E : En) (W : WX) (Dn : Ends) : Prop where
  nx : PostG K S H μ E.nx Dn.nx
  rt : Post K S H μ E.rt Dn.rt
  ex : ∀ c s Γ' μ' v d σ' S' H', E.ex c s Γ' μ' → Nx S H μ S' H' μ' → Asr K S' H' μ' → HasE K S' Γ' σ' → S' d = some (.xd [(subj, v)]) → Has K S' s v → W c (some d) σ' H'
  bk : PostG K S H μ E.bk Dn.bk
  ct : PostG K S H μ E.ct Dn.ct
def Ws (W : WX) (ts : TS) (Γ : Gm) (μ : Mu) (E : En) : Prop :=
  ∀ S σ H Dn, Asr K S H μ → HasE K S Γ σ → PostE K S H μ E W Dn → ts Dn σ H
def Wg (g : TG) (d : D) (Γ : Gm) (μ : Mu) (P : Gm → Mu → Prop) : Prop :=
  ∀ S σ H v R, Asr K S H μ → HasE K S Γ σ → Has K S d v → PostG K S H μ P R → g v σ H R
def Wgs (g : TGs) (ds : List D) (Γ : Gm) (μ : Mu) (P : Gm → Mu → Prop) : Prop :=
  ∀ S σ H vs R, Asr K S H μ → HasE K S Γ σ → HasL K S ds vs → PostG K S H μ P R → g vs σ H R
/-- a walk yields these, whatever else is done meanwhile -/
def ItS (S : Hp) (J : It) (ds : List D) : Prop := ∀ i S1 H1 μ1, Same S S1 → Asr K S1 H1 μ1 →
  (∀ d, ds[i]? = some d → J.go i H1 ∧ ∀ x H2, J.yld i H1 x H2 → ∃ S2, Nx S1 H1 μ1 S2 H2 μ1 ∧ Asr K S2 H2 μ1 ∧ Has K S2 d x) ∧ (ds[i]? = none → J.stop i H1)
def Wi (W : WX) (wi : TI) (Γ : Gm) (μ : Mu) (P : List D → Mu → Prop) (X : XD) : Prop :=
  ∀ S σ H R, Asr K S H μ → HasE K S Γ σ → (∀ ds μ' J S' H', P ds μ' → Nx S H μ S' H' μ' → Asr K S' H' μ' → ItS K S' J ds → R J H') → PostX K S H μ X W σ → wi σ H R
end
/-- some slots and some objects may be forgotten -/
def Fo (P : Gm → Mu → Prop) : Gm → Mu → Prop := fun Γ μ => ∃ Γ' μ', SubG Γ' Γ ∧ SubM μ' μ ∧ P Γ' μ'
theorem Fo.of {P : Gm → Mu → Prop} {Γ : Gm} {μ : Mu} (h : P Γ μ) : Fo P Γ μ := ⟨Γ, μ, SubG.refl Γ, SubM.refl μ, h⟩
section
variable {K : PySem.W.Frag} {W : WX} {Γ : Gm} {μ : Mu} {X : XD} {E : En}
theorem Post.nx {S H S1 H1 : Hp} {μ μ1 : Mu} {P : PD} {Q : VK} (h : Post K S H μ P Q) (n : Nx S H μ S1 H1 μ1) : Post K S1 H1 μ1 P Q :=
  fun d μ' v S' H' p m a b => h d μ' v S' H' p (n.trans m) a b
theorem PostX.nx {S H S1 H1 : Hp} {μ μ1 : Mu} {σ : St} (h : PostX K S H μ X W σ) (n : Nx S H μ S1 H1 μ1) : PostX K S1 H1 μ1 X W σ :=
  fun c s μ' v d S' H' p m a b e => h c s μ' v d S' H' p (n.trans m) a b e
theorem PostG.nx {S H S1 H1 : Hp} {μ μ1 : Mu} {P : Gm → Mu → Prop} {Q : St → Hp → Prop} (h : PostG K S H μ P Q) (n : Nx S H μ S1 H1 μ1) : PostG K S1 H1 μ1 P Q :=
  fun d μ' v S' H' p m a b => h d μ' v S' H' p (n.trans m) a b
theorem PostE.nx' {S H S1 H1 : Hp} {μ μ1 : Mu} {Dn : Ends} (h : PostE K S H μ E W Dn) (n : Nx S H μ S1 H1 μ1) : PostE K S1 H1 μ1 E W Dn :=
  ⟨h.nx.nx n, h.rt.nx n, fun c s Γ' μ' v d σ' S' H' p m a b e f => h.ex c s Γ' μ' v d σ' S' H' p (n.trans m) a b e f, h.bk.nx n, h.ct.nx n⟩
theorem PostE.xx {S H : Hp} {μ : Mu} {σ : St} {Dn : Ends} (h : PostE K S H μ E W Dn) (hσ : HasE K S Γ σ) : PostX K S H μ (fun c s μ' => E.ex c s Γ μ') W σ :=
  fun c s μ' v d S' H' p m a b e => h.ex c s Γ μ' v d σ S' H' p m a (hσ.mono m.ss) b e

/-! ### expressions -/
theorem We.imp {te : TE} {P P' : PD} (h : We K W te Γ μ P X) (f : ∀ d μ', P d μ' → P' d μ') : We K W te Γ μ P' X :=
  fun S σ H Q a b c e => h S σ H Q a b (fun d μ' v S' H' p => c d μ' v S' H' (f d μ' p)) e
theorem We.x0 {te : TE} {P : PD} (h : We K W te Γ μ P X0) : We K W te Γ μ P X :=
  fun S σ H Q a b c _ => h S σ H Q a b c (fun _ _ _ _ _ _ _ z => z.elim)
theorem we_var {i : Nat} {d : D} {P : PD} (h : Γ[i]? = some (some d)) (k : P d μ) : We K W (tVar i) Γ μ P X := by
  intro S σ H Q a b c _
  obtain ⟨v, h1, h2⟩ := b.get h
  exact ⟨v, h1, c d μ v S H k .refl a h2⟩
theorem we_k {v : V} {d : D} {P : PD} (h : ∀ S, Has K S d v) (k : P d μ) : We K W (tC v) Γ μ P X :=
  fun S σ H Q a b c _ => c d μ v S H k .refl a (h S)
theorem we_int {i : Int} {P : PD} (k : P (.int i) μ) : We K W (tC (.int i)) Γ μ P X := we_k (fun S => by unfold Has; rfl) k
theorem we_str {i : Str} {P : PD} (k : P (.str i) μ) : We K W (tC (.str i)) Γ μ P X := we_k (fun S => by unfold Has; rfl) k
theorem we_bl {i : Bool} {P : PD} (k : P (.bl i) μ) : We K W (tC (.bl i)) Γ μ P X := we_k (fun S => by unfold Has; rfl) k
theorem we_non {P : PD} (k : P .non μ) : We K W (tC .non) Γ μ P X := we_k (fun S => by unfold Has; rfl) k
theorem we_ty {i : String} {P : PD} (k : P (.ty i) μ) : We K W (tC (.ty i)) Γ μ P X := we_k (fun S => by unfold Has; rfl) k
theorem we_ref {i : Addr} {P : PD} (k : P (.ref i) μ) : We K W (tC (.ref i)) Γ μ P X := we_k (fun S => by unfold Has; rfl) k
theorem we_op {r : R2} {o : D → D → Mu → PD → Prop} {ta tb : TE} {P : PD} (ho : OpS K r o) (h : We K W ta Γ μ (fun d1 μ1 => We K W tb Γ μ1 (fun d2 μ2 => o d1 d2 μ2 P) X) X) : We K W (tOp r ta tb) Γ μ P X := by
  intro S σ H Q a b c e
  refine h S σ H _ a b (fun d1 μ1 x S1 H1 p1 n1 a1 h1 => ?_) e
  refine p1 S1 σ H1 _ a1 (b.mono n1.ss) (fun d2 μ2 y S2 H2 p2 n2 a2 h2 => ?_) (e.nx n1)
  exact ho S2 H2 μ2 x y d1 d2 P Q a2 (h1.mono n2.ss) h2 p2 (c.nx (n1.trans n2))
theorem we_un {r : V → Hp → VK → Prop} {o : D → Mu → PD → Prop} {ta : TE} {P : PD} (ho : UnS K r o) (h : We K W ta Γ μ (fun d1 μ1 => o d1 μ1 P) X) : We K W (tUn r ta) Γ μ P X := by
  intro S σ H Q a b c e
  refine h S σ H _ a b (fun d1 μ1 x S1 H1 p1 n1 a1 h1 => ?_) e
  exact ho S1 H1 μ1 x d1 P Q a1 h1 p1 (c.nx n1)
theorem we_cb {r : List V → Hp → VK → Prop} {o : List D → Mu → PD → Prop} {t : TA} {P : PD} (ho : CbS K r o) (h : Wa K W t Γ μ (fun ds μ1 => o ds μ1 P) X) : We K W (tCB r t) Γ μ P X := by
  intro S σ H Q a b c e
  refine h S σ H _ a b (fun d1 μ1 x S1 H1 p1 n1 a1 h1 => ?_) e
  exact ho S1 H1 μ1 x d1 P Q a1 h1 p1 (c.nx n1)
theorem wa_nil {P : List D → Mu → Prop} (k : P [] μ) : Wa K W tNil Γ μ P X := fun S σ H Q a b c _ => c [] μ [] S H k .refl a .nil
theorem wa_cons {ta : TE} {tr : TA} {P : List D → Mu → Prop} (h : We K W ta Γ μ (fun d μ1 => Wa K W tr Γ μ1 (fun ds μ2 => P (d :: ds) μ2) X) X) : Wa K W (tCons ta tr) Γ μ P X := by
  intro S σ H Q a b c e
  refine h S σ H _ a b (fun d1 μ1 x S1 H1 p1 n1 a1 h1 => ?_) e
  refine p1 S1 σ H1 _ a1 (b.mono n1.ss) (fun d2 μ2 y S2 H2 p2 n2 a2 h2 => ?_) (e.nx n1)
  exact c _ μ2 _ S2 H2 p2 (n1.trans n2) a2 (.cons (h1.mono n2.ss) h2)
/-- what may change becomes what never changes -/
def Fz (P : PD) : PD := fun d μ => ∃ a c, d = .ref a ∧ μ a = some c ∧ P (frz a c) (dm μ a)
theorem we_frz {te : TE} {P : PD} (h : We K W te Γ μ (Fz P) X) : We K W te Γ μ P X := by
  intro S σ H Q a b c e
  refine h S σ H _ a b (fun d1 μ1 x S1 H1 p1 n1 a1 h1 => ?_) e
  obtain ⟨p, cc, rfl, hp, k⟩ := p1
  obtain ⟨S2, n2, a2, h2⟩ := a1.freeze hp
  unfold Has at h1
  subst h1
  exact c _ _ _ S2 H1 k (n1.trans n2) a2 h2
/-- a new list, a new tuple -/
theorem we_lstM {t : TA} {P : PD} (h : Wa K W t Γ μ (fun ds μ1 => ds.length ≤ sizeLine ∧ ∀ p, μ1 p = none → P (.ref p) (um μ1 p (.lst ds))) X) : We K W (tLst t) Γ μ P X := by
  intro S σ H Q a b c e
  refine h S σ H _ a b (fun ds μ1 xs S1 H1 p1 n1 a1 h1 => ?_) e
  refine ⟨by rw [h1.length]; exact p1.1, fun p hp => ?_⟩
  obtain ⟨n2, a2⟩ := a1.layM (.lst xs) (.lst ds) hp ⟨xs, upd_same, h1⟩
  exact c _ _ _ S1 _ (p1.2 p (a1.unk hp).2) (n1.trans n2) a2 (by unfold Has; rfl)
theorem we_lst {t : TA} {P : PD} (h : Wa K W t Γ μ (fun ds μ1 => ds.length ≤ sizeLine ∧ P (.lst ds) μ1) X) : We K W (tLst t) Γ μ P X := by
  intro S σ H Q a b c e
  refine h S σ H _ a b (fun ds μ1 xs S1 H1 p1 n1 a1 h1 => ?_) e
  refine ⟨by rw [h1.length]; exact p1.1, fun p hp => ?_⟩
  obtain ⟨n2, a2⟩ := a1.lay (.lst xs) hp
  refine c _ _ _ _ _ p1.2 (n1.trans n2) a2 ?_
  unfold Has
  exact ⟨p, xs, rfl, upd_same, h1.mono n2.ss⟩
theorem we_tup {t : TA} {P : PD} (h : Wa K W t Γ μ (fun ds μ1 => ds.length ≤ sizeLine ∧ P (.tup ds) μ1) X) : We K W (tTup t) Γ μ P X := by
  intro S σ H Q a b c e
  refine h S σ H _ a b (fun ds μ1 xs S1 H1 p1 n1 a1 h1 => ?_) e
  refine ⟨by rw [h1.length]; exact p1.1, fun p hp => ?_⟩
  obtain ⟨n2, a2⟩ := a1.lay (.tup xs) hp
  refine c _ _ _ _ _ p1.2 (n1.trans n2) a2 ?_
  unfold Has
  exact ⟨p, xs, rfl, SqT.of upd_same, h1.mono n2.ss⟩
theorem we_if {tt : TT} {ta tb : TE} {P : PD} (h : Wt K W tt Γ μ (fun b μ1 => if b = true then We K W ta Γ μ1 P X else We K W tb Γ μ1 P X) X) : We K W (tIf tt ta tb) Γ μ P X := by
  intro S σ H Q a b c e
  refine h S σ H _ a b (fun d1 μ1 S1 H1 p1 n1 a1 => ?_) e
  cases d1 with
  | true => exact (show We K W ta Γ μ1 P X from p1) S1 σ H1 _ a1 (b.mono n1.ss) (c.nx n1) (e.nx n1)
  | false => exact (show We K W tb Γ μ1 P X from p1) S1 σ H1 _ a1 (b.mono n1.ss) (c.nx n1) (e.nx n1)

/-! ### tests -/
theorem wt_test {t : TE} {P : Bool → Mu → Prop} (h : We K W t Γ μ (fun d μ1 => ∃ b, d = .bl b ∧ P b μ1) X) : Wt K W (tTest t) Γ μ P X := by
  intro S σ H Q a b c e
  refine h S σ H _ a b (fun d1 μ1 x S1 H1 p1 n1 a1 h1 => ?_) e
  obtain ⟨k, rfl, p⟩ := p1
  unfold Has at h1
  exact ⟨k, h1, c k μ1 S1 H1 p n1 a1⟩
theorem wt_val {t : TE} {P : Bool → Mu → Prop} (h : We K W t Γ μ (fun d μ1 => ∃ b, d = .bl b ∧ P b μ1) X) : Wt K W (tB t) Γ μ P X := by
  intro S σ H Q a b c e
  refine h S σ H _ a b (fun d1 μ1 x S1 H1 p1 n1 a1 h1 => ?_) e
  obtain ⟨k, rfl, p⟩ := p1
  unfold Has at h1
  exact ⟨k, h1, c k μ1 S1 H1 p n1 a1⟩
/-- a value's truth -/
def tru (μ : Mu) : D → (Bool → Prop) → Prop
  | .non, P => P false
  | .bl b, P => P b
  | .int i, P => P (i != 0)
  | .str x, P => x.length ≤ sizeLine ∧ P ((x.length : Int) != 0)
  | .lst ds, P => P (!ds.isEmpty)
  | .sq ds, P => P (!ds.isEmpty)
  | .tup ds, P => P (!ds.isEmpty)
  | .ref a, P => ∃ ds, μ a = some (.lst ds) ∧ P (!ds.isEmpty)
  | _, _ => False
theorem isE {S : Hp} {ds : List D} {xs : List V} (h : HasL K S ds xs) : (!ds.isEmpty) = !xs.isEmpty := by
  cases ds with
  | nil => rw [h.nil_inv]; rfl
  | cons d r => obtain ⟨x, y, e, _, _⟩ := h.cons_inv; rw [e]; rfl
theorem tru_ok {S H : Hp} {μ : Mu} {d : D} {x : V} {P : Bool → Prop} (a : Asr K S H μ) (h : Has K S d x) (p : tru μ d P) : ∃ k, TruV K x H k ∧ P k := by
  cases d with
  | non => unfold Has at h; subst h; exact ⟨_, rfl, p⟩
  | bl b => unfold Has at h; subst h; exact ⟨_, rfl, p⟩
  | int i => unfold Has at h; subst h; exact ⟨_, rfl, p⟩
  | str z => unfold Has at h; subst h; exact ⟨_, ⟨p.1, rfl⟩, p.2⟩
  | lst ds =>
    unfold Has at h
    obtain ⟨q, xs, rfl, h1, h2⟩ := h
    exact ⟨_, .inl ⟨xs, SqL.of (a.ex _ _ h1), isE h2⟩, p⟩
  | sq ds =>
    unfold Has at h
    obtain ⟨q, xs, rfl, h1, h2⟩ := h
    exact ⟨_, .inl ⟨xs, Same.seq a.ex h1, isE h2⟩, p⟩
  | tup ds =>
    unfold Has at h
    obtain ⟨q, xs, rfl, h1, h2⟩ := h
    exact ⟨_, .inr (.inl ⟨xs, same_sqt a.ex h1, isE h2⟩), p⟩
  | ref q =>
    unfold Has at h; subst h
    obtain ⟨ds, h1, h2⟩ := p
    obtain ⟨_, xs, h3, h4⟩ := a.mu _ _ h1
    exact ⟨_, .inl ⟨xs, SqL.of h3, isE h4⟩, h2⟩
  | ty _ => exact p.elim
  | ins _ _ _ _ => exact p.elim
  | exc _ _ _ => exact p.elim
def tTr (K : PySem.W.Frag) (ta : TE) : TT := fun σ H Q => ta σ H fun x H' => ∃ k, TruV K x H' k ∧ Q k H'
theorem wt_tr {t : TE} {P : Bool → Mu → Prop} (h : We K W t Γ μ (fun d μ1 => tru μ1 d fun b => P b μ1) X) : Wt K W (tTr K t) Γ μ P X := by
  intro S σ H Q a b c e
  refine h S σ H _ a b (fun d1 μ1 x S1 H1 p1 n1 a1 h1 => ?_) e
  obtain ⟨k, h2, p⟩ := tru_ok a1 h1 p1
  exact ⟨k, h2, c k μ1 S1 H1 p n1 a1⟩
theorem wt_and {t u : TT} {P : Bool → Mu → Prop} (h : Wt K W t Γ μ (fun b μ1 => if b = true then Wt K W u Γ μ1 P X else P false μ1) X) : Wt K W (tAnd t u) Γ μ P X := by
  intro S σ H Q a b c e
  refine h S σ H _ a b (fun d1 μ1 S1 H1 p1 n1 a1 => ?_) e
  cases d1 with
  | true => exact (show Wt K W u Γ μ1 P X from p1) S1 σ H1 _ a1 (b.mono n1.ss) (fun k μ' S' H' p n => c k μ' S' H' p (n1.trans n)) (e.nx n1)
  | false => exact c false μ1 S1 H1 p1 n1 a1
theorem wt_or {t u : TT} {P : Bool → Mu → Prop} (h : Wt K W t Γ μ (fun b μ1 => if b = true then P true μ1 else Wt K W u Γ μ1 P X) X) : Wt K W (tOr t u) Γ μ P X := by
  intro S σ H Q a b c e
  refine h S σ H _ a b (fun d1 μ1 S1 H1 p1 n1 a1 => ?_) e
  cases d1 with
  | false => exact (show Wt K W u Γ μ1 P X from p1) S1 σ H1 _ a1 (b.mono n1.ss) (fun k μ' S' H' p n => c k μ' S' H' p (n1.trans n)) (e.nx n1)
  | true => exact c true μ1 S1 H1 p1 n1 a1
theorem wt_not {t : TT} {P : Bool → Mu → Prop} (h : Wt K W t Γ μ (fun b μ1 => P (!b) μ1) X) : Wt K W (tNot t) Γ μ P X := by
  intro S σ H Q a b c e
  exact h S σ H _ a b (fun d1 μ1 S1 H1 p1 n1 a1 => c _ μ1 S1 H1 p1 n1 a1) e
theorem we_orT {ta tb : TE} {P : PD} (h : We K W ta Γ μ (fun d μ1 => tru μ1 d fun b => if b = true then P d μ1 else We K W tb Γ μ1 P X) X) : We K W (tOrT K ta tb) Γ μ P X := by
  intro S σ H Q a b c e
  refine h S σ H _ a b (fun d1 μ1 x S1 H1 p1 n1 a1 h1 => ?_) e
  obtain ⟨k, h2, p⟩ := tru_ok a1 h1 p1
  refine ⟨k, h2, ?_⟩
  cases k with
  | true => exact c d1 μ1 x S1 H1 p n1 a1 h1
  | false => exact (show We K W tb Γ μ1 P X from p) S1 σ H1 _ a1 (b.mono n1.ss) (c.nx n1) (e.nx n1)
theorem we_andT {ta tb : TE} {P : PD} (h : We K W ta Γ μ (fun d μ1 => tru μ1 d fun b => if b = true then We K W tb Γ μ1 P X else P d μ1) X) : We K W (tAndT K ta tb) Γ μ P X := by
  intro S σ H Q a b c e
  refine h S σ H _ a b (fun d1 μ1 x S1 H1 p1 n1 a1 h1 => ?_) e
  obtain ⟨k, h2, p⟩ := tru_ok a1 h1 p1
  refine ⟨k, h2, ?_⟩
  cases k with
  | false => exact c d1 μ1 x S1 H1 p n1 a1 h1
  | true => exact (show We K W tb Γ μ1 P X from p) S1 σ H1 _ a1 (b.mono n1.ss) (c.nx n1) (e.nx n1)
theorem we_notT {ta : TE} {P : PD} (h : We K W ta Γ μ (fun d μ1 => tru μ1 d fun b => P (.bl (!b)) μ1) X) : We K W (tNotT K ta) Γ μ P X := by
  intro S σ H Q a b c e
  refine h S σ H _ a b (fun d1 μ1 x S1 H1 p1 n1 a1 h1 => ?_) e
  obtain ⟨k, h2, p⟩ := tru_ok a1 h1 p1
  exact ⟨k, h2, c _ μ1 _ S1 H1 p n1 a1 (by unfold Has; rfl)⟩

/-! ### statements -/
theorem Ws.imp {ts : TS} {E E' : En} (h : Ws K W ts Γ μ E) (h1 : ∀ Γ μ, E.nx Γ μ → E'.nx Γ μ) (h2 : ∀ d μ, E.rt d μ → E'.rt d μ) (h3 : ∀ c s Γ μ, E.ex c s Γ μ → E'.ex c s Γ μ) (h4 : ∀ Γ μ, E.bk Γ μ → E'.bk Γ μ) (h5 : ∀ Γ μ, E.ct Γ μ → E'.ct Γ μ) : Ws K W ts Γ μ E' :=
  fun S σ H Dn a b c => h S σ H Dn a b ⟨fun g m s S' H' p => c.nx g m s S' H' (h1 _ _ p), fun d m v S' H' p => c.rt d m v S' H' (h2 _ _ p), fun cl s g m v d σ' S' H' p => c.ex cl s g m v d σ' S' H' (h3 _ _ _ _ p), fun g m s S' H' p => c.bk g m s S' H' (h4 _ _ p), fun g m s S' H' p => c.ct g m s S' H' (h5 _ _ p)⟩
theorem Ws.nxi {ts : TS} {P P' : Gm → Mu → Prop} (h : Ws K W ts Γ μ { E with nx := P }) (h1 : ∀ Γ μ, P Γ μ → P' Γ μ) : Ws K W ts Γ μ { E with nx := P' } :=
  h.imp h1 (fun _ _ z => z) (fun _ _ _ _ z => z) (fun _ _ z => z) (fun _ _ z => z)
theorem ws_next (k : E.nx Γ μ) : Ws K W tNext Γ μ E := fun S σ H Dn a b c => c.nx Γ μ σ S H k .refl a b
theorem ws_brk (k : E.bk Γ μ) : Ws K W tBreak Γ μ E := fun S σ H Dn a b c => c.bk Γ μ σ S H k .refl a b
theorem ws_cont (k : E.ct Γ μ) : Ws K W tCont Γ μ E := fun S σ H Dn a b c => c.ct Γ μ σ S H k .refl a b
theorem ws_seq {t u : TS} (h : Ws K W t Γ μ { E with nx := fun Γ' μ' => Ws K W u Γ' μ' E }) : Ws K W (tSeq t u) Γ μ E := by
  intro S σ H Dn a b c
  exact h S σ H _ a b ⟨fun Γ' μ' σ' S' H' p n a' b' => p S' σ' H' Dn a' b' (c.nx' n), c.rt, c.ex, c.bk, c.ct⟩
theorem ws_drop {te : TE} (h : We K W te Γ μ (fun _ μ1 => E.nx Γ μ1) (fun c s μ1 => E.ex c s Γ μ1)) : Ws K W (tDrop te) Γ μ E := by
  intro S σ H Dn a b c
  exact h S σ H _ a b (fun d1 μ1 x S1 H1 p1 n1 a1 h1 => c.nx Γ μ1 σ S1 H1 p1 n1 a1 (b.mono n1.ss)) (c.xx b)
theorem ws_ret {te : TE} (h : We K W te Γ μ E.rt (fun c s μ1 => E.ex c s Γ μ1)) : Ws K W (tRet te) Γ μ E := by
  intro S σ H Dn a b c
  exact h S σ H _ a b c.rt (c.xx b)
theorem ws_retN (k : E.rt .non μ) : Ws K W tRetN Γ μ E := fun S σ H Dn a b c => c.rt .non μ .non S H k .refl a (by unfold Has; rfl)
theorem ws_if {tt : TT} {t u : TS} (h : Wt K W tt Γ μ (fun b μ1 => if b = true then Ws K W t Γ μ1 E else Ws K W u Γ μ1 E) (fun c s μ1 => E.ex c s Γ μ1)) : Ws K W (tIfS tt t u) Γ μ E := by
  intro S σ H Dn a b c
  refine h S σ H _ a b (fun d1 μ1 S1 H1 p1 n1 a1 => ?_) (c.xx b)
  cases d1 with
  | true => exact (show Ws K W t Γ μ1 E from p1) S1 σ H1 Dn a1 (b.mono n1.ss) (c.nx' n1)
  | false => exact (show Ws K W u Γ μ1 E from p1) S1 σ H1 Dn a1 (b.mono n1.ss) (c.nx' n1)
theorem ws_asg {te : TE} {g : TG} (h : We K W te Γ μ (fun d μ1 => Wg K g d Γ μ1 E.nx) (fun c s μ1 => E.ex c s Γ μ1)) : Ws K W (tAsg te g) Γ μ E := by
  intro S σ H Dn a b c
  refine h S σ H _ a b (fun d1 μ1 x S1 H1 p1 n1 a1 h1 => ?_) (c.xx b)
  exact p1 S1 σ H1 x _ a1 (b.mono n1.ss) h1 (c.nx.nx n1)
theorem ws_set {te : TE} {i : Nat} (h : We K W te Γ μ (fun d μ1 => E.nx (Γ.set i (some d)) μ1) (fun c s μ1 => E.ex c s Γ μ1)) : Ws K W (tAsg te (gName i)) Γ μ E := by
  intro S σ H Dn a b c
  refine h S σ H _ a b (fun d1 μ1 x S1 H1 p1 n1 a1 h1 => ?_) (c.xx b)
  exact c.nx _ _ _ S1 H1 p1 n1 a1 ((b.mono n1.ss).set h1 i)
theorem wg_name {i : Nat} {d : D} {P : Gm → Mu → Prop} (k : P (Γ.set i (some d)) μ) : Wg K (gName i) d Γ μ P :=
  fun S σ H v R a b h c => c _ μ _ S H k .refl a (b.set h i)
theorem wg_tup {n : Nat} {t : TGs} {ds : List D} {P : Gm → Mu → Prop} (hn : ds.length = n) (k : Wgs K t ds Γ μ P) : Wg K (gTup K n t) (.tup ds) Γ μ P := by
  intro S σ H v R a b h c
  unfold Has at h
  obtain ⟨q, xs, rfl, h1, h2⟩ := h
  exact ⟨q, xs, rfl, same_sqt a.ex h1, by rw [h2.length]; exact hn, k S σ H xs R a b h2 c⟩
theorem wgs_nil {P : Gm → Mu → Prop} (k : P Γ μ) : Wgs K gNil [] Γ μ P := fun S σ H vs R a b h c => ⟨h.nil_inv, c Γ μ σ S H k .refl a b⟩
theorem wgs_cons {t : TG} {u : TGs} {d : D} {ds : List D} {P : Gm → Mu → Prop} (h : Wg K t d Γ μ (fun Γ1 μ1 => Wgs K u ds Γ1 μ1 P)) : Wgs K (gCons t u) (d :: ds) Γ μ P := by
  intro S σ H vs R a b hv c
  obtain ⟨x, r, e, h1, h2⟩ := hv.cons_inv
  refine ⟨x, r, e, h S σ H x _ a b h1 fun Γ' μ' σ' S' H' p n a' b' => ?_⟩
  exact p S' σ' H' r R a' b' (h2.mono n.ss) (c.nx n)
theorem ws_sub {ts : TS} {Γ' : Gm} {μ' : Mu} (g : SubG Γ' Γ) (m : SubM μ' μ) (h : Ws K W ts Γ' μ' E) : Ws K W ts Γ μ E :=
  fun S σ H Dn a b c => h S σ H Dn (a.sub m) (b.sub g) (c.nx' (Nx.sub m))
/-- x op= e, x an int -/
theorem ws_aug {te : TE} {i : Nat} {f : Int → Int → Int} {a : Int} (hx : Γ[i]? = some (some (.int a))) (h : We K W te Γ μ (fun d μ1 => ∃ b, d = .int b ∧ E.nx (Γ.set i (some (.int (f a b)))) μ1) (fun c s μ1 => E.ex c s Γ μ1)) : Ws K W (tAug i te (ipI f)) Γ μ E := by
  intro S σ H Dn a' b c
  obtain ⟨v, h1, h2⟩ := b.get hx
  refine ⟨v, h1, h S σ H _ a' b (fun d1 μ1 x S1 H1 p1 n1 a1 h3 => ?_) (c.xx b)⟩
  obtain ⟨z, rfl, p⟩ := p1
  unfold Has at h2 h3
  exact ⟨a, z, h2, h3, c.nx _ _ _ S1 H1 p n1 a1 ((b.mono n1.ss).set (by unfold Has; rfl) i)⟩
/-- what may change is from here on never changed -/
theorem ws_freeze {ts : TS} {p : Addr} {c : C} {i : Nat} (hp : μ p = some c) (hi : Γ[i]? = some (some (.ref p))) (h : Ws K W ts (Γ.set i (some (frz p c))) (dm μ p) E) : Ws K W ts Γ μ E := by
  intro S σ H Dn a b q
  obtain ⟨S2, n2, a2, h2⟩ := a.freeze hp
  obtain ⟨v, h3, h4⟩ := b.get hi
  unfold Has at h4
  subst h4
  have e : σ = σ.set i (some (.ref p)) := by
    apply List.ext_getElem?
    intro j
    rw [List.getElem?_set]
    by_cases q : i = j
    · subst q
      have l : i < σ.length := by
        rcases Nat.lt_or_ge i σ.length with z | z
        · exact z
        · rw [List.getElem?_eq_none z] at h3; cases h3
      rw [if_pos rfl, if_pos l, h3]
    · rw [if_neg q]
  refine h S2 σ H Dn a2 ?_ (q.nx' n2)
  rw [e]
  exact (b.mono n2.ss).set h2 i
end
end Nm
/-! D3: loops, comprehensions, what is walked. -/
namespace Nm
open PySem L2
section
variable {K : PySem.W.Frag} {W : WX} {Γ : Gm} {μ : Mu} {X : XD} {E : En}
theorem fo_post {S H : Hp} {P : Gm → Mu → Prop} {Γ' : Gm} {μ' : Mu} {S' H' : Hp} {σ' : St} (f : Fo P Γ' μ') (n : Nx S H μ S' H' μ') (a : Asr K S' H' μ') (b : HasE K S' Γ' σ') :
    ∃ Γ2 μ2, P Γ2 μ2 ∧ Nx S H μ S' H' μ2 ∧ Asr K S' H' μ2 ∧ HasE K S' Γ2 σ' := by
  obtain ⟨Γ2, μ2, g, m, p⟩ := f
  exact ⟨Γ2, μ2, p, n.trans (Nx.sub m), a.sub m, b.sub g⟩
/-- for: I holds ahead of turn i; behind a turn something may be forgotten -/
theorem ws_for {wi : TI} {g : TG} {tb : TS}
    (h : Wi K W wi Γ μ (fun ds μ1 => ∃ I : Nat → Gm → Mu → Prop, I 0 Γ μ1 ∧
      (∀ i d Γ' μ', ds[i]? = some d → I i Γ' μ' → Wg K g d Γ' μ' fun Γ2 μ2 => Ws K W tb Γ2 μ2 { E with nx := Fo (I (i + 1)), ct := Fo (I (i + 1)), bk := E.nx }) ∧
      ∀ Γ' μ', I ds.length Γ' μ' → E.nx Γ' μ') (fun c s μ1 => E.ex c s Γ μ1)) : Ws K W (tFor wi g tb) Γ μ E := by
  intro S σ H Dn a b c
  refine h S σ H _ a b (fun ds μ1 J S1 H1 p1 n1 a1 hJ => ?_) (c.xx b)
  obtain ⟨I, i0, hs, hd⟩ := p1
  refine ⟨fun i m σ' H' => m + i = ds.length ∧ ∃ Γ' μ' S', I i Γ' μ' ∧ Nx S1 H1 μ1 S' H' μ' ∧ Asr K S' H' μ' ∧ HasE K S' Γ' σ', ⟨ds.length, rfl, Γ, μ1, S1, i0, .refl, a1, b.mono n1.ss⟩, ?_⟩
  rintro i m σ' H' ⟨hm, Γ', μ', S', pI, n2, a2, b2⟩
  obtain ⟨hgo, hstop⟩ := hJ i S' H' μ' n2.ss a2
  rcases Nat.lt_or_ge i ds.length with q | q
  · have ed : ds[i]? = some ds[i] := List.getElem?_eq_getElem q
    obtain ⟨hg, hy⟩ := hgo _ ed
    refine .inr ⟨hg, fun σ3 H3 => ∃ Γ3 μ3 S3, I (i + 1) Γ3 μ3 ∧ Nx S1 H1 μ1 S3 H3 μ3 ∧ Asr K S3 H3 μ3 ∧ HasE K S3 Γ3 σ3, ?_, fun x H2 yl => ?_⟩
    · rintro σ3 H3 ⟨Γ3, μ3, S3, z⟩
      exact ⟨m - 1, by omega, by omega, Γ3, μ3, S3, z⟩
    · obtain ⟨S2, n3, a3, hx⟩ := hy x H2 yl
      refine hs i _ Γ' μ' ed pI S2 σ' H2 x _ a3 (b2.mono n3.ss) hx ?_
      intro Γ4 μ4 σ4 S4 H4 p4 n4 a4 b4
      have nn : Nx S1 H1 μ1 S4 H4 μ4 := (n2.trans n3).trans n4
      refine p4 S4 σ4 H4 _ a4 b4 ⟨?_, c.rt.nx (n1.trans nn), (c.nx' (n1.trans nn)).ex, c.nx.nx (n1.trans nn), ?_⟩
      · intro Γ5 μ5 σ5 S5 H5 p5 n5 a5 b5
        obtain ⟨Γ6, μ6, p6, n6, a6, b6⟩ := fo_post p5 (nn.trans n5) a5 b5
        exact ⟨Γ6, μ6, S5, p6, n6, a6, b6⟩
      · intro Γ5 μ5 σ5 S5 H5 p5 n5 a5 b5
        obtain ⟨Γ6, μ6, p6, n6, a6, b6⟩ := fo_post p5 (nn.trans n5) a5 b5
        exact ⟨Γ6, μ6, S5, p6, n6, a6, b6⟩
  · refine .inl ⟨hstop (List.getElem?_eq_none q), ?_⟩
    have ei : i = ds.length := by omega
    subst ei
    exact c.nx Γ' μ' σ' S' H' (hd _ _ pI) (n1.trans n2) a2 b2
/-- for .. else -/
theorem ws_forE {wi : TI} {g : TG} {tb tu : TS}
    (h : Wi K W wi Γ μ (fun ds μ1 => ∃ I : Nat → Gm → Mu → Prop, I 0 Γ μ1 ∧
      (∀ i d Γ' μ', ds[i]? = some d → I i Γ' μ' → Wg K g d Γ' μ' fun Γ2 μ2 => Ws K W tb Γ2 μ2 { E with nx := Fo (I (i + 1)), ct := Fo (I (i + 1)), bk := E.nx }) ∧
      ∀ Γ' μ', I ds.length Γ' μ' → Ws K W tu Γ' μ' E) (fun c s μ1 => E.ex c s Γ μ1)) : Ws K W (tForE wi g tb tu) Γ μ E := by
  intro S σ H Dn a b c
  refine h S σ H _ a b (fun ds μ1 J S1 H1 p1 n1 a1 hJ => ?_) (c.xx b)
  obtain ⟨I, i0, hs, hd⟩ := p1
  refine ⟨fun i m σ' H' => m + i = ds.length ∧ ∃ Γ' μ' S', I i Γ' μ' ∧ Nx S1 H1 μ1 S' H' μ' ∧ Asr K S' H' μ' ∧ HasE K S' Γ' σ', ⟨ds.length, rfl, Γ, μ1, S1, i0, .refl, a1, b.mono n1.ss⟩, ?_⟩
  rintro i m σ' H' ⟨hm, Γ', μ', S', pI, n2, a2, b2⟩
  obtain ⟨hgo, hstop⟩ := hJ i S' H' μ' n2.ss a2
  rcases Nat.lt_or_ge i ds.length with q | q
  · have ed : ds[i]? = some ds[i] := List.getElem?_eq_getElem q
    obtain ⟨hg, hy⟩ := hgo _ ed
    refine .inr ⟨hg, fun σ3 H3 => ∃ Γ3 μ3 S3, I (i + 1) Γ3 μ3 ∧ Nx S1 H1 μ1 S3 H3 μ3 ∧ Asr K S3 H3 μ3 ∧ HasE K S3 Γ3 σ3, ?_, fun x H2 yl => ?_⟩
    · rintro σ3 H3 ⟨Γ3, μ3, S3, z⟩
      exact ⟨m - 1, by omega, by omega, Γ3, μ3, S3, z⟩
    · obtain ⟨S2, n3, a3, hx⟩ := hy x H2 yl
      refine hs i _ Γ' μ' ed pI S2 σ' H2 x _ a3 (b2.mono n3.ss) hx ?_
      intro Γ4 μ4 σ4 S4 H4 p4 n4 a4 b4
      have nn : Nx S1 H1 μ1 S4 H4 μ4 := (n2.trans n3).trans n4
      refine p4 S4 σ4 H4 _ a4 b4 ⟨?_, c.rt.nx (n1.trans nn), (c.nx' (n1.trans nn)).ex, c.nx.nx (n1.trans nn), ?_⟩
      · intro Γ5 μ5 σ5 S5 H5 p5 n5 a5 b5
        obtain ⟨Γ6, μ6, p6, n6, a6, b6⟩ := fo_post p5 (nn.trans n5) a5 b5
        exact ⟨Γ6, μ6, S5, p6, n6, a6, b6⟩
      · intro Γ5 μ5 σ5 S5 H5 p5 n5 a5 b5
        obtain ⟨Γ6, μ6, p6, n6, a6, b6⟩ := fo_post p5 (nn.trans n5) a5 b5
        exact ⟨Γ6, μ6, S5, p6, n6, a6, b6⟩
  · refine .inl ⟨hstop (List.getElem?_eq_none q), ?_⟩
    have ei : i = ds.length := by omega
    subst ei
    exact hd _ _ pI S' σ' H' Dn a2 b2 (c.nx' (n1.trans n2))
/-- while: I with a measure; behind a turn something may be forgotten -/
theorem ws_while {tt : TT} {tb : TS} (I : Nat → Gm → Mu → Prop) (m0 : Nat) (h0 : I m0 Γ μ)
    (hs : ∀ m Γ' μ', I m Γ' μ' → Wt K W tt Γ' μ' (fun b μ1 => if b = true then Ws K W tb Γ' μ1 { E with nx := Fo (fun Γ2 μ2 => ∃ m', m' < m ∧ I m' Γ2 μ2), ct := Fo (fun Γ2 μ2 => ∃ m', m' < m ∧ I m' Γ2 μ2), bk := E.nx } else E.nx Γ' μ1) (fun c s μ1 => E.ex c s Γ' μ1)) : Ws K W (tWhile tt tb) Γ μ E := by
  intro S σ H Dn a b c
  refine ⟨fun m σ' H' => ∃ Γ' μ' S', I m Γ' μ' ∧ Nx S H μ S' H' μ' ∧ Asr K S' H' μ' ∧ HasE K S' Γ' σ', ⟨m0, Γ, μ, S, h0, .refl, a, b⟩, ?_⟩
  rintro m σ' H' ⟨Γ', μ', S', pI, n2, a2, b2⟩
  refine hs m Γ' μ' pI S' σ' H' _ a2 b2 (fun k μ1 S1 H1 p1 n1 a1 => ?_) ((c.nx' n2).xx b2)
  have nn := n2.trans n1
  cases k with
  | false => exact c.nx Γ' μ1 σ' S1 H1 p1 nn a1 (b2.mono n1.ss)
  | true =>
    refine iteT ⟨fun σ3 H3 => ∃ m', m' < m ∧ ∃ Γ3 μ3 S3, I m' Γ3 μ3 ∧ Nx S H μ S3 H3 μ3 ∧ Asr K S3 H3 μ3 ∧ HasE K S3 Γ3 σ3, ?_, ?_⟩
    · rintro σ3 H3 ⟨m', l, z⟩
      exact ⟨m', l, z⟩
    · have p2 : Ws K W tb Γ' μ1 { E with nx := Fo (fun Γ2 μ2 => ∃ m', m' < m ∧ I m' Γ2 μ2), ct := Fo (fun Γ2 μ2 => ∃ m', m' < m ∧ I m' Γ2 μ2), bk := E.nx } := p1
      have fin : PostG K S1 H1 μ1 (Fo fun Γ2 μ2 => ∃ m', m' < m ∧ I m' Γ2 μ2) fun σ3 H3 => ∃ m', m' < m ∧ ∃ Γ3 μ3 S3, I m' Γ3 μ3 ∧ Nx S H μ S3 H3 μ3 ∧ Asr K S3 H3 μ3 ∧ HasE K S3 Γ3 σ3 := by
        intro Γ5 μ5 σ5 S5 H5 p5 n5 a5 b5
        obtain ⟨Γ6, μ6, ⟨m', l, p6⟩, n6, a6, b6⟩ := fo_post p5 (nn.trans n5) a5 b5
        exact ⟨m', l, Γ6, μ6, S5, p6, n6, a6, b6⟩
      exact p2 S1 σ' H1 _ a1 (b2.mono n1.ss) ⟨fin, c.rt.nx nn, (c.nx' nn).ex, c.nx.nx nn, fin⟩

/-! ### what is walked -/
theorem wi_list {tl : TE} {P : List D → Mu → Prop} (h : We K W tl Γ μ (fun d μ1 => ∃ ds, (d = .lst ds ∨ d = .sq ds) ∧ P ds μ1) X) : Wi K W (iList K tl) Γ μ P X := by
  intro S σ H R a b c e
  refine h S σ H _ a b (fun d1 μ1 x S1 H1 p1 n1 a1 h1 => ?_) e
  obtain ⟨ds, hd, p⟩ := p1
  have : ∃ q xs, x = .ref q ∧ SqL K S1 q xs ∧ HasL K S1 ds xs := by
    rcases hd with rfl | rfl
    · unfold Has at h1
      obtain ⟨q, xs, e1, h2, h3⟩ := h1
      exact ⟨q, xs, e1, SqL.of h2, h3⟩
    · unfold Has at h1
      exact h1
  obtain ⟨q, xs, rfl, h2, h3⟩ := this
  refine ⟨q, rfl, ⟨xs, Same.seq a1.ex h2⟩, c ds μ1 _ S1 H1 p n1 a1 ?_⟩
  intro i S2 H2 μ2 ss a2
  have h2' : SqL K H2 q xs := Same.seq a2.ex (Same.seq ss h2)
  refine ⟨fun d hd => ?_, fun hn => ?_⟩
  · obtain ⟨y, hy, hdy⟩ := h3.get hd
    refine ⟨⟨xs, y, h2', hy⟩, fun z H3 yl => ?_⟩
    obtain ⟨rfl, hz⟩ := yl
    have := hz xs h2'
    rw [hy] at this
    cases this
    exact ⟨S2, .refl, a2, hdy.mono ss⟩
  · refine ⟨xs, h2', ?_⟩
    rw [h3.length]
    exact List.getElem?_eq_none_iff.mp hn
/-- a list that may change, but doesn't while it is walked: asked at each turn -/
theorem wi_tup {tl : TE} {P : List D → Mu → Prop} (h : We K W tl Γ μ (fun d μ1 => ∃ ds, d = .tup ds ∧ P ds μ1) X) : Wi K W (iTup K tl) Γ μ P X := by
  intro S σ H R a b c e
  refine h S σ H _ a b (fun d1 μ1 x S1 H1 p1 n1 a1 h1 => ?_) e
  obtain ⟨ds, rfl, p⟩ := p1
  unfold Has at h1
  obtain ⟨q, xs, rfl, h2, h3⟩ := h1
  refine ⟨q, rfl, ⟨xs, same_sqt a1.ex h2⟩, c ds μ1 _ S1 H1 p n1 a1 ?_⟩
  intro i S2 H2 μ2 ss a2
  have h2' : SqT K H2 q xs := same_sqt a2.ex (same_sqt ss h2)
  refine ⟨fun d hd => ?_, fun hn => ?_⟩
  · obtain ⟨y, hy, hdy⟩ := h3.get hd
    refine ⟨⟨xs, y, h2', hy⟩, fun z H3 yl => ?_⟩
    obtain ⟨rfl, hz⟩ := yl
    have := hz xs h2'
    rw [hy] at this
    cases this
    exact ⟨S2, .refl, a2, hdy.mono ss⟩
  · refine ⟨xs, h2', ?_⟩
    rw [h3.length]
    exact List.getElem?_eq_none_iff.mp hn
/-- lo, lo + 1, .. -/
def rng (lo : Int) (n : Nat) : List D := (List.range n).map fun (i : Nat) => D.int (lo + (i : Int))
theorem rng_length (lo : Int) (n : Nat) : (rng lo n).length = n := by simp [rng]
theorem rng_get {lo : Int} {n i : Nat} {d : D} (h : (rng lo n)[i]? = some d) : i < n ∧ d = .int (lo + (i : Int)) := by
  have l : i < n := by
    rcases Nat.lt_or_ge i n with q | q
    · exact q
    · rw [List.getElem?_eq_none (by rw [rng_length]; exact q)] at h; cases h
  refine ⟨l, ?_⟩
  simp [rng, l] at h
  exact h.symm
theorem its_rng {S : Hp} (lo : Int) (n : Nat) : ItS K S (Itr lo n) (rng lo n) := by
  intro i S2 H2 μ2 ss a2
  refine ⟨fun d hd => ?_, fun hn => ?_⟩
  · obtain ⟨l, rfl⟩ := rng_get hd
    refine ⟨l, fun z H3 yl => ?_⟩
    obtain ⟨rfl, rfl⟩ := yl
    exact ⟨S2, .refl, a2, by unfold Has; rfl⟩
  · have := List.getElem?_eq_none_iff.mp hn
    rw [rng_length] at this
    exact this
def rng0 (n : Nat) : List D := (List.range n).map fun (i : Nat) => D.int (i : Int)
theorem rng0_eq (n : Nat) : rng 0 n = rng0 n := by
  unfold rng rng0
  apply List.map_congr_left
  intro i _
  rw [Int.zero_add]
theorem rng0_length (n : Nat) : (rng0 n).length = n := by simp [rng0]
theorem rng0_get {n i : Nat} {d : D} (h : (rng0 n)[i]? = some d) : i < n ∧ d = .int (i : Int) := by
  rw [← rng0_eq] at h
  obtain ⟨a, b⟩ := rng_get h
  rw [Int.zero_add] at b
  exact ⟨a, b⟩
theorem wi_rng1 {ta : TA} {P : List D → Mu → Prop} (h : Wa K W ta Γ μ (fun ds μ1 => ∃ j : Int, ds = [.int j] ∧ (-(2 ^ 62) ≤ j ∧ j < 2 ^ 62) ∧ P (rng0 j.toNat) μ1) X) : Wi K W (iRng1 ta) Γ μ P X := by
  intro S σ H R a b c e
  refine h S σ H _ a b (fun d1 μ1 x S1 H1 p1 n1 a1 h1 => ?_) e
  obtain ⟨j, rfl, ⟨b1, b2⟩, p⟩ := p1
  obtain ⟨y, r, rfl, h2, h3⟩ := h1.cons_inv
  unfold Has at h2
  subst h2
  rw [h3.nil_inv]
  exact ⟨j, rfl, b1, b2, c _ μ1 _ S1 H1 p n1 a1 (by rw [← rng0_eq]; exact its_rng 0 _)⟩
theorem wi_rng2 {ta : TA} {P : List D → Mu → Prop} (h : Wa K W ta Γ μ (fun ds μ1 => ∃ i j : Int, ds = [.int i, .int j] ∧ (-(2 ^ 62) ≤ i ∧ i < 2 ^ 62 ∧ -(2 ^ 62) ≤ j ∧ j < 2 ^ 62) ∧ P (rng i (j - i).toNat) μ1) X) : Wi K W (iRng2 ta) Γ μ P X := by
  intro S σ H R a b c e
  refine h S σ H _ a b (fun d1 μ1 x S1 H1 p1 n1 a1 h1 => ?_) e
  obtain ⟨i, j, rfl, bb, p⟩ := p1
  obtain ⟨y, r, rfl, h2, h3⟩ := h1.cons_inv
  obtain ⟨y2, r2, rfl, h4, h5⟩ := h3.cons_inv
  unfold Has at h2 h4
  subst h2 h4
  rw [h5.nil_inv]
  exact ⟨i, j, rfl, bb, c _ μ1 _ S1 H1 p n1 a1 (its_rng i _)⟩

theorem wi_rngN {ta : TA} {P : List D → Mu → Prop} (h : Wa K W ta Γ μ (fun ds μ1 => ∃ n : Nat, ds = [.int (n : Int)] ∧ n < 2 ^ 62 ∧ P (rng0 n) μ1) X) : Wi K W (iRng1 ta) Γ μ P X := by
  refine wi_rng1 ?_
  intro S σ H Q a b c e
  refine h S σ H Q a b (fun ds μ' vs S' H' p => ?_) e
  obtain ⟨n, rfl, hn, p⟩ := p
  exact c _ μ' vs S' H' ⟨n, rfl, ⟨by omega, by omega⟩, by rw [Int.toNat_natCast]; exact p⟩

/-! ### comprehensions -/
def wZ : WX := fun _ _ _ _ => False
theorem we_z {te : TE} {P : PD} (h : We K wZ te Γ μ P X0) : We K W te Γ μ P X := fun S σ H Q a b c _ => h S σ H Q a b c (fun _ _ _ _ _ _ _ z => z.elim)
def wipeG (Γ : Gm) : List Nat → Gm
  | [] => Γ
  | v :: vs => (wipeG Γ vs).set v none
theorem HasE.wipe {S : Hp} {Γ : Gm} {σ : St} (h : HasE K S Γ σ) : ∀ vs : List Nat, HasE K S (wipeG Γ vs) (L2.wipe σ vs)
  | [] => h
  | v :: vs => HasE.unset v (HasE.wipe h vs)
/-- the target stores in the block's own names alone -/
def Own (g : TG) (vs : List Nat) : Prop := ∀ (v : V) (σ : St) (H : Hp) (R : St → Hp → Prop), g v (L2.wipe σ vs) H R → g v (L2.wipe σ vs) H fun σ2 H2 => L2.wipe σ2 vs = L2.wipe σ vs ∧ R σ2 H2
theorem wipe_out' {σ : St} {i : Nat} (h : i ∉ vs) : (L2.wipe σ vs)[i]? = σ[i]? := by
  induction vs with
  | nil => rfl
  | cons v vs ih =>
    show ((L2.wipe σ vs).set v none)[i]? = _
    rw [List.getElem?_set_ne (fun e => h (by rw [e]; exact List.mem_cons_self)), ih fun q => h (List.mem_cons_of_mem _ q)]
theorem wipe_in {σ : St} {i : Nat} : ∀ {vs : List Nat}, i ∈ vs → i < σ.length → (L2.wipe σ vs)[i]? = some none
  | [], h, _ => by cases h
  | v :: vs, h, l => by
    show ((L2.wipe σ vs).set v none)[i]? = _
    by_cases q : v = i
    · subst q
      rw [List.getElem?_set_self (by rw [wipe_length]; exact l)]
    · rw [List.getElem?_set_ne q]
      exact wipe_in (by rcases List.mem_cons.mp h with z | z
                        · exact absurd z.symm q
                        · exact z) l
theorem wipe_set {σ : St} {j : Nat} {x : V} {vs : List Nat} (h : j ∈ vs) : L2.wipe ((L2.wipe σ vs).set j (some x)) vs = L2.wipe σ vs := by
  apply List.ext_getElem?
  intro i
  by_cases l : i < σ.length
  · by_cases m : i ∈ vs
    · rw [wipe_in m (by rw [List.length_set, wipe_length]; exact l), wipe_in m l]
    · rw [wipe_out' m, List.getElem?_set_ne (fun e => m (by rw [← e]; exact h))]
  · rw [List.getElem?_eq_none (by rw [wipe_length, List.length_set, wipe_length]; omega), List.getElem?_eq_none (by rw [wipe_length]; omega)]
theorem own_name {j : Nat} {vs : List Nat} (h : j ∈ vs) : Own (gName j) vs := fun v σ H R q => ⟨wipe_set h, q⟩
theorem wt_yes {P : Bool → Mu → Prop} (k : P true μ) : Wt K W tYes Γ μ P X := fun S σ H Q a b c e => c true μ S H k .refl a
/-- [te for g in wi if tt]: I i acc holds ahead of turn i, acc so far. Nothing may be raised within. -/
theorem we_lcM {wi : TI} {g : TG} {tt : TT} {te : TE} {vs : List Nat} {P : PD} (ow : Own g vs)
    (h : Wi K W wi Γ μ (fun ds μ1 => ∃ I : Nat → List D → Mu → Prop, I 0 [] μ1 ∧ (∀ i acc μ', I i acc μ' → acc.length ≤ i) ∧ ds.length < sizeLine ∧
      (∀ i d acc μ', ds[i]? = some d → I i acc μ' → Wg K g d (wipeG Γ vs) μ' fun Γ2 μ2 => Wt K wZ tt Γ2 μ2 (fun b μ3 =>
        if b = true then We K wZ te Γ2 μ3 (fun e μ4 => I (i + 1) (acc ++ [e]) μ4) X0 else I (i + 1) acc μ3) X0) ∧
      ∀ acc μ', I ds.length acc μ' → ∀ p, μ' p = none → P (.ref p) (um μ' p (.lst acc))) X) : We K W (tLc wi g tt te vs) Γ μ P X := by
  intro S σ H Q a b c e
  refine h S σ H _ a b (fun ds μ1 J S1 H1 p1 n1 a1 hJ => ?_) e
  obtain ⟨I, i0, hl, hz, hs, hd⟩ := p1
  intro D hD
  have b1 : HasE K S1 Γ σ := b.mono n1.ss
  -- the list at D: known to the comprehension alone
  have start : Nx S1 H1 μ1 S1 (upd H1 D (.lst [])) μ1 ∧ Asr K S1 (upd H1 D (.lst [])) μ1 := by
    obtain ⟨n, as⟩ := a1.layM (.lst []) (.lst []) hD ⟨[], upd_same, .nil⟩
    have sm : SubM μ1 (um μ1 D (.lst [])) := SubM.um (a1.unk hD).2
    exact ⟨n.trans (Nx.sub sm), as.sub sm⟩
  obtain ⟨hS1, hm1⟩ := a1.unk hD
  let In : Nat → List Nm.D → Mu → Hp → Hp → Prop := fun i acc μ' S' H' => I i acc μ' ∧ Nx S1 H1 μ1 S' H' μ' ∧ Asr K S' H' μ' ∧ S' D = none ∧ μ' D = none ∧ ∃ xs, H' D = some (.lst xs) ∧ HasL K S' acc xs
  refine ⟨fun i m H' => m + i = ds.length ∧ ∃ acc μ' S', In i acc μ' S' H', ⟨ds.length, rfl, [], μ1, S1, i0, start.1, start.2, hS1, hm1, [], upd_same, .nil⟩, ?_⟩
  rintro i m H' ⟨hm, acc, μ', S', pI, n2, a2, sD, mD, xs, hDx, hacc⟩
  obtain ⟨hgo, hstop⟩ := hJ i S' H' μ' n2.ss a2
  have hHD : H' D ≠ none := by rw [hDx]; exact Option.some_ne_none _
  rcases Nat.lt_or_ge i ds.length with q | q
  · have ed : ds[i]? = some ds[i] := List.getElem?_eq_getElem q
    obtain ⟨hg, hy⟩ := hgo _ ed
    refine .inr ⟨hg, fun H3 => ∃ acc3 μ3 S3, In (i + 1) acc3 μ3 S3 H3, ?_, fun x H2 yl => ?_⟩
    · rintro H3 ⟨acc3, μ3, S3, z⟩
      exact ⟨m - 1, by omega, by omega, acc3, μ3, S3, z⟩
    · obtain ⟨S2, n3, a3, hx⟩ := hy x H2 yl
      have fr : ∀ {Sa Ha : Hp} {μa : Mu}, Nx S' H' μ' Sa Ha μa → Sa D = none ∧ μa D = none ∧ Ha D = some (.lst xs) := fun {Sa Ha μa} n => by
        refine ⟨n.nost D hHD sD mD, ?_, n.keep D _ hDx mD⟩
        cases eq : μa D with
        | none => rfl
        | some cc => exact absurd (n.fr D mD (by rw [eq]; exact Option.some_ne_none _)) hHD
      refine ow x σ H2 _ ?_
      refine hs i _ acc μ' ed pI S2 _ H2 x _ a3 ((b1.mono (n2.ss.trans n3.ss)).wipe vs) hx ?_
      intro Γ4 μ4 σ4 S4 H4 p4 n4 a4 b4
      have m4 := n3.trans n4
      refine p4 S4 σ4 H4 _ a4 b4 (fun k μ5 S5 H5 p5 n5 a5 => ?_) (fun _ _ _ _ _ _ _ z => z.elim)
      have m5 := m4.trans n5
      cases k with
      | false =>
        refine iteF ⟨acc, μ5, S5, p5, n2.trans m5, a5, (fr m5).1, (fr m5).2.1, xs, (fr m5).2.2, hacc.mono m5.ss⟩
      | true =>
        refine iteT ?_
        refine (show We K wZ te Γ4 μ5 (fun e μ4 => I (i + 1) (acc ++ [e]) μ4) X0 from p5) S5 σ4 H5 _ a5 (b4.mono n5.ss) (fun d6 μ6 y S6 H6 p6 n6 a6 h6 => ?_) (fun _ _ _ _ _ _ _ z => z.elim)
        have m6 := m5.trans n6
        obtain ⟨f1, f2, f3⟩ := fr m6
        refine ⟨xs, f3, ?_, ?_⟩
        · have := hl i acc μ' pI
          rw [hacc.length]
          omega
        · have hh : HasL K S6 (acc ++ [d6]) (xs ++ [y]) := (hacc.mono m6.ss).app (.cons h6 .nil)
          have a7 : Asr K S6 H6 (um μ6 D (.lst acc)) := ⟨a6.ex, fun b cc e => by
            by_cases z : b = D
            · subst z
              rw [um_same] at e
              cases e
              exact ⟨f1, xs, f3, hacc.mono m6.ss⟩
            · rw [um_ne z] at e
              exact a6.mu b cc e⟩
          obtain ⟨n8, a8⟩ := a7.wr (.lst (xs ++ [y])) (.lst (acc ++ [d6])) (.lst acc) um_same ⟨xs ++ [y], upd_same, hh⟩
          rw [um_um] at n8 a8
          have sm : SubM μ6 (um μ6 D (.lst (acc ++ [d6]))) := SubM.um f2
          refine ⟨acc ++ [d6], μ6, S6, p6, ⟨(n2.trans m6).ss, fun b o e z => ?_, (n2.trans m6).nost, (n2.trans m6).fr, fun b z => ?_⟩, a8.sub sm, f1, f2, xs ++ [y], upd_same, hh⟩
          · have : b ≠ D := fun q => by rw [q, hD] at e; cases e
            rw [upd_ne this]
            exact (n2.trans m6).keep b o e z
          · by_cases q : b = D
            · rw [q, upd_same]; exact Option.some_ne_none _
            · rw [upd_ne q]; exact (n2.trans m6).dom b z
  · refine .inl ⟨hstop (List.getElem?_eq_none q), ?_⟩
    have ei : i = ds.length := by omega
    subst ei
    have a7 : Asr K S' H' (um μ' D (.lst acc)) := ⟨a2.ex, fun b cc e => by
      by_cases z : b = D
      · subst z
        rw [um_same] at e
        cases e
        exact ⟨sD, xs, hDx, hacc⟩
      · rw [um_ne z] at e
        exact a2.mu b cc e⟩
    refine c _ _ _ S' H' (hd acc μ' pI D mD) (n1.trans ⟨n2.ss, n2.keep, n2.nost, fun b z z' => ?_, n2.dom⟩) a7 (by unfold Has; rfl)
    by_cases q : b = D
    · rw [q]; exact hD
    · rw [um_ne q] at z'; exact n2.fr b z z'
/-- the same, the list is never changed -/
theorem we_lc {wi : TI} {g : TG} {tt : TT} {te : TE} {vs : List Nat} {P : PD} (ow : Own g vs)
    (h : Wi K W wi Γ μ (fun ds μ1 => ∃ I : Nat → List D → Mu → Prop, I 0 [] μ1 ∧ (∀ i acc μ', I i acc μ' → acc.length ≤ i) ∧ ds.length < sizeLine ∧
      (∀ i d acc μ', ds[i]? = some d → I i acc μ' → Wg K g d (wipeG Γ vs) μ' fun Γ2 μ2 => Wt K wZ tt Γ2 μ2 (fun b μ3 =>
        if b = true then We K wZ te Γ2 μ3 (fun e μ4 => I (i + 1) (acc ++ [e]) μ4) X0 else I (i + 1) acc μ3) X0) ∧
      ∀ acc μ', I ds.length acc μ' → P (.lst acc) μ') X) : We K W (tLc wi g tt te vs) Γ μ P X := by
  refine we_frz (we_lcM ow ?_)
  intro S σ H R a b c e
  refine h S σ H R a b (fun ds μ' J S' H' p => ?_) e
  obtain ⟨I, i0, hl, hz, hs, hd⟩ := p
  exact c ds μ' J S' H' ⟨I, i0, hl, hz, hs, fun acc μ' hI p hp => ⟨p, .lst acc, rfl, um_same, by rw [dm_um hp]; exact hd acc μ' hI⟩⟩
end
end Nm
/-! D4: operators, comparisons, subscripts, built-in calls and methods. -/
namespace Nm
open PySem L2
/-! ### as data -/
mutual
def pd : D → PyData
  | .non => .none
  | .bl b => .bool b
  | .int i => .int i
  | .str x => .str x
  | .lst ds => .list (pdL ds)
  | .sq ds => .list (pdL ds)
  | .tup ds => .tuple (pdL ds)
  | _ => .none
def pdL : List D → List PyData
  | [] => []
  | d :: r => pd d :: pdL r
end
/-- plain data, nested so deep at most -/
def Pl : Nat → D → Prop
  | _, .non => True
  | _, .bl _ => True
  | _, .int _ => True
  | _, .str x => PyData.strOk x = true
  | n + 1, .lst ds => ∀ d ∈ ds, Pl n d
  | n + 1, .sq ds => ∀ d ∈ ds, Pl n d
  | n + 1, .tup ds => ∀ d ∈ ds, Pl n d
  | _, _ => False
section
variable {K : PySem.W.Frag}
mutual
theorem dp_of {S H : Hp} (e : Same S H) : ∀ (n : Nat) (d : D) (v : V), Pl n d → Has K S d v → Dp K H v (pd d)
  | n, .non, v, _, h => by unfold Has at h; subst h; exact .non
  | n, .bl b, v, _, h => by unfold Has at h; subst h; exact .bl b
  | n, .int i, v, _, h => by unfold Has at h; subst h; exact .int i
  | n, .str x, v, _, h => by unfold Has at h; subst h; exact .str x
  | n + 1, .lst ds, v, p, h => by
    unfold Has at h
    obtain ⟨a, xs, rfl, h1, h2⟩ := h
    unfold pd
    exact .lst (SqL.of (e _ _ h1)) (dps_of e n ds xs p h2)
  | n + 1, .sq ds, v, p, h => by
    unfold Has at h
    obtain ⟨a, xs, rfl, h1, h2⟩ := h
    unfold pd
    exact .lst (Same.seq e h1) (dps_of e n ds xs p h2)
  | n + 1, .tup ds, v, p, h => by
    unfold Has at h
    obtain ⟨a, xs, rfl, h1, h2⟩ := h
    unfold pd
    exact .tup (same_sqt e h1) (dps_of e n ds xs p h2)
  | 0, .lst _, _, p, _ => p.elim
  | 0, .sq _, _, p, _ => p.elim
  | 0, .tup _, _, p, _ => p.elim
  | 0, .ty _, _, p, _ => p.elim
  | 0, .ref _, _, p, _ => p.elim
  | 0, .ins _ _ _ _, _, p, _ => p.elim
  | 0, .exc _ _ _, _, p, _ => p.elim
  | _ + 1, .ty _, _, p, _ => p.elim
  | _ + 1, .ref _, _, p, _ => p.elim
  | _ + 1, .ins _ _ _ _, _, p, _ => p.elim
  | _ + 1, .exc _ _ _, _, p, _ => p.elim
theorem dps_of {S H : Hp} (e : Same S H) : ∀ (n : Nat) (ds : List D) (xs : List V), (∀ d ∈ ds, Pl n d) → HasL K S ds xs → DpAll K H xs (pdL ds)
  | n, [], xs, _, h => by rw [h.nil_inv]; exact .nil
  | n, d :: r, xs, p, h => by
    obtain ⟨x, y, rfl, h1, h2⟩ := h.cons_inv
    unfold pdL
    exact .cons (dp_of e n d x (p d List.mem_cons_self) h1) (dps_of e n r y (fun z q => p z (List.mem_cons_of_mem _ q)) h2)
end
end
mutual
theorem pd_lay : ∀ (n : Nat) (d : D), Pl n d → (pd d).canLay0 = true ∧ (pd d).depth ≤ n
  | n, .non, _ => by unfold pd; exact ⟨rfl, Nat.zero_le _⟩
  | n, .bl b, _ => by unfold pd; exact ⟨rfl, Nat.zero_le _⟩
  | n, .int i, _ => by unfold pd; exact ⟨rfl, Nat.zero_le _⟩
  | n, .str x, p => by unfold pd; exact ⟨(by cases n <;> simpa [PyData.canLay0, Pl] using p), Nat.zero_le _⟩
  | n + 1, .lst ds, p => by
    obtain ⟨h1, h2⟩ := pdL_lay n ds p
    unfold pd
    exact ⟨by simpa [PyData.canLay0] using h1, by simp only [PyData.depth]; omega⟩
  | n + 1, .sq ds, p => by
    obtain ⟨h1, h2⟩ := pdL_lay n ds p
    unfold pd
    exact ⟨by simpa [PyData.canLay0] using h1, by simp only [PyData.depth]; omega⟩
  | n + 1, .tup ds, p => by
    obtain ⟨h1, h2⟩ := pdL_lay n ds p
    unfold pd
    exact ⟨by simpa [PyData.canLay0] using h1, by simp only [PyData.depth]; omega⟩
  | 0, .lst _, p => p.elim
  | 0, .sq _, p => p.elim
  | 0, .tup _, p => p.elim
  | 0, .ty _, p => p.elim
  | 0, .ref _, p => p.elim
  | 0, .ins _ _ _ _, p => p.elim
  | 0, .exc _ _ _, p => p.elim
  | _ + 1, .ty _, p => p.elim
  | _ + 1, .ref _, p => p.elim
  | _ + 1, .ins _ _ _ _, p => p.elim
  | _ + 1, .exc _ _ _, p => p.elim
theorem pdL_lay : ∀ (n : Nat) (ds : List D), (∀ d ∈ ds, Pl n d) → PyData.canLayAll0 (pdL ds) = true ∧ PyData.depthAll (pdL ds) ≤ n
  | n, [], _ => by unfold pdL; exact ⟨rfl, Nat.zero_le _⟩
  | n, d :: r, p => by
    obtain ⟨h1, h2⟩ := pd_lay n d (p d List.mem_cons_self)
    obtain ⟨h3, h4⟩ := pdL_lay n r (fun z q => p z (List.mem_cons_of_mem _ q))
    unfold pdL
    exact ⟨by simp [PyData.canLayAll0, h1, h3], by simp only [PyData.depthAll]; omega⟩
end
theorem shaped_of {n : Nat} {d : D} (h : Pl n d) (hn : n ≤ 64) : SeqAt.shaped (pd d) = true := by
  obtain ⟨h1, h2⟩ := pd_lay n d h
  unfold SeqAt.shaped
  rw [h1]
  simp
  omega
def deq (d e : D) : Bool := PyData.eqv (pd d) (pd e)
def deqL (d e : List D) : Bool := PyData.eqvAll (pdL d) (pdL e)
theorem deq_str (x y : Str) : deq (.str x) (.str y) = (x == y) := rfl
theorem deq_int (x y : Int) : deq (.int x) (.int y) = (x == y) := rfl
theorem deq_bl (x y : Bool) : deq (.bl x) (.bl y) = (x == y) := rfl
theorem deq_non : deq .non .non = true := rfl
theorem deq_non_str (x : Str) : deq .non (.str x) = false := rfl
theorem deq_str_non (x : Str) : deq (.str x) .non = false := rfl
theorem deq_lst (x y : List D) : deq (.lst x) (.lst y) = deqL x y := rfl
theorem deq_tup (x y : List D) : deq (.tup x) (.tup y) = deqL x y := rfl
theorem deqL_nil : deqL [] [] = true := rfl
theorem deqL_nc (x : D) (y : List D) : deqL [] (x :: y) = false := rfl
theorem deqL_cn (x : D) (y : List D) : deqL (x :: y) [] = false := rfl
theorem deqL_cons (x z : D) (y w : List D) : deqL (x :: y) (z :: w) = (deq x z && deqL y w) := rfl
/-- items of one kind, told by f -/
theorem deqL_map {α : Type} [BEq α] {f : α → D} (h : ∀ a b, deq (f a) (f b) = (a == b)) : ∀ (x y : List α), deqL (x.map f) (y.map f) = (x == y)
  | [], [] => rfl
  | [], _ :: _ => rfl
  | _ :: _, [] => rfl
  | a :: x, b :: y => by
    rw [List.map_cons, List.map_cons, deqL_cons, h, deqL_map h x y]
    rfl
theorem deq_refl {n : Nat} {d : D} (h : Pl n d) : deq d d = true := SeqAt.eqv_refl _ (pd_lay n d h).1

/-! ### operators -/
def rAddU : R2 := fun x y H Q => rI0 (fun i j => .int (i + j)) x y H Q ∨ (∃ i j, x = .str i ∧ y = .str j ∧ i.length + j.length ≤ sizeLine ∧ Q (.str (i ++ j)) H) ∨ rCat x y H Q
theorem op_addU {X : Cx} : OpR X (binaryOp .Add) rAddU := op_add.or (op_add_str.or op_cat)
def dAdd : D → D → Mu → PD → Prop
  | .int i, .int j, μ, P => P (.int (i + j)) μ
  | .str x, .str y, μ, P => x.length + y.length ≤ sizeLine ∧ P (.str (x ++ y)) μ
  | .lst a, .lst b, μ, P => a.length + b.length ≤ sizeLine ∧ P (.lst (a ++ b)) μ
  | .ref a, .lst b, μ, P => ∃ x, μ a = some (.lst x) ∧ x.length + b.length ≤ sizeLine ∧ P (.lst (x ++ b)) μ
  | .lst a, .ref b, μ, P => ∃ x, μ b = some (.lst x) ∧ a.length + x.length ≤ sizeLine ∧ P (.lst (a ++ x)) μ
  | _, _, _, _ => False
def dI (f : Int → Int → D) : D → D → Mu → PD → Prop
  | .int i, .int j, μ, P => P (f i j) μ
  | _, _, _, _ => False
def dIC (C : Int → Int → Prop) (f : Int → Int → D) : D → D → Mu → PD → Prop
  | .int i, .int j, μ, P => C i j ∧ P (f i j) μ
  | _, _, _, _ => False
section
variable {K : PySem.W.Frag}
theorem has_sc {S : Hp} {v : V} {d : D} (h : Has K S d v) {v' : V} (e : ∀ S, Has K S d v') (f : ∀ w, Has K S d w → w = v') : v = v' := f v h
theorem Has.int {S : Hp} {i : Int} : Has K S (.int i) (.int i) := by unfold Has; rfl
theorem Has.str {S : Hp} {i : Str} : Has K S (.str i) (.str i) := by unfold Has; rfl
theorem Has.bl {S : Hp} {i : Bool} : Has K S (.bl i) (.bl i) := by unfold Has; rfl
theorem Has.non {S : Hp} : Has K S .non .non := by unfold Has; rfl
theorem Has.ref {S : Hp} {a : Addr} : Has K S (.ref a) (.ref a) := by unfold Has; rfl
theorem Has.int_inv {S : Hp} {i : Int} {v : V} (h : Has K S (.int i) v) : v = .int i := by unfold Has at h; exact h
theorem Has.str_inv {S : Hp} {i : Str} {v : V} (h : Has K S (.str i) v) : v = .str i := by unfold Has at h; exact h
theorem Has.bl_inv {S : Hp} {i : Bool} {v : V} (h : Has K S (.bl i) v) : v = .bl i := by unfold Has at h; exact h
theorem Has.ref_inv {S : Hp} {i : Addr} {v : V} (h : Has K S (.ref i) v) : v = .ref i := by unfold Has at h; exact h
theorem Has.non_inv {S : Hp} {v : V} (h : Has K S .non v) : v = .non := by unfold Has at h; exact h
theorem Has.ty_inv {S : Hp} {n : String} {v : V} (h : Has K S (.ty n) v) : v = .ty n := by unfold Has at h; exact h
theorem Has.lst_inv {S : Hp} {ds : List D} {v : V} (h : Has K S (.lst ds) v) : ∃ a xs, v = .ref a ∧ S a = some (.lst xs) ∧ HasL K S ds xs := by unfold Has at h; exact h
theorem Has.lst {S : Hp} {ds : List D} {a : Addr} {xs : List V} (h1 : S a = some (.lst xs)) (h2 : HasL K S ds xs) : Has K S (.lst ds) (.ref a) := by unfold Has; exact ⟨a, xs, rfl, h1, h2⟩
theorem Has.sq_inv {S : Hp} {ds : List D} {v : V} (h : Has K S (.sq ds) v) : ∃ a xs, v = .ref a ∧ SqL K S a xs ∧ HasL K S ds xs := by unfold Has at h; exact h
theorem Has.tup_inv {S : Hp} {ds : List D} {v : V} (h : Has K S (.tup ds) v) : ∃ a xs, v = .ref a ∧ SqT K S a xs ∧ HasL K S ds xs := by unfold Has at h; exact h
theorem Has.tup {S : Hp} {ds : List D} {a : Addr} {xs : List V} (h1 : SqT K S a xs) (h2 : HasL K S ds xs) : Has K S (.tup ds) (.ref a) := by unfold Has; exact ⟨a, xs, rfl, h1, h2⟩
theorem Has.ins_inv {S : Hp} {a k : Addr} {ns : List Str} {ds : List D} {v : V} (h : Has K S (.ins a k ns ds) v) : v = .ref a ∧ ∃ dx xs, S a = some (.ins k dx (ns.zip xs)) ∧ ns.length = xs.length ∧ HasL K S ds xs := by unfold Has at h; exact h
/-- a new list of values whose data lies in S already -/
theorem lay_lst {S H : Hp} {μ : Mu} {P : PD} {Q : VK} {ds : List D} {xs : List V} (a : Asr K S H μ) (h : HasL K S ds xs) (k : P (.lst ds) μ) (c : Post K S H μ P Q) : ∀ p, H p = none → Q (.ref p) (upd H p (.lst xs)) := fun p hp => by
  obtain ⟨n2, a2⟩ := a.lay (.lst xs) hp
  exact c _ _ _ _ _ k n2 a2 (.lst upd_same (h.mono n2.ss))
theorem lay_tup {S H : Hp} {μ : Mu} {P : PD} {Q : VK} {ds : List D} {xs : List V} (a : Asr K S H μ) (h : HasL K S ds xs) (k : P (.tup ds) μ) (c : Post K S H μ P Q) : ∀ p, H p = none → Q (.ref p) (upd H p (.tup xs)) := fun p hp => by
  obtain ⟨n2, a2⟩ := a.lay (.tup xs) hp
  exact c _ _ _ _ _ k n2 a2 (.tup (SqT.of upd_same) (h.mono n2.ss))
theorem opS_add : OpS K rAddU dAdd := by
  intro S H μ x y d1 d2 P Q a h1 h2 p c
  unfold dAdd at p
  split at p
  · rw [h1.int_inv, h2.int_inv]
    exact .inl ⟨_, _, rfl, rfl, c _ μ _ S H p .refl a .int⟩
  · rw [h1.str_inv, h2.str_inv]
    exact .inr (.inl ⟨_, _, rfl, rfl, p.1, c _ μ _ S H p.2 .refl a .str⟩)
  · obtain ⟨q1, xs1, rfl, e1, l1⟩ := h1.lst_inv
    obtain ⟨q2, xs2, rfl, e2, l2⟩ := h2.lst_inv
    exact .inr (.inr ⟨q1, q2, xs1, xs2, rfl, rfl, a.ex _ _ e1, a.ex _ _ e2, by rw [l1.length, l2.length]; exact p.1, lay_lst a (l1.app l2) p.2 c⟩)
  · obtain ⟨z, hz, p1, p2⟩ := p
    rw [h1.ref_inv]
    obtain ⟨_, xs1, e1, l1⟩ := a.mu _ _ hz
    obtain ⟨q2, xs2, rfl, e2, l2⟩ := h2.lst_inv
    exact .inr (.inr ⟨_, q2, xs1, xs2, rfl, rfl, e1, a.ex _ _ e2, by rw [l1.length, l2.length]; exact p1, lay_lst a (l1.app l2) p2 c⟩)
  · obtain ⟨z, hz, p1, p2⟩ := p
    rw [h2.ref_inv]
    obtain ⟨_, xs1, e1, l1⟩ := a.mu _ _ hz
    obtain ⟨q2, xs2, rfl, e2, l2⟩ := h1.lst_inv
    exact .inr (.inr ⟨q2, _, xs2, xs1, rfl, rfl, a.ex _ _ e2, e1, by rw [l1.length, l2.length]; exact p1, lay_lst a (l2.app l1) p2 c⟩)
  · exact p.elim
theorem opS_I {g : Int → Int → V} {f : Int → Int → D} (hg : ∀ i j S, Has K S (f i j) (g i j)) : OpS K (rI0 g) (dI f) := by
  intro S H μ x y d1 d2 P Q a h1 h2 p c
  unfold dI at p
  split at p
  · rw [h1.int_inv, h2.int_inv]
    exact ⟨_, _, rfl, rfl, c _ μ _ S H p .refl a (hg _ _ _)⟩
  · exact p.elim
theorem opS_IC {C : Int → Int → Prop} {g : Int → Int → V} {f : Int → Int → D} (hg : ∀ i j S, Has K S (f i j) (g i j)) : OpS K (rI C g) (dIC C f) := by
  intro S H μ x y d1 d2 P Q a h1 h2 p c
  unfold dIC at p
  split at p
  · rw [h1.int_inv, h2.int_inv]
    exact ⟨_, _, rfl, rfl, p.1, c _ μ _ S H p.2 .refl a (hg _ _ _)⟩
  · exact p.elim
abbrev dSub := dI fun i j => .int (i - j)
abbrev dMul := dIC CMul fun i j => .int (i * j)
abbrev dDiv := dIC CDiv fun i j => .int (i / j)
abbrev dMod := dIC (fun _ j => 0 < j) fun i j => .int (i % j)
abbrev dPow := dIC CPow fun i j => .int (i ^ j.toNat)
abbrev dShl := dIC CPow fun i j => .int (i * 2 ^ j.toNat)
abbrev dShr := dIC (fun _ j => 0 ≤ j) fun i j => .int (i / 2 ^ j.toNat)
abbrev dAnd := dI fun i j => .int (Builtin.bitAnd i j)
abbrev dOr := dI fun i j => .int (Builtin.bitOr i j)
abbrev dXor := dI fun i j => .int (Builtin.bitXor i j)
abbrev dLt := dI fun i j => .bl (decide (i < j))
abbrev dLe := dI fun i j => .bl (decide (i ≤ j))
abbrev dGt := dI fun i j => .bl (decide (j < i))
abbrev dGe := dI fun i j => .bl (decide (j ≤ i))
theorem opS_sub : OpS K (rI0 fun i j => .int (i - j)) dSub := opS_I fun _ _ _ => .int
theorem opS_mul : OpS K (rI CMul fun i j => .int (i * j)) dMul := opS_IC fun _ _ _ => .int
theorem opS_div : OpS K (rI CDiv fun i j => .int (i / j)) dDiv := opS_IC fun _ _ _ => .int
theorem opS_mod : OpS K (rI (fun _ j => 0 < j) fun i j => .int (i % j)) dMod := opS_IC fun _ _ _ => .int
theorem opS_pow : OpS K (rI CPow fun i j => .int (i ^ j.toNat)) dPow := opS_IC fun _ _ _ => .int
theorem opS_shl : OpS K (rI CPow fun i j => .int (i * 2 ^ j.toNat)) dShl := opS_IC fun _ _ _ => .int
theorem opS_shr : OpS K (rI (fun _ j => 0 ≤ j) fun i j => .int (i / 2 ^ j.toNat)) dShr := opS_IC fun _ _ _ => .int
theorem opS_and : OpS K (rI0 fun i j => .int (Builtin.bitAnd i j)) dAnd := opS_I fun _ _ _ => .int
theorem opS_or : OpS K (rI0 fun i j => .int (Builtin.bitOr i j)) dOr := opS_I fun _ _ _ => .int
theorem opS_xor : OpS K (rI0 fun i j => .int (Builtin.bitXor i j)) dXor := opS_I fun _ _ _ => .int
theorem opS_lt : OpS K (rI0 fun i j => .bl (decide (i < j))) dLt := opS_I fun _ _ _ => .bl
theorem opS_le : OpS K (rI0 fun i j => .bl (decide (i ≤ j))) dLe := opS_I fun _ _ _ => .bl
theorem opS_gt : OpS K (rI0 fun i j => .bl (decide (j < i))) dGt := opS_I fun _ _ _ => .bl
theorem opS_ge : OpS K (rI0 fun i j => .bl (decide (j ≤ i))) dGe := opS_I fun _ _ _ => .bl
def dU (f : Int → D) : D → Mu → PD → Prop
  | .int i, μ, P => P (f i) μ
  | _, _, _ => False
theorem unS_I {g : Int → V} {f : Int → D} (hg : ∀ i S, Has K S (f i) (g i)) : UnS K (rU g) (dU f) := by
  intro S H μ x d1 P Q a h1 p c
  unfold dU at p
  split at p
  · rw [h1.int_inv]
    exact ⟨_, rfl, c _ μ _ S H p .refl a (hg _ _)⟩
  · exact p.elim
abbrev dNeg := dU fun i => .int (-i)
abbrev dInv := dU fun i => .int (Builtin.bitNot i)
theorem unS_neg : UnS K (rU fun i => .int (-i)) dNeg := unS_I fun _ _ => .int
theorem unS_inv : UnS K (rU fun i => .int (Builtin.bitNot i)) dInv := unS_I fun _ _ => .int

/-! ### comparisons -/
/-- as data it may be compared: so deep at most -/
def Cmp (μ : Mu) : D → (D → Prop) → Prop
  | .ref a, P => ∃ ds, μ a = some (.lst ds) ∧ Pl 8 (.lst ds) ∧ P (.lst ds)
  | d, P => Pl 8 d ∧ P d
theorem cmp_ok {S H : Hp} {μ : Mu} {d : D} {v : V} {P : D → Prop} (a : Asr K S H μ) (h : Has K S d v) (p : Cmp μ d P) : ∃ e, Pl 8 e ∧ Dp K H v (pd e) ∧ P e := by
  have gen : ∀ {d : D}, Has K S d v → Pl 8 d ∧ P d → ∃ e, Pl 8 e ∧ Dp K H v (pd e) ∧ P e := fun {d} h p => ⟨d, p.1, dp_of a.ex 8 d v p.1 h, p.2⟩
  cases d with
  | ref q =>
    obtain ⟨ds, h1, h2, h3⟩ := p
    rw [h.ref_inv]
    obtain ⟨_, xs, e1, l1⟩ := a.mu _ _ h1
    exact ⟨.lst ds, h2, by unfold pd; exact .lst (SqL.of e1) (dps_of a.ex 7 ds xs h2 l1), h3⟩
  | non => exact gen h p
  | bl _ => exact gen h p
  | int _ => exact gen h p
  | str _ => exact gen h p
  | lst _ => exact gen h p
  | sq _ => exact gen h p
  | tup _ => exact gen h p
  | ty _ => exact gen h p
  | ins _ _ _ _ => exact gen h p
  | exc _ _ _ => exact gen h p
def rEqU (K : PySem.W.Frag) : R2 := fun x y H Q => rEq x y H Q ∨ rEqD K x y H Q
def rNeU (K : PySem.W.Frag) : R2 := fun x y H Q => rNe x y H Q ∨ rNeD K x y H Q
theorem op_eqU {X : Cx} (hu : X.A.units + 64 < cLine) : OpR X (compareOp .Eq) (rEqU X.K) := op_eq.or (op_eqD hu)
theorem op_neU {X : Cx} (hu : X.A.units + 64 < cLine) : OpR X (compareOp .NotEq) (rNeU X.K) := op_ne.or (op_neD hu)
def dEq (neg : Bool) : D → D → Mu → PD → Prop
  | .str x, .str y, μ, P => P (.bl (neg ^^ decide (x = y))) μ
  | .int x, .int y, μ, P => P (.bl (neg ^^ decide (x = y))) μ
  | .bl x, .bl y, μ, P => P (.bl (neg ^^ decide (x = y))) μ
  | .non, .non, μ, P => P (.bl (!neg)) μ
  | .non, .str _, μ, P => P (.bl neg) μ
  | .str _, .non, μ, P => P (.bl neg) μ
  | d1, d2, μ, P => Cmp μ d1 fun e1 => Cmp μ d2 fun e2 => P (.bl (neg ^^ deq e1 e2)) μ
theorem opS_eq : OpS K (rEqU K) (dEq false) := by
  intro S H μ x y d1 d2 P Q a h1 h2 p c
  unfold dEq at p
  split at p
  · rw [h1.str_inv, h2.str_inv]
    refine .inl ⟨rfl, ?_⟩
    rw [dec_str]
    exact c _ μ _ S H p .refl a (by rw [Bool.false_xor]; exact .bl)
  · rw [h1.int_inv, h2.int_inv]
    refine .inl ⟨rfl, ?_⟩
    rw [dec_int]
    exact c _ μ _ S H p .refl a (by rw [Bool.false_xor]; exact .bl)
  · rw [h1.bl_inv, h2.bl_inv]
    refine .inl ⟨rfl, ?_⟩
    rw [dec_bl]
    refine c _ μ _ S H p .refl a ?_
    rw [Bool.false_xor, Bool.beq_eq_decide_eq]
    exact .bl
  · rw [h1.non_inv, h2.non_inv]
    exact .inl ⟨rfl, c _ μ _ S H p .refl a .bl⟩
  · rw [h1.non_inv, h2.str_inv]
    exact .inl ⟨rfl, c _ μ _ S H p .refl a .bl⟩
  · rw [h1.str_inv, h2.non_inv]
    exact .inl ⟨rfl, c _ μ _ S H p .refl a .bl⟩
  · obtain ⟨e1, p1, q1, p⟩ := cmp_ok a h1 p
    obtain ⟨e2, p2, q2, p⟩ := cmp_ok a h2 p
    rw [Bool.false_xor] at p
    exact .inr ⟨pd e1, pd e2, q1, q2, shaped_of p1 (by decide), shaped_of p2 (by decide), c _ μ _ S H p .refl a .bl⟩
theorem opS_ne : OpS K (rNeU K) (dEq true) := by
  intro S H μ x y d1 d2 P Q a h1 h2 p c
  unfold dEq at p
  split at p
  · rw [h1.str_inv, h2.str_inv]
    refine .inl ⟨rfl, ?_⟩
    rw [dec_str]
    exact c _ μ _ S H p .refl a (by rw [Bool.true_xor]; exact .bl)
  · rw [h1.int_inv, h2.int_inv]
    refine .inl ⟨rfl, ?_⟩
    rw [dec_int]
    exact c _ μ _ S H p .refl a (by rw [Bool.true_xor]; exact .bl)
  · rw [h1.bl_inv, h2.bl_inv]
    refine .inl ⟨rfl, ?_⟩
    rw [dec_bl]
    refine c _ μ _ S H p .refl a ?_
    rw [Bool.true_xor, Bool.beq_eq_decide_eq]
    exact .bl
  · rw [h1.non_inv, h2.non_inv]
    exact .inl ⟨rfl, c _ μ _ S H p .refl a .bl⟩
  · rw [h1.non_inv, h2.str_inv]
    exact .inl ⟨rfl, c _ μ _ S H p .refl a .bl⟩
  · rw [h1.str_inv, h2.non_inv]
    exact .inl ⟨rfl, c _ μ _ S H p .refl a .bl⟩
  · obtain ⟨e1, p1, q1, p⟩ := cmp_ok a h1 p
    obtain ⟨e2, p2, q2, p⟩ := cmp_ok a h2 p
    rw [Bool.true_xor] at p
    exact .inr ⟨pd e1, pd e2, q1, q2, shaped_of p1 (by decide), shaped_of p2 (by decide), c _ μ _ S H p .refl a .bl⟩
def dinL (d : D) (ds : List D) : Bool := ds.any fun z => deq z d
/-- the items of a list -/
def items (μ : Mu) : D → (List D → Prop) → Prop
  | .lst ds, P => P ds
  | .sq ds, P => P ds
  | .ref a, P => ∃ ds, μ a = some (.lst ds) ∧ P ds
  | _, _ => False
theorem items_ok {S H : Hp} {μ : Mu} {d : D} {v : V} {P : List D → Prop} (a : Asr K S H μ) (h : Has K S d v) (p : items μ d P) : ∃ q xs ds, v = .ref q ∧ SqL K H q xs ∧ HasL K S ds xs ∧ P ds := by
  unfold items at p
  split at p
  · obtain ⟨q, xs, e, h1, h2⟩ := h.lst_inv
    exact ⟨q, xs, _, e, SqL.of (a.ex _ _ h1), h2, p⟩
  · obtain ⟨q, xs, e, h1, h2⟩ := h.sq_inv
    exact ⟨q, xs, _, e, Same.seq a.ex h1, h2, p⟩
  · obtain ⟨ds, h1, h3⟩ := p
    obtain ⟨_, xs, e1, l1⟩ := a.mu _ _ h1
    exact ⟨_, xs, ds, h.ref_inv, SqL.of e1, l1, h3⟩
  · exact p.elim
/-- .. or of a tuple -/
def itemsT (μ : Mu) : D → (List D → Prop) → Prop
  | .tup ds, P => P ds
  | d, P => items μ d P
theorem itemsT_ok {S H : Hp} {μ : Mu} {d : D} {v : V} {P : List D → Prop} (a : Asr K S H μ) (h : Has K S d v) (p : itemsT μ d P) : ∃ q xs ds, v = .ref q ∧ (SqL K H q xs ∨ SqT K H q xs) ∧ HasL K S ds xs ∧ P ds := by
  unfold itemsT at p
  split at p
  · obtain ⟨q, xs, e, h1, h2⟩ := h.tup_inv
    exact ⟨q, xs, _, e, .inr (same_sqt a.ex h1), h2, p⟩
  · obtain ⟨q, xs, ds, h1, h2, h3, h4⟩ := items_ok a h p
    exact ⟨q, xs, ds, h1, .inl h2, h3, h4⟩
theorem strs_vals {S : Hp} : ∀ {ss : List Str} {xs : List V}, HasL K S (ss.map D.str) xs → xs = ss.map V.str
  | [], xs, h => h.nil_inv
  | s :: r, xs, h => by
    obtain ⟨x, y, rfl, h1, h2⟩ := h.cons_inv
    rw [h1.str_inv, strs_vals h2]
    rfl
theorem strs_flat : ∀ ss : List Str, (ss.map V.str).all flatV = true
  | [] => rfl
  | _ :: r => strs_flat r
theorem ints_vals {S : Hp} : ∀ {ss : List Int} {xs : List V}, HasL K S (ss.map D.int) xs → xs = ss.map V.int
  | [], xs, h => h.nil_inv
  | s :: r, xs, h => by
    obtain ⟨x, y, rfl, h1, h2⟩ := h.cons_inv
    rw [h1.int_inv, ints_vals h2]
    rfl
theorem ints_flat : ∀ ss : List Int, (ss.map V.int).all flatV = true
  | [] => rfl
  | _ :: r => ints_flat r
theorem inV_str (x : Str) : ∀ ss : List Str, inV (.str x) (ss.map V.str) = decide (x ∈ ss)
  | [] => rfl
  | s :: r => by
    have e : inV (.str x) ((s :: r).map V.str) = ((s == x) || inV (.str x) (r.map V.str)) := rfl
    rw [e, inV_str x r]
    by_cases h : s = x
    · subst h; simp
    · have h2 : ¬ x = s := fun q => h q.symm
      simp [h, h2]
theorem inV_int (x : Int) : ∀ ss : List Int, inV (.int x) (ss.map V.int) = decide (x ∈ ss)
  | [] => rfl
  | s :: r => by
    have e : inV (.int x) ((s :: r).map V.int) = ((s == x) || inV (.int x) (r.map V.int)) := rfl
    rw [e, inV_int x r]
    by_cases h : s = x
    · subst h; simp
    · have h2 : ¬ x = s := fun q => h q.symm
      simp [h, h2]
/-- in: a sign in a text, an item in a list -/
def rInU (K : PySem.W.Frag) : R2 := fun x y H Q => (∃ (c : Nat) (z : Str), x = .str ⟨#[c]⟩ ∧ y = .str z ∧ Q (.bl (decide (c ∈ z.cps.toList))) H) ∨ rIn K false x y H Q ∨ rInD K x y H Q
def rNotInU (K : PySem.W.Frag) : R2 := fun x y H Q => (∃ (c : Nat) (z : Str), x = .str ⟨#[c]⟩ ∧ y = .str z ∧ Q (.bl (!decide (c ∈ z.cps.toList))) H) ∨ rIn K true x y H Q ∨ rNotInD K x y H Q
theorem op_inU {X : Cx} (hu : X.A.units + 65 < cLine) : OpR X (compareOp .In) (rInU X.K) := op_in_sign.or (op_in_seq.or (op_inD hu))
theorem op_notInU {X : Cx} (hu : X.A.units + 65 < cLine) : OpR X (compareOp .NotIn) (rNotInU X.K) := op_notIn_sign.or (op_notIn_seq.or (op_notInD hu))
def dIn (neg : Bool) : D → D → Mu → PD → Prop
  | .str x, .str z, μ, P => ∃ c, x = ⟨#[c]⟩ ∧ P (.bl (neg ^^ decide (c ∈ z.cps.toList))) μ
  | .str x, e, μ, P => itemsT μ e fun ds => ∃ ss : List Str, ds = ss.map D.str ∧ P (.bl (neg ^^ decide (x ∈ ss))) μ
  | .int x, e, μ, P => itemsT μ e fun ds => ∃ ss : List Int, ds = ss.map D.int ∧ P (.bl (neg ^^ decide (x ∈ ss))) μ
  | d, e, μ, P => Pl 7 d ∧ items μ e fun ds => (∀ z ∈ ds, Pl 7 z) ∧ P (.bl (neg ^^ dinL d ds)) μ
theorem any_pd (d : D) : ∀ ds : List D, ((pdL ds).any fun z => PyData.eqv z (pd d)) = dinL d ds
  | [] => rfl
  | e :: r => by
    show (PyData.eqv (pd e) (pd d) || (pdL r).any fun z => PyData.eqv z (pd d)) = (deq e d || dinL d r)
    rw [any_pd d r]
    rfl
theorem in_core {neg : Bool} {S H : Hp} {μ : Mu} {x y : V} {d e : D} {P : PD} {Q : VK} (a : Asr K S H μ) (h1 : Has K S d x) (h2 : Has K S e y) (p : Pl 7 d ∧ items μ e fun ds => (∀ z ∈ ds, Pl 7 z) ∧ P (.bl (neg ^^ dinL d ds)) μ) (c : Post K S H μ P Q) :
    ∃ dd ds, Dp K H x dd ∧ Dp K H y (.list ds) ∧ SeqAt.shaped dd = true ∧ SeqAt.shaped (.list ds) = true ∧ Q (.bl (neg ^^ (ds.any fun z => PyData.eqv z dd))) H := by
  obtain ⟨p1, p2⟩ := p
  obtain ⟨q, xs, ds, rfl, hs, hl, p3, p4⟩ := items_ok a h2 p2
  refine ⟨pd d, pdL ds, dp_of a.ex 7 d x p1 h1, .lst hs (dps_of a.ex 7 ds xs p3 hl), shaped_of p1 (by decide), ?_, ?_⟩
  · have z : Pl 8 (.lst ds) := p3
    have w := shaped_of z (by decide)
    unfold pd at w
    exact w
  · rw [any_pd]
    exact c _ μ _ S H p4 .refl a .bl
theorem opS_in : OpS K (rInU K) (dIn false) := by
  intro S H μ x y d1 d2 P Q a h1 h2 p c
  unfold dIn at p
  split at p
  · obtain ⟨k, rfl, p⟩ := p
    rw [h1.str_inv, h2.str_inv]
    rw [Bool.false_xor] at p
    exact .inl ⟨k, _, rfl, rfl, c _ μ _ S H p .refl a .bl⟩
  · obtain ⟨q, xs, ds, rfl, hs, hl, ss, rfl, p⟩ := itemsT_ok a h2 p
    have e := strs_vals hl
    subst e
    rw [h1.str_inv]
    refine .inr (.inl ⟨q, _, rfl, hs, rfl, strs_flat ss, ?_⟩)
    rw [inV_str]
    rw [Bool.false_xor] at p
    exact c _ μ _ S H p .refl a .bl
  · obtain ⟨q, xs, ds, rfl, hs, hl, ss, rfl, p⟩ := itemsT_ok a h2 p
    have e := ints_vals hl
    subst e
    rw [h1.int_inv]
    refine .inr (.inl ⟨q, _, rfl, hs, rfl, ints_flat ss, ?_⟩)
    rw [inV_int]
    rw [Bool.false_xor] at p
    exact c _ μ _ S H p .refl a .bl
  · obtain ⟨dd, ds, q1, q2, q3, q4, q5⟩ := in_core a h1 h2 p c
    rw [Bool.false_xor] at q5
    exact .inr (.inr ⟨dd, ds, q1, q2, q3, q4, q5⟩)
theorem opS_notIn : OpS K (rNotInU K) (dIn true) := by
  intro S H μ x y d1 d2 P Q a h1 h2 p c
  unfold dIn at p
  split at p
  · obtain ⟨k, rfl, p⟩ := p
    rw [h1.str_inv, h2.str_inv]
    rw [Bool.true_xor] at p
    exact .inl ⟨k, _, rfl, rfl, c _ μ _ S H p .refl a .bl⟩
  · obtain ⟨q, xs, ds, rfl, hs, hl, ss, rfl, p⟩ := itemsT_ok a h2 p
    have e := strs_vals hl
    subst e
    rw [h1.str_inv]
    refine .inr (.inl ⟨q, _, rfl, hs, rfl, strs_flat ss, ?_⟩)
    rw [inV_str]
    rw [Bool.true_xor] at p
    exact c _ μ _ S H p .refl a .bl
  · obtain ⟨q, xs, ds, rfl, hs, hl, ss, rfl, p⟩ := itemsT_ok a h2 p
    have e := ints_vals hl
    subst e
    rw [h1.int_inv]
    refine .inr (.inl ⟨q, _, rfl, hs, rfl, ints_flat ss, ?_⟩)
    rw [inV_int]
    rw [Bool.true_xor] at p
    exact c _ μ _ S H p .refl a .bl
  · obtain ⟨dd, ds, q1, q2, q3, q4, q5⟩ := in_core a h1 h2 p c
    rw [Bool.true_xor] at q5
    exact .inr (.inr ⟨dd, ds, q1, q2, q3, q4, q5⟩)
def dIsN (neg : Bool) : D → D → Mu → PD → Prop
  | d, .non, μ, P => (match d with
    | .non => P (.bl (!neg)) μ
    | .bl _ => P (.bl neg) μ
    | .int _ => P (.bl neg) μ
    | .str _ => P (.bl neg) μ
    | .lst _ => P (.bl neg) μ
    | .tup _ => P (.bl neg) μ
    | .ref _ => P (.bl neg) μ
    | .ins _ _ _ _ => P (.bl neg) μ
    | _ => False)
  | _, _, _, _ => False
theorem isN_core {neg : Bool} {S : Hp} {μ : Mu} {x : V} {d : D} {P : PD} (h1 : Has K S d x) (p : dIsN neg d .non μ P) : P (.bl (neg ^^ decide (x = .non))) μ := by
  unfold dIsN at p
  cases d with
  | non => rw [h1.non_inv]; simpa using p
  | bl _ => rw [h1.bl_inv]; simpa using p
  | int _ => rw [h1.int_inv]; simpa using p
  | str _ => rw [h1.str_inv]; simpa using p
  | ref _ => rw [h1.ref_inv]; simpa using p
  | lst _ => obtain ⟨q, xs, e, _⟩ := h1.lst_inv; rw [e]; simpa using p
  | tup _ => obtain ⟨q, xs, e, _⟩ := h1.tup_inv; rw [e]; simpa using p
  | ins _ _ _ _ => rw [h1.ins_inv.1]; simpa using p
  | _ => exact p.elim
theorem opS_isN : OpS K rIsN (dIsN false) := by
  intro S H μ x y d1 d2 P Q a h1 h2 p c
  cases d2 with
  | non =>
    have q := isN_core h1 p
    rw [Bool.false_xor] at q
    exact ⟨h2.non_inv, c _ μ _ S H q .refl a .bl⟩
  | _ => exact (by unfold dIsN at p; exact p.elim)
theorem opS_notN : OpS K rNotN (dIsN true) := by
  intro S H μ x y d1 d2 P Q a h1 h2 p c
  cases d2 with
  | non =>
    have q := isN_core h1 p
    rw [Bool.true_xor] at q
    exact ⟨h2.non_inv, c _ μ _ S H q .refl a .bl⟩
  | _ => exact (by unfold dIsN at p; exact p.elim)

/-! ### subscripts -/
def dIx : D → D → Mu → PD → Prop
  | .lst ds, .int i, μ, P => ∃ d, atI ds i = some d ∧ P d μ
  | .sq ds, .int i, μ, P => ∃ d, atI ds i = some d ∧ P d μ
  | .tup ds, .int i, μ, P => ∃ d, atI ds i = some d ∧ P d μ
  | .ref a, .int i, μ, P => ∃ ds, μ a = some (.lst ds) ∧ ∃ d, atI ds i = some d ∧ P d μ
  | .str z, .int i, μ, P => z.length ≤ sizeLine ∧ ∃ c, atI z.cps.toList i = some c ∧ P (.str ⟨#[c]⟩) μ
  | _, _, _, _ => False
theorem HasL.atI {S : Hp} {ds : List D} {xs : List V} {i : Int} {d : D} (h : HasL K S ds xs) (e : L2.atI ds i = some d) : ∃ x, L2.atI xs i = some x ∧ Has K S d x := by
  unfold L2.atI at e ⊢
  rw [h.length]
  cases q : ixN ds.length i with
  | none => rw [q] at e; cases e
  | some j =>
    rw [q] at e
    exact h.get e
theorem opS_ix : OpS K (rIx K) dIx := by
  intro S H μ x y d1 d2 P Q a h1 h2 p c
  unfold dIx at p
  split at p
  · obtain ⟨d, e, p⟩ := p
    obtain ⟨q, xs, rfl, e1, l1⟩ := h1.lst_inv
    rw [h2.int_inv]
    obtain ⟨v, e2, hv⟩ := l1.atI e
    exact .inl ⟨q, xs, _, v, rfl, rfl, SqL.of (a.ex _ _ e1), e2, c _ μ _ S H p .refl a hv⟩
  · obtain ⟨d, e, p⟩ := p
    obtain ⟨q, xs, rfl, e1, l1⟩ := h1.sq_inv
    rw [h2.int_inv]
    obtain ⟨v, e2, hv⟩ := l1.atI e
    exact .inl ⟨q, xs, _, v, rfl, rfl, Same.seq a.ex e1, e2, c _ μ _ S H p .refl a hv⟩
  · obtain ⟨d, e, p⟩ := p
    obtain ⟨q, xs, rfl, e1, l1⟩ := h1.tup_inv
    rw [h2.int_inv]
    obtain ⟨v, e2, hv⟩ := l1.atI e
    exact .inr (.inl ⟨q, xs, _, v, rfl, rfl, same_sqt a.ex e1, e2, c _ μ _ S H p .refl a hv⟩)
  · obtain ⟨ds, hz, d, e, p⟩ := p
    rw [h1.ref_inv, h2.int_inv]
    obtain ⟨_, xs, e1, l1⟩ := a.mu _ _ hz
    obtain ⟨v, e2, hv⟩ := l1.atI e
    exact .inl ⟨_, xs, _, v, rfl, rfl, SqL.of e1, e2, c _ μ _ S H p .refl a hv⟩
  · obtain ⟨hl, k, e, p⟩ := p
    rw [h1.str_inv, h2.int_inv]
    exact .inr (.inr ⟨_, _, k, rfl, rfl, hl, e, c _ μ _ S H p .refl a .str⟩)
  · exact p.elim
/-- a[lo:hi] -/
def rSlU (K : PySem.W.Frag) : V → Option Int → Option Int → Hp → VK → Prop := fun x lo hi H Q => rSlL K x lo hi H Q ∨ rSlS x lo hi H Q
theorem sl_u {X : Cx} : SlR X (rSlU X.K) := sl_list.or sl_str
def cutD (ds : List D) (lo hi : Option Int) : List D := (ds.drop (HT.sIx ds.length 0 lo)).take (HT.sIx ds.length ds.length hi - HT.sIx ds.length 0 lo)
theorem HasL.cut {S : Hp} {ds : List D} {xs : List V} (h : HasL K S ds xs) (lo hi : Option Int) : HasL K S (cutD ds lo hi) (cutV xs lo hi) := by
  unfold cutD cutV
  rw [h.length]
  exact (h.drop _).take _
def dSl (d : D) (lo hi : Option Int) (μ : Mu) (P : PD) : Prop := match d with
  | .str z => z.length ≤ sizeLine ∧ P (.str (cutS z lo hi)) μ
  | d => items μ d fun ds => P (.lst (cutD ds lo hi)) μ
theorem wo_none {W : WX} {Γ : Gm} {μ : Mu} {P : Option Int → Mu → Prop} {X : XD} (k : P none μ) : Wo K W tNoPart Γ μ P X := fun S σ H Q a b c _ => c none μ S H k .refl a
theorem wo_some {W : WX} {Γ : Gm} {μ : Mu} {te : TE} {P : Option Int → Mu → Prop} {X : XD} (h : We K W te Γ μ (fun d μ1 => ∃ i, d = .int i ∧ P (some i) μ1) X) : Wo K W (tPart te) Γ μ P X := by
  intro S σ H Q a b c e
  refine h S σ H _ a b (fun d1 μ1 x S1 H1 p1 n1 a1 h1 => ?_) e
  obtain ⟨i, rfl, p⟩ := p1
  exact ⟨i, h1.int_inv, c _ μ1 S1 H1 p n1 a1⟩
theorem we_sl {W : WX} {Γ : Gm} {μ : Mu} {te : TE} {tl th : TO} {P : PD} {X : XD} (h : We K W te Γ μ (fun d μ1 => Wo K W tl Γ μ1 (fun lo μ2 => Wo K W th Γ μ2 (fun hi μ3 => dSl d lo hi μ3 P) X) X) X) : We K W (tSl (rSlU K) te tl th) Γ μ P X := by
  intro S σ H Q a b c e
  refine h S σ H _ a b (fun d1 μ1 x S1 H1 p1 n1 a1 h1 => ?_) e
  refine p1 S1 σ H1 _ a1 (b.mono n1.ss) (fun lo μ2 S2 H2 p2 n2 a2 => ?_) (e.nx n1)
  refine p2 S2 σ H2 _ a2 (b.mono (n1.trans n2).ss) (fun hi μ3 S3 H3 p3 n3 a3 => ?_) (e.nx (n1.trans n2))
  have h3 := h1.mono (n2.trans n3).ss
  have cc := c.nx ((n1.trans n2).trans n3)
  unfold dSl at p3
  split at p3
  · rw [h3.str_inv]
    exact .inr ⟨_, rfl, p3.1, cc _ μ3 _ S3 H3 p3.2 .refl a3 .str⟩
  · obtain ⟨q, xs, ds, rfl, hs, hl, p4⟩ := items_ok a3 h3 p3
    exact .inl ⟨q, xs, rfl, hs, lay_lst a3 (hl.cut lo hi) p4 cc⟩
/-- a[i] = e, a a list -/
theorem wg_set {W : WX} {Γ : Gm} {μ : Mu} {to ti : TE} {d : D} {P : Gm → Mu → Prop}
    (h : We K W to Γ μ (fun o μ1 => We K W ti Γ μ1 (fun i μ2 => ∃ a ds k j, o = .ref a ∧ i = .int k ∧ μ2 a = some (.lst ds) ∧ ixN ds.length k = some j ∧ P Γ (um μ2 a (.lst (ds.set j d)))) X0) X0) : Wg K (gSub to ti rSetL) d Γ μ P := by
  intro S σ H v R a b hv c
  refine h S σ H _ a b (fun d1 μ1 x S1 H1 p1 n1 a1 h1 => ?_) (fun _ _ _ _ _ _ _ z => z.elim)
  refine p1 S1 σ H1 _ a1 (b.mono n1.ss) (fun d2 μ2 y S2 H2 p2 n2 a2 h2 => ?_) (fun _ _ _ _ _ _ _ z => z.elim)
  obtain ⟨q, ds, k, j, rfl, rfl, hq, hj, p⟩ := p2
  obtain ⟨_, xs, e1, l1⟩ := a2.mu _ _ hq
  refine ⟨q, xs, k, j, h1.ref_inv, h2.int_inv, e1, by rw [l1.length]; exact hj, ?_⟩
  obtain ⟨n3, a3⟩ := a2.wr (.lst (xs.set j v)) (.lst (ds.set j d)) (.lst ds) hq ⟨_, upd_same, l1.set (hv.mono (n1.trans n2).ss) j⟩
  exact c _ _ _ S2 _ p ((n1.trans n2).trans n3) a3 (b.mono (n1.trans n2).ss)

/-! ### built-in calls -/
def dLen : List D → Mu → PD → Prop
  | [.str z], μ, P => z.length ≤ sizeLine ∧ P (.int z.length) μ
  | [.tup ds], μ, P => P (.int ds.length) μ
  | [d], μ, P => items μ d fun ds => P (.int ds.length) μ
  | _, _, _ => False
theorem has1 {S : Hp} {d : D} {xs : List V} (h : HasL K S [d] xs) : ∃ x, xs = [x] ∧ Has K S d x := by
  obtain ⟨x, r, rfl, h1, h2⟩ := h.cons_inv
  rw [h2.nil_inv]
  exact ⟨x, rfl, h1⟩
theorem has2 {S : Hp} {d e : D} {xs : List V} (h : HasL K S [d, e] xs) : ∃ x y, xs = [x, y] ∧ Has K S d x ∧ Has K S e y := by
  obtain ⟨x, r, rfl, h1, h2⟩ := h.cons_inv
  obtain ⟨y, rfl, h3⟩ := has1 h2
  exact ⟨x, y, rfl, h1, h3⟩
def rLenC (K : PySem.W.Frag) : List V → Hp → VK → Prop := fun xs H Q => ∃ x n, xs = [x] ∧ LenV K x H n ∧ Q (.int n) H
theorem cbS_len : CbS K (rLenC K) dLen := by
  intro S H μ xs ds P Q a h p c
  unfold dLen at p
  split at p
  · obtain ⟨x, rfl, h1⟩ := has1 h
    rw [h1.str_inv]
    exact ⟨_, _, rfl, ⟨p.1, rfl⟩, c _ μ _ S H p.2 .refl a .int⟩
  · obtain ⟨x, rfl, h1⟩ := has1 h
    obtain ⟨q, ys, rfl, e1, l1⟩ := h1.tup_inv
    exact ⟨_, ys.length, rfl, .inr ⟨ys, same_sqt a.ex e1, rfl⟩, c _ μ _ S H p .refl a (by rw [l1.length]; exact .int)⟩
  · obtain ⟨x, rfl, h1⟩ := has1 h
    obtain ⟨q, ys, ds', rfl, e1, l1, p⟩ := items_ok a h1 p
    exact ⟨_, ys.length, rfl, .inl ⟨ys, e1, rfl⟩, c _ μ _ S H p .refl a (by rw [l1.length]; exact .int)⟩
  · exact p.elim
def rIntC : List V → Hp → VK → Prop := fun xs H Q => (∃ i, xs = [.int i] ∧ Q (.int i) H) ∨ ∃ k, xs = [.bl k] ∧ Q (.int (if k then 1 else 0)) H
def dIntC : List D → Mu → PD → Prop
  | [.int i], μ, P => P (.int i) μ
  | [.bl k], μ, P => P (.int (if k then 1 else 0)) μ
  | _, _, _ => False
theorem cbS_int : CbS K rIntC dIntC := by
  intro S H μ xs ds P Q a h p c
  unfold dIntC at p
  split at p
  · obtain ⟨x, rfl, h1⟩ := has1 h
    rw [h1.int_inv]
    exact .inl ⟨_, rfl, c _ μ _ S H p .refl a .int⟩
  · obtain ⟨x, rfl, h1⟩ := has1 h
    rw [h1.bl_inv]
    exact .inr ⟨_, rfl, c _ μ _ S H p .refl a .int⟩
  · exact p.elim
def rBoolC : List V → Hp → VK → Prop := fun xs H Q => (∃ i, xs = [.int i] ∧ Q (.bl (i != 0)) H) ∨ ∃ k, xs = [.bl k] ∧ Q (.bl k) H
def dBoolC : List D → Mu → PD → Prop
  | [.int i], μ, P => P (.bl (i != 0)) μ
  | [.bl k], μ, P => P (.bl k) μ
  | _, _, _ => False
theorem cbS_bool : CbS K rBoolC dBoolC := by
  intro S H μ xs ds P Q a h p c
  unfold dBoolC at p
  split at p
  · obtain ⟨x, rfl, h1⟩ := has1 h
    rw [h1.int_inv]
    exact .inl ⟨_, rfl, c _ μ _ S H p .refl a .bl⟩
  · obtain ⟨x, rfl, h1⟩ := has1 h
    rw [h1.bl_inv]
    exact .inr ⟨_, rfl, c _ μ _ S H p .refl a .bl⟩
  · exact p.elim
def rMaxC : List V → Hp → VK → Prop := fun xs H Q => ∃ i j, xs = [.int i, .int j] ∧ Q (.int (if j > i then j else i)) H
def dMaxC : List D → Mu → PD → Prop
  | [.int i, .int j], μ, P => P (.int (if j > i then j else i)) μ
  | _, _, _ => False
theorem cbS_max : CbS K rMaxC dMaxC := by
  intro S H μ xs ds P Q a h p c
  unfold dMaxC at p
  split at p
  · obtain ⟨x, y, rfl, h1, h2⟩ := has2 h
    rw [h1.int_inv, h2.int_inv]
    exact ⟨_, _, rfl, c _ μ _ S H p .refl a .int⟩
  · exact p.elim
def rMinC : List V → Hp → VK → Prop := fun xs H Q => ∃ i j, xs = [.int i, .int j] ∧ Q (.int (if j < i then j else i)) H
def dMinC : List D → Mu → PD → Prop
  | [.int i, .int j], μ, P => P (.int (if j < i then j else i)) μ
  | _, _, _ => False
theorem cbS_min : CbS K rMinC dMinC := by
  intro S H μ xs ds P Q a h p c
  unfold dMinC at p
  split at p
  · obtain ⟨x, y, rfl, h1, h2⟩ := has2 h
    rw [h1.int_inv, h2.int_inv]
    exact ⟨_, _, rfl, c _ μ _ S H p .refl a .int⟩
  · exact p.elim
/-- list(xs): a new list -/
def rListC (K : PySem.W.Frag) : List V → Hp → VK → Prop := fun xs H Q => ∃ p ys, xs = [.ref p] ∧ (SqL K H p ys ∨ SqT K H p ys) ∧ ∀ l, H l = none → Q (.ref l) (upd H l (.lst ys))
def dListC : List D → Mu → PD → Prop
  | [.tup ds], μ, P => P (.lst ds) μ
  | [d], μ, P => items μ d fun ds => P (.lst ds) μ
  | _, _, _ => False
def dListM : List D → Mu → PD → Prop
  | [.tup ds], μ, P => ∀ p, μ p = none → P (.ref p) (um μ p (.lst ds))
  | [d], μ, P => items μ d fun ds => ∀ p, μ p = none → P (.ref p) (um μ p (.lst ds))
  | _, _, _ => False
theorem cbS_list : CbS K (rListC K) dListC := by
  intro S H μ xs ds P Q a h p c
  unfold dListC at p
  split at p
  · obtain ⟨x, rfl, h1⟩ := has1 h
    obtain ⟨q, ys, rfl, e1, l1⟩ := h1.tup_inv
    exact ⟨q, ys, rfl, .inr (same_sqt a.ex e1), lay_lst a l1 p c⟩
  · obtain ⟨x, rfl, h1⟩ := has1 h
    obtain ⟨q, ys, ds', rfl, e1, l1, p⟩ := items_ok a h1 p
    exact ⟨q, ys, rfl, .inl e1, lay_lst a l1 p c⟩
  · exact p.elim
theorem lay_lstM {S H : Hp} {μ : Mu} {P : PD} {Q : VK} {ds : List D} {xs : List V} (a : Asr K S H μ) (h : HasL K S ds xs) (k : ∀ p, μ p = none → P (.ref p) (um μ p (.lst ds))) (c : Post K S H μ P Q) : ∀ p, H p = none → Q (.ref p) (upd H p (.lst xs)) := fun p hp => by
  obtain ⟨n2, a2⟩ := a.layM (.lst xs) (.lst ds) hp ⟨xs, upd_same, h⟩
  exact c _ _ _ _ _ (k p (a.unk hp).2) n2 a2 .ref
theorem cbS_listM : CbS K (rListC K) dListM := by
  intro S H μ xs ds P Q a h p c
  unfold dListM at p
  split at p
  · obtain ⟨x, rfl, h1⟩ := has1 h
    obtain ⟨q, ys, rfl, e1, l1⟩ := h1.tup_inv
    exact ⟨q, ys, rfl, .inr (same_sqt a.ex e1), lay_lstM a l1 p c⟩
  · obtain ⟨x, rfl, h1⟩ := has1 h
    obtain ⟨q, ys, ds', rfl, e1, l1, p⟩ := items_ok a h1 p
    exact ⟨q, ys, rfl, .inl e1, lay_lstM a l1 p c⟩
  · exact p.elim

/-! ### methods of built-in things -/
def MtS (K : PySem.W.Frag) (T : String) (r : V → List V → Hp → VK → Prop) (o : D → List D → Mu → PD → Prop) : Prop := ∀ S H μ x xs d ds P Q, Asr K S H μ → Has K S d x → HasL K S ds xs → o d ds μ P → Post K S H μ P Q → tyV K T x H ∧ r x xs H Q
/-- the type alone, ahead of the arguments -/
def tyD (μ : Mu) (T : String) : D → Prop
  | .str _ => T = "str"
  | .lst _ => T = "list"
  | .sq _ => T = "list"
  | .ref a => T = "list" ∧ ∃ ds, μ a = some (.lst ds)
  | _ => False
theorem tyD_ok {S H : Hp} {μ : Mu} {T : String} {d : D} {x : V} (a : Asr K S H μ) (h : Has K S d x) (t : tyD μ T d) : tyV K T x H := by
  cases d with
  | str z => rw [h.str_inv]; exact t
  | lst ds => obtain ⟨q, xs, rfl, e1, l1⟩ := h.lst_inv; exact .inl ⟨t, xs, SqL.of (a.ex _ _ e1)⟩
  | sq ds => obtain ⟨q, xs, rfl, e1, l1⟩ := h.sq_inv; exact .inl ⟨t, xs, Same.seq a.ex e1⟩
  | ref q =>
    rw [h.ref_inv]
    obtain ⟨t, ds, hz⟩ := t
    obtain ⟨_, xs, e1, l1⟩ := a.mu _ _ hz
    exact .inl ⟨t, xs, SqL.of e1⟩
  | _ => exact t.elim
def MS (K : PySem.W.Frag) (r : V → List V → Hp → VK → Prop) (o : D → List D → Mu → PD → Prop) : Prop := ∀ S H μ x xs d ds P Q, Asr K S H μ → Has K S d x → HasL K S ds xs → o d ds μ P → Post K S H μ P Q → r x xs H Q
theorem we_bm {W : WX} {Γ : Gm} {μ : Mu} {T : String} {r : V → List V → Hp → VK → Prop} {o : D → List D → Mu → PD → Prop} {to : TE} {t : TA} {P : PD} {X : XD} (ho : MS K r o)
    (h : We K W to Γ μ (fun d μ1 => tyD μ1 T d ∧ Wa K W t Γ μ1 (fun ds μ2 => o d ds μ2 P) X) X) : We K W (tBM K T r to t) Γ μ P X := by
  intro S σ H Q a b c e
  refine h S σ H _ a b (fun d1 μ1 x S1 H1 p1 n1 a1 h1 => ⟨tyD_ok a1 h1 p1.1, ?_⟩) e
  refine p1.2 S1 σ H1 _ a1 (b.mono n1.ss) (fun d2 μ2 y S2 H2 p2 n2 a2 h2 => ?_) (e.nx n1)
  exact ho S2 H2 μ2 x y d1 d2 P Q a2 (h1.mono n2.ss) h2 p2 (c.nx (n1.trans n2))
theorem we_bm0 {W : WX} {Γ : Gm} {μ : Mu} {T : String} {r : V → List V → Hp → VK → Prop} {o : D → List D → Mu → PD → Prop} {to : TE} {P : PD} {X : XD} (ho : MS K r o)
    (h : We K W to Γ μ (fun d μ1 => tyD μ1 T d ∧ o d [] μ1 P) X) : We K W (tBM0 K T r to) Γ μ P X := by
  intro S σ H Q a b c e
  refine h S σ H _ a b (fun d1 μ1 x S1 H1 p1 n1 a1 h1 => ⟨tyD_ok a1 h1 p1.1, ?_⟩) e
  exact ho S1 H1 μ1 x [] d1 [] P Q a1 h1 .nil p1.2 (c.nx n1)
def dAppend : D → List D → Mu → PD → Prop
  | .ref l, [d], μ, P => ∃ ds, μ l = some (.lst ds) ∧ ds.length < sizeLine ∧ P .non (um μ l (.lst (ds ++ [d])))
  | _, _, _, _ => False
theorem mS_append : MS K rAppend dAppend := by
  intro S H μ x xs d ds P Q a h hl p c
  unfold dAppend at p
  split at p
  · obtain ⟨zs, hz, p1, p2⟩ := p
    obtain ⟨y, rfl, hy⟩ := has1 hl
    rw [h.ref_inv]
    obtain ⟨_, ws, e1, l1⟩ := a.mu _ _ hz
    obtain ⟨n3, a3⟩ := a.wr (.lst (ws ++ [y])) (.lst (zs ++ [_])) (.lst zs) hz ⟨_, upd_same, l1.app (.cons hy .nil)⟩
    exact ⟨_, ws, y, rfl, rfl, e1, by rw [l1.length]; exact p1, c _ _ _ _ _ p2 n3 a3 .non⟩
  · exact p.elim
def dExtend : D → List D → Mu → PD → Prop
  | .ref l, [.lst zs], μ, P => ∃ ds, μ l = some (.lst ds) ∧ ds.length + zs.length ≤ sizeLine ∧ P .non (um μ l (.lst (ds ++ zs)))
  | _, _, _, _ => False
theorem mS_extend : MS K rExtend dExtend := by
  intro S H μ x xs d ds P Q a h hl p c
  unfold dExtend at p
  split at p
  · obtain ⟨zs, hz, p1, p2⟩ := p
    obtain ⟨y, rfl, hy⟩ := has1 hl
    obtain ⟨q, ys, rfl, e2, l2⟩ := hy.lst_inv
    rw [h.ref_inv]
    obtain ⟨_, ws, e1, l1⟩ := a.mu _ _ hz
    obtain ⟨n3, a3⟩ := a.wr (.lst (ws ++ ys)) (.lst (zs ++ _)) (.lst zs) hz ⟨_, upd_same, l1.app l2⟩
    exact ⟨_, q, ws, ys, rfl, rfl, e1, a.ex _ _ e2, by rw [l1.length, l2.length]; exact p1, c _ _ _ _ _ p2 n3 a3 .non⟩
  · exact p.elim
def dClear : D → List D → Mu → PD → Prop
  | .ref l, [], μ, P => ∃ ds, μ l = some (.lst ds) ∧ P .non (um μ l (.lst []))
  | _, _, _, _ => False
theorem mS_clear : MS K rClear dClear := by
  intro S H μ x xs d ds P Q a h hl p c
  unfold dClear at p
  split at p
  · obtain ⟨zs, hz, p2⟩ := p
    rw [hl.nil_inv, h.ref_inv]
    obtain ⟨_, ws, e1, l1⟩ := a.mu _ _ hz
    obtain ⟨n3, a3⟩ := a.wr (.lst []) (.lst []) (.lst zs) hz ⟨_, upd_same, .nil⟩
    exact ⟨_, ws, rfl, rfl, e1, c _ _ _ _ _ p2 n3 a3 .non⟩
  · exact p.elim
/-- xs.index(x), texts: the first place -/
def dIndexS : D → List D → Mu → PD → Prop
  | d, [.str x], μ, P => items μ d fun ds => ∃ (ss : List Str) (j : Nat), ds = ss.map D.str ∧ ss[j]? = some x ∧ (∀ m, m < j → ss[m]? ≠ some x) ∧ P (.int (j : Nat)) μ
  | _, _, _, _ => False
theorem mS_indexS : MS K (rIndex K) dIndexS := by
  intro S H μ x xs d ds P Q a h hl p c
  unfold dIndexS at p
  split at p
  · obtain ⟨y, rfl, hy⟩ := has1 hl
    obtain ⟨q, ys, ds', rfl, e1, l1, ss, j, rfl, p1, p2, p3⟩ := items_ok a h p
    rw [hy.str_inv]
    have e := strs_vals l1
    subst e
    refine ⟨q, _, _, j, _, rfl, rfl, e1, rfl, strs_flat ss, by rw [List.getElem?_map, p1]; rfl, by simp [eqV], fun m z' hm hz => ?_, c _ μ _ S H p3 .refl a .int⟩
    rw [List.getElem?_map] at hz
    cases q : ss[m]? with
    | none => rw [q] at hz; cases hz
    | some w =>
      rw [q] at hz
      have ez : V.str w = z' := Option.some.inj hz
      subst ez
      have := p2 m hm
      rw [q] at this
      show (w == _) = false
      exact beq_eq_false_iff_ne.mpr fun e => this (by rw [e])
  · exact p.elim
def rJoinT (K : PySem.W.Frag) : V → List V → Hp → VK → Prop := fun x xs H Q => ∃ a p, ∃ ys : List Str, x = .str a ∧ xs = [.ref p] ∧ (SqL K H p (ys.map V.str) ∨ SqT K H p (ys.map V.str)) ∧ (ys.map (·.length)).sum + ys.length * a.length ≤ 16777216 ∧ Q (.str (Txt.join a ys)) H
def dJoin : D → List D → Mu → PD → Prop
  | .str a, [d], μ, P => items μ d fun ds => ∃ ys : List Str, ds = ys.map D.str ∧ (ys.map (·.length)).sum + ys.length * a.length ≤ 16777216 ∧ P (.str (Txt.join a ys)) μ
  | _, _, _, _ => False
theorem mS_join : MS K (rJoinT K) dJoin := by
  intro S H μ x xs d ds P Q a h hl p c
  unfold dJoin at p
  split at p
  · obtain ⟨y, rfl, hy⟩ := has1 hl
    obtain ⟨q, zs, ds', rfl, e1, l1, ys, rfl, p1, p2⟩ := items_ok a hy p
    rw [h.str_inv]
    have e := strs_vals l1
    subst e
    exact ⟨_, q, ys, rfl, rfl, .inl e1, p1, c _ μ _ S H p2 .refl a .str⟩
  · exact p.elim
def rSplitT : V → List V → Hp → VK → Prop := fun x xs H Q => ∃ a b, x = .str a ∧ xs = [.str b] ∧ (b.length == 0) = false ∧ a.length + 2 ≤ sizeLine ∧ rNewStrs (Txt.split a b) H Q
def dSplit : D → List D → Mu → PD → Prop
  | .str a, [.str b], μ, P => (b.length == 0) = false ∧ a.length + 2 ≤ sizeLine ∧ P (.lst ((Txt.split a b).map D.str)) μ
  | _, _, _, _ => False
theorem vals_of {S : Hp} : ∀ ss : List Str, HasL K S (ss.map D.str) (ss.map V.str)
  | [] => .nil
  | _ :: r => .cons .str (vals_of r)
theorem ints_of {S : Hp} : ∀ ss : List Int, HasL K S (ss.map D.int) (ss.map V.int)
  | [] => .nil
  | _ :: r => .cons .int (ints_of r)
theorem mS_split : MS K rSplitT dSplit := by
  intro S H μ x xs d ds P Q a h hl p c
  unfold dSplit at p
  split at p
  · obtain ⟨y, rfl, hy⟩ := has1 hl
    rw [h.str_inv, hy.str_inv]
    exact ⟨_, _, rfl, rfl, p.1, p.2.1, lay_lst a (vals_of _) p.2.2 c⟩
  · exact p.elim
def rPartT : V → List V → Hp → VK → Prop := fun x xs H Q => ∃ a b, x = .str a ∧ xs = [.str b] ∧ (b.length == 0) = false ∧ a.length ≤ sizeLine ∧ ∀ p, H p = none → Q (.ref p) (upd H p (.tup [.str (Txt.partition a b).1, .str (Txt.partition a b).2.1, .str (Txt.partition a b).2.2]))
def dPart : D → List D → Mu → PD → Prop
  | .str a, [.str b], μ, P => (b.length == 0) = false ∧ a.length ≤ sizeLine ∧ P (.tup [.str (Txt.partition a b).1, .str (Txt.partition a b).2.1, .str (Txt.partition a b).2.2]) μ
  | _, _, _, _ => False
theorem mS_part : MS K rPartT dPart := by
  intro S H μ x xs d ds P Q a h hl p c
  unfold dPart at p
  split at p
  · obtain ⟨y, rfl, hy⟩ := has1 hl
    rw [h.str_inv, hy.str_inv]
    exact ⟨_, _, rfl, rfl, p.1, p.2.1, lay_tup a (.cons .str (.cons .str (.cons .str .nil))) p.2.2 c⟩
  · exact p.elim
theorem its_str (z : Str) (S : Hp) : ItS K S (Its z) (z.cps.toList.map fun c => D.str ⟨#[c]⟩) := by
  intro i S2 H2 μ2 ss a2
  refine ⟨fun d hd => ?_, fun hn => ?_⟩
  · rw [List.getElem?_map] at hd
    cases e : z.cps.toList[i]? with
    | none => rw [e] at hd; cases hd
    | some k =>
      rw [e] at hd
      have ed : D.str ⟨#[k]⟩ = d := Option.some.inj hd
      subst ed
      have e2 : z.cps[i]? = some k := by simpa using e
      refine ⟨?_, fun y H3 yl => ?_⟩
      · rcases Nat.lt_or_ge i z.cps.size with q | q
        · exact q
        · rw [Array.getElem?_eq_none q] at e2; cases e2
      · obtain ⟨rfl, k', e3, rfl⟩ := yl
        rw [e2] at e3
        cases e3
        exact ⟨S2, .refl, a2, .str⟩
  · have := List.getElem?_eq_none_iff.mp hn
    show z.cps.size ≤ i
    simpa using this
/-- for c in a text -/
theorem wi_str {W : WX} {Γ : Gm} {μ : Mu} {te : TE} {P : List D → Mu → Prop} {X : XD} (h : We K W te Γ μ (fun d μ1 => ∃ z, d = .str z ∧ P (z.cps.toList.map fun c => D.str ⟨#[c]⟩) μ1) X) : Wi K W (iStr te) Γ μ P X := by
  intro S σ H R a b c e
  refine h S σ H _ a b (fun d1 μ1 x S1 H1 p1 n1 a1 h1 => ?_) e
  obtain ⟨z, rfl, p⟩ := p1
  exact ⟨z, h1.str_inv, c _ μ1 _ S1 H1 p n1 a1 (its_str z S1)⟩
end
/-! ### a list, whether it may change or not -/
def IsL (μ : Mu) : D → List D → Prop
  | .lst ds, es => ds = es
  | .sq ds, es => ds = es
  | .ref a, es => μ a = some (.lst es)
  | _, _ => False
theorem IsL.items {μ : Mu} {d : D} {es : List D} {P : List D → Prop} (h : IsL μ d es) (p : P es) : items μ d P := by
  cases d with
  | lst ds => rw [show ds = es from h]; exact p
  | sq ds => rw [show ds = es from h]; exact p
  | ref a => exact ⟨es, h, p⟩
  | _ => exact h.elim
theorem isL_ok {K : PySem.W.Frag} {S H : Hp} {μ : Mu} {d : D} {v : V} {es : List D} (a : Asr K S H μ) (h : Has K S d v) (p : IsL μ d es) : ∃ q xs, v = .ref q ∧ SqL K H q xs ∧ HasL K S es xs := by
  obtain ⟨q, xs, ds, e, h1, h2, rfl⟩ := items_ok a h (p.items (P := fun ds => ds = es) rfl)
  exact ⟨q, xs, e, h1, h2⟩
/-- for over a list that the body leaves as it is -/
theorem ws_forL {K : PySem.W.Frag} {W : WX} {Γ : Gm} {μ : Mu} {E : En} {tl : TE} {g : TG} {tb : TS}
    (h : We K W tl Γ μ (fun d μ1 => ∃ ds, IsL μ1 d ds ∧ ∃ I : Nat → Gm → Mu → Prop, I 0 Γ μ1 ∧ (∀ i Γ' μ', I i Γ' μ' → IsL μ' d ds) ∧
      (∀ i e Γ' μ', ds[i]? = some e → I i Γ' μ' → Wg K g e Γ' μ' fun Γ2 μ2 => Ws K W tb Γ2 μ2 { E with nx := Fo (I (i + 1)), ct := Fo (I (i + 1)), bk := E.nx }) ∧
      ∀ Γ' μ', I ds.length Γ' μ' → E.nx Γ' μ') (fun c s μ1 => E.ex c s Γ μ1)) : Ws K W (tFor (iList K tl) g tb) Γ μ E := by
  intro S σ H Dn a b c
  refine h S σ H _ a b (fun d μ1 v S1 H1 p1 n1 a1 hv => ?_) (c.xx b)
  obtain ⟨ds, hL, I, i0, hk, hs, hd⟩ := p1
  obtain ⟨q, xs, rfl, hq, _⟩ := isL_ok a1 hv hL
  refine ⟨q, rfl, ⟨xs, hq⟩, fun i m σ' H' => m + i = ds.length ∧ ∃ Γ' μ' S', I i Γ' μ' ∧ Nx S1 H1 μ1 S' H' μ' ∧ Asr K S' H' μ' ∧ HasE K S' Γ' σ', ⟨ds.length, rfl, Γ, μ1, S1, i0, .refl, a1, b.mono n1.ss⟩, ?_⟩
  rintro i m σ' H' ⟨hm, Γ', μ', S', pI, n2, a2, b2⟩
  obtain ⟨q', xs', e', hq', hx'⟩ := isL_ok a2 (hv.mono n2.ss) (hk i Γ' μ' pI)
  cases e'
  rcases Nat.lt_or_ge i ds.length with l | l
  · have ed : ds[i]? = some ds[i] := List.getElem?_eq_getElem l
    obtain ⟨x0, hx0, hd0⟩ := hx'.get ed
    refine .inr ⟨⟨xs', x0, hq', hx0⟩, fun σ3 H3 => ∃ Γ3 μ3 S3, I (i + 1) Γ3 μ3 ∧ Nx S1 H1 μ1 S3 H3 μ3 ∧ Asr K S3 H3 μ3 ∧ HasE K S3 Γ3 σ3, ?_, fun x H2 yl => ?_⟩
    · rintro σ3 H3 ⟨Γ3, μ3, S3, z⟩
      exact ⟨m - 1, by omega, by omega, Γ3, μ3, S3, z⟩
    · obtain ⟨rfl, hz⟩ := yl
      have ex := hz xs' hq'
      rw [hx0] at ex
      cases ex
      refine hs i _ Γ' μ' ed pI S' σ' H2 x0 _ a2 b2 hd0 ?_
      intro Γ4 μ4 σ4 S4 H4 p4 n4 a4 b4
      have nn : Nx S1 H1 μ1 S4 H4 μ4 := n2.trans n4
      refine p4 S4 σ4 H4 _ a4 b4 ⟨?_, c.rt.nx (n1.trans nn), (c.nx' (n1.trans nn)).ex, c.nx.nx (n1.trans nn), ?_⟩
      · intro Γ5 μ5 σ5 S5 H5 p5 n5 a5 b5
        obtain ⟨Γ6, μ6, p6, n6, a6, b6⟩ := fo_post p5 (nn.trans n5) a5 b5
        exact ⟨Γ6, μ6, S5, p6, n6, a6, b6⟩
      · intro Γ5 μ5 σ5 S5 H5 p5 n5 a5 b5
        obtain ⟨Γ6, μ6, p6, n6, a6, b6⟩ := fo_post p5 (nn.trans n5) a5 b5
        exact ⟨Γ6, μ6, S5, p6, n6, a6, b6⟩
  · refine .inl ⟨⟨xs', hq', by rw [hx'.length]; exact l⟩, ?_⟩
    have ei : i = ds.length := by omega
    subst ei
    exact c.nx Γ' μ' σ' S' H' (hd _ _ pI) (n1.trans n2) a2 b2
end Nm
/-! D5: objects, calls, exceptions; a def keeps its promise. -/
namespace Nm
open PySem PySem.Spec PyProof.Rows L2
/-! ### attributes -/
section
variable {K : PySem.W.Frag}
theorem zip_look {S : Hp} {f : Str} {d : D} : ∀ {ns : List Str} {ds : List D} {xs : List V}, HasL K S ds xs → (ns.zip ds).lookup f = some d → ∃ x, (ns.zip xs).lookup f = some x ∧ Has K S d x
  | [], ds, xs, h, e => by simp at e
  | n :: ns, [], xs, h, e => by simp at e
  | n :: ns, d0 :: ds, xs, h, e => by
    obtain ⟨x, r, rfl, h1, h2⟩ := h.cons_inv
    have e1 : (match f == n with | true => some d0 | false => (ns.zip ds).lookup f) = some d := e
    show ∃ y, (match f == n with | true => some x | false => (ns.zip r).lookup f) = some y ∧ _
    cases q : f == n with
    | true =>
      rw [q] at e1
      cases e1
      exact ⟨x, rfl, h1⟩
    | false =>
      rw [q] at e1
      exact zip_look h2 e1
theorem zip_none {f : Str} : ∀ {ns : List Str} {xs : List V}, f ∉ ns → (ns.zip xs).lookup f = none
  | [], xs, h => by simp
  | n :: ns, [], h => by simp
  | n :: ns, x :: xs, h => by
    have q : (f == n) = false := beq_eq_false_iff_ne.mpr fun e => h (by rw [e]; exact List.mem_cons_self)
    show (match f == n with | true => some x | false => (ns.zip xs).lookup f) = none
    rw [q]
    exact zip_none fun z => h (List.mem_cons_of_mem _ z)
def putK (f : Str) : List Str → List Str
  | [] => [f]
  | g :: r => if g = f then g :: r else g :: putK f r
def putX {α : Type} (f : Str) (y : α) : List Str → List α → List α
  | [], _ => [y]
  | g :: r, x :: xs => if g = f then y :: xs else x :: putX f y r xs
  | _ :: _, [] => []
theorem putF_zip (f : Str) (y : V) : ∀ (ns : List Str) (xs : List V), ns.length = xs.length → putF f y (ns.zip xs) = (putK f ns).zip (putX f y ns xs)
  | [], [], _ => rfl
  | [], _ :: _, h => by cases h
  | _ :: _, [], h => by cases h
  | g :: r, x :: xs, h => by
    show (if g = f then (g, y) :: r.zip xs else (g, x) :: putF f y (r.zip xs)) = (if g = f then g :: r else g :: putK f r).zip (if g = f then y :: xs else x :: putX f y r xs)
    by_cases q : g = f
    · rw [if_pos q, if_pos q, if_pos q]; rfl
    · rw [if_neg q, if_neg q, if_neg q, putF_zip f y r xs (by simpa using h)]; rfl
theorem putX_len {α : Type} (f : Str) (y : α) : ∀ (ns : List Str) (xs : List α), ns.length = xs.length → (putK f ns).length = (putX f y ns xs).length
  | [], [], _ => rfl
  | [], _ :: _, h => by cases h
  | _ :: _, [], h => by cases h
  | g :: r, x :: xs, h => by
    show (if g = f then g :: r else g :: putK f r).length = (if g = f then y :: xs else x :: putX f y r xs).length
    by_cases q : g = f
    · rw [if_pos q, if_pos q]; simpa using h
    · rw [if_neg q, if_neg q, List.length_cons, List.length_cons, putX_len f y r xs (by simpa using h)]
theorem putX_has {S : Hp} {f : Str} {d : D} {y : V} (hy : Has K S d y) : ∀ {ns : List Str} {ds : List D} {xs : List V}, ns.length = xs.length → HasL K S ds xs → HasL K S (putX f d ns ds) (putX f y ns xs)
  | [], ds, xs, e, h => .cons hy .nil
  | g :: r, [], xs, e, h => by rw [h.nil_inv] at e; cases e
  | g :: r, d0 :: ds, xs, e, h => by
    obtain ⟨x, t, rfl, h1, h2⟩ := h.cons_inv
    show HasL K S (if g = f then d :: ds else d0 :: putX f d r ds) (if g = f then y :: t else x :: putX f y r t)
    by_cases q : g = f
    · rw [if_pos q, if_pos q]; exact .cons hy h2
    · rw [if_neg q, if_neg q]; exact .cons h1 (putX_has hy (by simpa using e) h2)
/-- an instance, whether it may change or not -/
def ob (μ : Mu) : D → (Addr → Addr → List Str → List D → Prop) → Prop
  | .ins a k ns ds, P => P a k ns ds
  | .ref a, P => ∃ k ns ds, μ a = some (.ins k ns ds) ∧ P a k ns ds
  | _, _ => False
theorem ob_ok {S H : Hp} {μ : Mu} {d : D} {v : V} {P : Addr → Addr → List Str → List D → Prop} (a : Asr K S H μ) (h : Has K S d v) (p : ob μ d P) :
    ∃ q k ns ds dx xs, v = .ref q ∧ H q = some (.ins k dx (ns.zip xs)) ∧ ns.length = xs.length ∧ HasL K S ds xs ∧ P q k ns ds := by
  unfold ob at p
  split at p
  · obtain ⟨e, dx, xs, h1, h2, h3⟩ := h.ins_inv
    exact ⟨_, _, _, _, dx, xs, e, a.ex _ _ h1, h2, h3, p⟩
  · obtain ⟨k, ns, ds, h1, h2⟩ := p
    obtain ⟨_, dx, xs, e1, e2, l1⟩ := a.mu _ _ h1
    exact ⟨_, k, ns, ds, dx, xs, h.ref_inv, e1, e2, l1, h2⟩
  · exact p.elim
variable {W : WX} {Γ : Gm} {μ : Mu} {X : XD} {E : En}
theorem we_fld {ta : TE} {f : Str} {P : PD} (h : We K W ta Γ μ (fun d μ1 => ob μ1 d fun _ k ns ds => Cls K k ∧ NoAttr K k f ∧ ∃ e, (ns.zip ds).lookup f = some e ∧ P e μ1) X) : We K W (tFld K ta f) Γ μ P X := by
  intro S σ H Q a b c e
  refine h S σ H _ a b (fun d1 μ1 x S1 H1 p1 n1 a1 h1 => ?_) e
  obtain ⟨q, k, ns, ds, dx, xs, rfl, h2, h3, h4, c1, c2, y, hy, p⟩ := ob_ok a1 h1 p1
  obtain ⟨v, hv, hd⟩ := zip_look h4 hy
  exact ⟨q, k, dx, _, v, rfl, h2, c1, c2, hv, c y μ1 v S1 H1 p n1 a1 hd⟩
/-- o.f = e -/
theorem ws_fld {ta tv : TE} {f : Str} (h : We K W tv Γ μ (fun y μ1 => We K W ta Γ μ1 (fun d μ2 => ∃ a k ns ds, d = .ref a ∧ μ2 a = some (.ins k ns ds) ∧ Cls K k ∧ NoAttr K k f ∧ ns.length < 900 ∧ E.nx Γ (um μ2 a (.ins k (putK f ns) (putX f y ns ds)))) (fun c s μ1 => E.ex c s Γ μ1)) (fun c s μ1 => E.ex c s Γ μ1)) : Ws K W (sFld K ta tv f) Γ μ E := by
  intro S σ H Dn a b c
  refine h S σ H _ a b (fun d1 μ1 y S1 H1 p1 n1 a1 h1 => ?_) (c.xx b)
  refine p1 S1 σ H1 _ a1 (b.mono n1.ss) (fun d2 μ2 x S2 H2 p2 n2 a2 h2 => ?_) ((c.xx b).nx n1)
  obtain ⟨q, k, ns, ds, rfl, hq, c1, c2, hl, p⟩ := p2
  obtain ⟨_, dx, xs, e1, e2, l1⟩ := a2.mu _ _ hq
  have hy := h1.mono n2.ss
  have hc : Hc K S2 (upd H2 q (.ins k dx (putF f y (ns.zip xs)))) q (.ins k (putK f ns) (putX f d1 ns ds)) := by
    refine ⟨dx, putX f y ns xs, ?_, putX_len f y ns xs e2, putX_has hy e2 l1⟩
    rw [upd_same, putF_zip f y ns xs e2]
  obtain ⟨n3, a3⟩ := a2.wr _ _ _ hq hc
  refine ⟨q, k, dx, ns.zip xs, h2.ref_inv, e1, c1, c2, ?_, c.nx _ _ _ S2 _ p ((n1.trans n2).trans n3) a3 (b.mono (n1.trans n2).ss)⟩
  rw [List.length_zip]
  omega

/-! ### promises -/
abbrev SpD := List D → Mu → PD → XD → Prop
def PostXE (K : PySem.W.Frag) (S H : Hp) (μ : Mu) (X : XD) (E : XK) : Prop := ∀ c s μ' v d S' H', X c s μ' → Nx S H μ S' H' μ' → Asr K S' H' μ' → S' d = some (.xd [(subj, v)]) → Has K S' s v → E c (some d) H'
def toSp (K : PySem.W.Frag) (sd : SpD) : Sp := fun vs H Q E => ∃ S ds μ P X, Asr K S H μ ∧ HasL K S ds vs ∧ sd ds μ P X ∧ Post K S H μ P Q ∧ PostXE K S H μ X E
theorem toSp_len {sd : SpD} {n : Nat} (h : ∀ ds μ P X, sd ds μ P X → ds.length = n) : ∀ vs H Q E, toSp K sd vs H Q E → vs.length = n := by
  rintro vs H Q E ⟨S, ds, μ, P, X, a, hl, p, _⟩
  rw [hl.length, h _ _ _ _ p]
def retE (P : PD) (X : XD) : En where
  nx := fun _ μ => ∃ μ', SubM μ' μ ∧ P .non μ'
  rt := fun d μ => ∃ μ', SubM μ' μ ∧ P d μ'
  ex := fun c s _ μ => ∃ μ', SubM μ' μ ∧ X c s μ'
theorem ret_of {P : PD} {d : D} {μ : Mu} (h : P d μ) : ∃ μ', SubM μ' μ ∧ P d μ' := ⟨μ, SubM.refl μ, h⟩
theorem retX_of {X : XD} {c : Value} {d : D} {μ : Mu} (h : X c d μ) : ∃ μ', SubM μ' μ ∧ X c d μ' := ⟨μ, SubM.refl μ, h⟩
abbrev wOf (E : XK) : WX := fun c d _ H => E c d H
theorem body_ok {t : TS} {N : List Str} {sd : SpD} {E : XK} (h : ∀ ds μ P X, sd ds μ P X → Ws K (wOf E) t (ds.map some ++ List.replicate (N.length - ds.length) none) μ (retE P X)) {vs : List V} {H : Hp} {Q : VK} (p : toSp K sd vs H Q E) :
    t { nx := fun _ H' => Q .non H', rt := Q } (L2.start N vs) H := by
  obtain ⟨S, ds, μ, P, X, a, hl, q, hP, hX⟩ := p
  have hs : HasE K S (ds.map some ++ List.replicate (N.length - ds.length) none) (L2.start N vs) := by
    unfold L2.start
    rw [hl.length]
    exact HasE.of _ hl
  refine h ds μ P X q S _ H _ a hs ⟨?_, ?_, ?_, ?_, ?_⟩
  · rintro Γ' μ' σ' S' H' ⟨μ2, m, p⟩ n a' b
    exact hP _ _ _ _ _ p (n.trans (Nx.sub m)) (a'.sub m) .non
  · rintro d μ' v S' H' ⟨μ2, m, p⟩ n a' b
    exact hP _ _ _ _ _ p (n.trans (Nx.sub m)) (a'.sub m) b
  · rintro c s Γ' μ' v d σ' S' H' ⟨μ2, m, p⟩ n a' b e1 e2
    exact hX _ _ _ _ _ _ _ p (n.trans (Nx.sub m)) (a'.sub m) e1 e2
  · intro Γ' μ' σ' S' H' p
    exact p.elim
  · intro Γ' μ' σ' S' H' p
    exact p.elim
end
/-- THE RULE for a def, by its promise over data -/
theorem fun_ok {P : Program} {w : World} {K : PySem.W.Frag} {mg : Str → Option Value} {base : Heap} {x qual : Str} {params : Arguments} {body : List Stmt} {scope : Scope} {dvs : List V} {kws : List (Str × V)} {f : Addr} {fd : FuncData} {N ps : List Str} {k : Nat} {sd : SpD}
    (F : FunD K x qual params body scope dvs kws f fd) (S : FnScope N ps scope) (len : ∀ ds μ P X, sd ds μ P X → ds.length = ps.length)
    (h : ∀ (cdv : Value) (A : Around) (outer : List Env) (s : Shared) (H : Hp) (E : XK), Room k (A.deeper (envOfC qual scope s.heap.objs.size f cdv)) → ∃ t, PSs (cxOf (L2.CX P w) P w K mg base N qual scope f cdv A outer s H E) body t ∧
      ∀ ds μ Pd X, sd ds μ Pd X → Ws K (wOf E) t (ds.map some ++ List.replicate (N.length - ds.length) none) μ (retE Pd X)) :
    FnOk P w K mg base (L2.CX P w) (k + 1) f fd ps (toSp K sd) :=
  FunD.ok F S (toSp_len len) fun cdv A outer s H vs Q E hr p => by
    obtain ⟨t, ht, hw⟩ := h cdv A outer s H E hr
    exact ⟨t, ht, body_ok hw p⟩
section
variable {X : Cx} {CX : CXT} {k : Nat} {f C : Addr} {fd : FuncData} {ps : List Str} {sp : Sp} {dvs : List V} {ds : List Value} {E : L2.St → XK} {x m : Str} {p pos apos : Pos} {e o : Expr} {es : List Expr} {ta : TE} {t : TA}
/-- o.m(..), what is raised is wished for at the caller's slots -/
def tMethD (C : Addr) (m : Str) (sp : Sp) (dvs : List V) (E : L2.St → XK) (ta : TE) (t : TA) : TE := fun σ H Q => ta σ H fun x H1 => ∃ a dx fs, x = .ref a ∧ H1 a = some (.ins C dx fs) ∧ fs.lookup m = none ∧ t σ H1 fun vs H2 => sp (x :: (vs ++ dvs)) H2 Q (E σ)
theorem pe_methD {pl : Sem Bool} (he : PE X o ta) (c : Cls X.K C) (hm : Meth X.K C m f) (F : FnOk X.prog X.w X.K X.mg X.base CX k f fd ps sp) (hr : Room k X.A) (hb : Binds X.K fd ps ds) (hd : Vals dvs ds) (hx : ∀ σ, PassesAt CX X σ (E σ)) (ha : PA X (e :: es) t)
    (hst : starEach (e :: es) X.env = (false, eval e X.env) :: starEach es X.env := by rfl) (hpl : (backTo pos (starEach es X.env)).any (·.1) = false := by rfl)
    (ht : eval (.Call (.Attribute o m apos) (e :: es) [] pos) X.env = (do
      let ov ← eval o X.env
      standAt apos.atName
      let (f, first) ← holding [ov] (getMethod ov m pl)
      callWith pos f first (backTo pos (starEach (e :: es) X.env)) (backToKw pos (keywordEach [] X.env))) := by rfl) :
    PE X (.Call (.Attribute o m apos) (e :: es) [] pos) (tMethD C m sp dvs E ta t) := by
  refine ⟨fun pins s σ H Q I h => ?_⟩
  refine PySem.W.methodCall_KW (pl := pl) (thn (he.run pins s σ H _ I h) fun u s1 hh => ?_) ht
  obtain ⟨x, H1, I1, rx, a, dx, fs, ex, ea, l, q⟩ := hh
  subst ex
  obtain rfl : u = Value.ref a := rx
  refine getmeth_ok I1 ea c hm l ?_
  refine PySem.W.callWith_K (first := [.ref a]) (h₀ := X.base) I.ok.mod.kin hm.kp (thn (ha.run pos pins s1 σ H1 _ I1 q) fun us s2 hh => ?_) hst hpl
  obtain ⟨vs, H2, I2, r, q2⟩ := hh
  exact ⟨I2.kIn, run_fnSD (us := .ref a :: us) (vs := .ref a :: vs) F hr hb hd (hx σ) I2 (.cons rfl r) q2⟩
theorem pe_methD0 {pl : Sem Bool} (he : PE X o ta) (c : Cls X.K C) (hm : Meth X.K C m f) (F : FnOk X.prog X.w X.K X.mg X.base CX k f fd ps sp) (hr : Room k X.A) (hb : Binds X.K fd ps ds) (hd : Vals dvs ds) (hx : ∀ σ, PassesAt CX X σ (E σ))
    (ht : eval (.Call (.Attribute o m apos) [] [] pos) X.env = (do
      let ov ← eval o X.env
      standAt apos.atName
      let (f, first) ← holding [ov] (getMethod ov m pl)
      callWith pos f first (backTo pos (starEach [] X.env)) (backToKw pos (keywordEach [] X.env))) := by rfl) :
    PE X (.Call (.Attribute o m apos) [] [] pos) (tMethD C m sp dvs E ta tNil) := by
  refine ⟨fun pins s σ H Q I h => ?_⟩
  refine PySem.W.methodCall_KW (pl := pl) (thn (he.run pins s σ H _ I h) fun u s1 hh => ?_) ht
  obtain ⟨x, H1, I1, rx, a, dx, fs, ex, ea, l, q⟩ := hh
  subst ex
  obtain rfl : u = Value.ref a := rx
  refine getmeth_ok I1 ea c hm l ?_
  refine PySem.W.callWith_K0 (first := [.ref a]) I1.kIn hm.kp ?_
  exact run_fnSD (us := [.ref a]) (vs := [.ref a]) F hr hb hd (hx σ) I1 (.cons rfl .nil) q
/-- C(..) -/
def tMakeD (C : Addr) (sp : Sp) (dvs : List V) (E : L2.St → XK) (t : TA) : TE := fun σ H Q => t σ H fun vs H1 => ∀ x dx, H1 x = none → H1 dx = none → dx ≠ x →
  sp (.ref x :: (vs ++ dvs)) (upd (upd H1 dx (.own x)) x (.ins C dx [])) (fun v H2 => v = .non ∧ Q (.ref x) H2) (E σ)
theorem run_makeD {pins : List (Addr × Obj)} {σ : L2.St} {H : Hp} {s : Shared} {Q : VK} {us : List Value} {vs : List V} (M : Mk X.K C f) (F : FnOk X.prog X.w X.K X.mg X.base CX k f fd ps sp) (hr : Room (k + 1) X.A) (hb : Binds X.K fd ps ds) (hd : Vals dvs ds)
    (hx : PassesAt CX X σ (E σ)) (I : Inv X pins σ H s) (r : Vals vs us)
    (h : ∀ x dx, H x = none → H dx = none → dx ≠ x → sp (.ref x :: (vs ++ dvs)) (upd (upd H dx (.own x)) x (.ins C dx [])) (fun v H2 => v = .non ∧ Q (.ref x) H2) (E σ)) :
    wpAny (model X.prog X.w) X.A (call (.ref C) us) (EP X pins σ Q) X.xe s := by
  have hq := h (s.heap.objs.size + 1) s.heap.objs.size (I.hok.fresh (Nat.le_succ _)) (I.hok.fresh (Nat.le_refl _)) (Nat.ne_of_lt (Nat.lt_succ_self _))
  have I2 := Inv.made (C := C) I
  have r2 : Vals (V.ref (s.heap.objs.size + 1) :: (vs ++ dvs)) (Value.ref (s.heap.objs.size + 1) :: (us ++ ds)) := .cons rfl (r.append hd)
  have hl : (Value.ref (s.heap.objs.size + 1) :: us ++ ds).length = ps.length := by
    have e := r2.length
    rw [F.len _ _ _ _ hq] at e
    exact e.symm
  refine wpAny_call (make_map (f := f) I.kIn M.makes M.init (beq_iff_eq.mp M.fn) (codeAny_mono (F.run _ X.stack _ _ ⟨Value.ref (s.heap.objs.size + 1) :: us, []⟩ (Value.ref (s.heap.objs.size + 1) :: (us ++ ds)) _ _ (E σ) (hr.make C us [])
    (I2.env0.make C us []) (hb _ (Value.ref (s.heap.objs.size + 1) :: us) I2.kIn hl) r2 hq) fun r s' hq' => ?_))
  cases r with
  | error e => exact hx pins _ _ e s' I2 hq'
  | ok fl =>
    cases fl with
    | ret u =>
      obtain ⟨v, H', I3, rv, ev, q3⟩ := I2.after hq'
      subst ev
      exact ⟨rv, ⟨V.ref (s.heap.objs.size + 1), H', I3, rfl, q3⟩⟩
    | next => exact False.elim hq'
    | brk => exact False.elim hq'
    | cont => exact False.elim hq'
theorem pe_makeD (M : Mk X.K C f) (F : FnOk X.prog X.w X.K X.mg X.base CX k f fd ps sp) (hr : Room (k + 1) X.A) (hg : Gl X x) (hm : X.mg x = some (.ref C)) (hb : Binds X.K fd ps ds) (hd : Vals dvs ds) (hx : ∀ σ, PassesAt CX X σ (E σ))
    (ha : PA X (e :: es) t) (hdb : (x == ("__debug__" : Str)) = false := by decide) (he : starEach (e :: es) X.env = (false, eval e X.env) :: starEach es X.env := by rfl) (hpl : (backTo pos (starEach es X.env)).any (·.1) = false := by rfl) :
    PE X (.Call (.Name x p) (e :: es) [] pos) (tMakeD C sp dvs E t) := by
  refine ⟨fun pins s σ H Q I h => ?_⟩
  refine wpAny_Call_Name_kw (ld_glob I hg hm ?_ hdb)
  refine PySem.W.callWith_K (h₀ := X.base) I.ok.mod.kin M.kp (thn (ha.run pos pins s σ H _ I h) fun us s1 hh => ?_) he hpl
  obtain ⟨vs, H1, I1, r, q⟩ := hh
  exact ⟨I1.kIn, run_makeD M F hr hb hd (hx σ) I1 r q⟩
/-- f() -/
def tCall0D (sp : Sp) (dvs : List V) (E : L2.St → XK) : TE := fun σ H Q => sp dvs H Q (E σ)
theorem pe_call0D (F : FnOk X.prog X.w X.K X.mg X.base CX k f fd ps sp) (hr : Room k X.A) (hg : Gl X x) (hm : X.mg x = some (.ref f)) (hk : PySem.W.keepIn X.K (.ref f) = true) (hb : Binds X.K fd ps ds) (hd : Vals dvs ds) (hx : ∀ σ, PassesAt CX X σ (E σ))
    (hdb : (x == ("__debug__" : Str)) = false := by decide) : PE X (.Call (.Name x p) [] [] pos) (tCall0D sp dvs E) := by
  refine ⟨fun pins s σ H Q I h => ?_⟩
  refine wpAny_Call_Name_kw (ld_glob I hg hm ?_ hdb)
  refine PySem.W.callWith_K0 I.kIn hk ?_
  exact run_fnSD (us := []) (vs := []) F hr hb hd (hx σ) I .nil h
end
section
variable {K : PySem.W.Frag} {W : WX} {Γ : Gm} {μ : Mu} {X : XD} {E : En}
theorem we_call {sd : SpD} {dvs : List V} {dds : List D} {t : TA} {P : PD} (hd : ∀ S, HasL K S dds dvs) (h : Wa K W t Γ μ (fun ds μ1 => sd (ds ++ dds) μ1 P X) X) : We K W (tCallSD (toSp K sd) dvs (L2.WE W) t) Γ μ P X := by
  intro S σ H Q a b c e
  refine h S σ H _ a b (fun ds μ1 vs S1 H1 p1 n1 a1 h1 => ?_) e
  exact ⟨S1, _, μ1, P, X, a1, h1.app (hd S1), p1, c.nx n1, e.nx n1⟩
theorem we_call0 {sd : SpD} {dvs : List V} {dds : List D} {P : PD} (hd : ∀ S, HasL K S dds dvs) (h : sd dds μ P X) : We K W (tCall0D (toSp K sd) dvs (L2.WE W)) Γ μ P X :=
  fun S σ H Q a b c e => ⟨S, _, μ, P, X, a, hd S, h, c, e⟩
theorem we_meth {C : Addr} {m : Str} {sd : SpD} {dvs : List V} {dds : List D} {ta : TE} {t : TA} {P : PD} (hd : ∀ S, HasL K S dds dvs)
    (h : We K W ta Γ μ (fun d μ1 => ob μ1 d (fun _ k ns _ => k = C ∧ m ∉ ns) ∧ Wa K W t Γ μ1 (fun ds μ2 => sd (d :: (ds ++ dds)) μ2 P X) X) X) : We K W (tMethD C m (toSp K sd) dvs (L2.WE W) ta t) Γ μ P X := by
  intro S σ H Q a b c e
  refine h S σ H _ a b (fun d μ1 x S1 H1 p1 n1 a1 h1 => ?_) e
  obtain ⟨q, k, ns, ds, dx, xs, rfl, h2, h3, h4, rfl, h5⟩ := ob_ok a1 h1 p1.1
  refine ⟨q, dx, _, rfl, h2, zip_none h5, ?_⟩
  refine p1.2 S1 σ H1 _ a1 (b.mono n1.ss) (fun d2 μ2 y S2 H2 p2 n2 a2 h6 => ?_) (e.nx n1)
  exact ⟨S2, _, μ2, P, X, a2, .cons (h1.mono n2.ss) (h6.app (hd S2)), p2, c.nx (n1.trans n2), e.nx (n1.trans n2)⟩
theorem we_make {C : Addr} {sd : SpD} {dvs : List V} {dds : List D} {t : TA} {P : PD} (hd : ∀ S, HasL K S dds dvs)
    (h : Wa K W t Γ μ (fun ds μ1 => ∀ x, μ1 x = none → sd (.ref x :: (ds ++ dds)) (um μ1 x (.ins C [] [])) (fun d μ2 => d = .non ∧ P (.ref x) μ2) X) X) : We K W (tMakeD C (toSp K sd) dvs (L2.WE W) t) Γ μ P X := by
  intro S σ H Q a b c e
  refine h S σ H _ a b (fun ds μ1 vs S1 H1 p1 n1 a1 h1 => ?_) e
  intro x dx hx hdx ne
  have n2 : Nx S1 H1 μ1 S1 (upd H1 dx (.own x)) μ1 := by
    refine ⟨fun _ _ h => h, fun b o e _ => by rw [upd_ne (ne_of_none e hdx)]; exact e, fun _ _ h _ => h, fun b h h' => absurd h h', fun b h => ?_⟩
    by_cases q : b = dx
    · rw [q, upd_same]; exact Option.some_ne_none _
    · rw [upd_ne q]; exact h
  have a2 : Asr K S1 (upd H1 dx (.own x)) μ1 := by
    obtain ⟨hS, hm⟩ := a1.unk hdx
    refine ⟨fun b u e => by rw [upd_ne (ne_of_none e hS)]; exact a1.ex b u e, fun b c' e => ?_⟩
    have q : b ≠ dx := mu_ne e hm
    obtain ⟨z1, z2⟩ := a1.mu b c' e
    exact ⟨z1, z2.at (upd_ne q)⟩
  have hx2 : upd H1 dx (.own x) x = none := by rw [upd_ne (Ne.symm ne)]; exact hx
  obtain ⟨n3, a3⟩ := a2.layM (.ins C dx []) (.ins C [] []) hx2 ⟨dx, [], upd_same, rfl, .nil⟩
  have nn := n1.trans (n2.trans n3)
  refine ⟨S1, _, _, _, X, a3, .cons .ref ((h1.app (hd S1)).mono (n2.trans n3).ss), p1 x (a1.unk hx).2, ?_, e.nx nn⟩
  rintro d μ' v S' H' ⟨rfl, p⟩ n a' hv
  exact ⟨hv.non_inv, c _ _ _ S' H' p (nn.trans n) a' .ref⟩
/-- a property's getter: it raises nothing -/
theorem we_prop {C : Addr} {sd : SpD} {ta : TE} {P : PD} (h : We K W ta Γ μ (fun d μ1 => ob μ1 d (fun _ k _ _ => k = C) ∧ sd [d] μ1 P X0) X) : We K W (tProp C (toSp K sd) [] E0 ta) Γ μ P X := by
  intro S σ H Q a b c e
  refine h S σ H _ a b (fun d μ1 x S1 H1 p1 n1 a1 h1 => ?_) e
  obtain ⟨q, k, ns, ds, dx, xs, rfl, h2, h3, h4, rfl⟩ := ob_ok a1 h1 p1.1
  exact ⟨q, dx, _, rfl, h2, S1, [d], μ1, P, X0, a1, .cons h1 .nil, p1.2, c.nx n1, fun _ _ _ _ _ _ _ z => z.elim⟩
end
end Nm
/-! D6: exceptions: raised, caught, looked at. -/
namespace PySem.W
open PySem PySem.Spec PySem.Calls PyProof.Rows
section
variable {prog : Program} {w : World} {A : Around} {E : Value → Shared → Prop} {s : Shared} {K : Frag} {x D : Addr} {ox : Obj}
theorem kin_cls_nm {od : Obj} {Q : Option Value → Shared → Prop} (hga : findIn K (.ref D) "__getattribute__" = some (some (.builtin "BaseException.__getattribute__"))) (hgt : findIn K (.ref D) "__getattr__" = some none) (hsub : subIn K (.ref D) (.type "BaseException") = some true)
    (hdct : hasDictIn K D = true) (ha : findIn K (.ref D) "__class__" = some (some (.builtin "object.__class__")))
    (hn : specialIn K (.builtin "object.__class__") "__get__" = some (some (.builtin "getset_descriptor.__get__"))) (htk : takesIn K (.builtin "object.__class__") = some true) (hm : mroIn K D (.type "object") = some true)
    (X : K.In s.heap) (I : InstAt s.heap x ox D (some od)) (h : Q (some (.ref D)) { s with toks := s.toks + 1 }) : wpAny (model prog w) A (getAttr? (.ref x) "__class__") Q E s := by
  have hf : findObj K D (some od) "__class__" = some (.bind (.builtin "getset_descriptor.__get__") (.builtin "object.__class__")) := findObj_data (by obtain ⟨cd, hc, _⟩ := any_some hdct; rw [hc]; rfl) ha hn htk
  obtain ⟨hp, g, d, t, os⟩ := s
  have L0 := I.type (M := model prog w)
  have L1 := looks_findIn (M := model prog w) X hga
  have L2 := looks_findIn (M := model prog w) X hgt
  have L3 := looks_find (M := model prog w) X I hf
  have sub : Looks (model prog w) hp (isInstance (.ref x) (.type "BaseException")) true := L0.andThen (looks_subIn X hsub)
  have hx0 : (false && onTheHeap (Value.builtin "BaseException.__getattribute__")) = false := rfl
  have hx2 : (Value.builtin "BaseException.__getattribute__" == Value.builtin "object.__getattribute__") = false := by decide +kernel
  have hx1 : (onTheHeap (Value.ref D) && Value.builtin "BaseException.__getattribute__" == Value.builtin "object.__getattribute__") = false := by rw [hx2]; rfl
  unfold getAttr? getAttrBy? getAttrBy
  refine wpAny_bind (wpAny_mkText (wpAny_bind (wpAny_attempt (wpAny_holding (wpAny_bind (L0.at (wpAny_bind (L1.at ?_))))))))
  show wpAny _ _ (if (onTheHeap (Value.ref D) && Value.builtin "BaseException.__getattribute__" == Value.builtin "object.__getattribute__") = true then _ else _) _ _ _
  rw [hx1, if_neg Bool.false_ne_true]
  unfold getAttrByItsOwn hookBefore
  refine wpAny_bind ?_
  rw [if_pos (show onTheHeap (Value.ref D) = true from rfl)]
  refine L2.at ?_
  refine wpAny_bind (wpAny_attempt (wpAny_holding ?_))
  unfold callGetattribute
  rw [hx0, if_neg Bool.false_ne_true]
  unfold boundAndCalled
  rw [PySem.F.excAttr_ValueError.ga.bind (.ref x)]
  refine wpAny_bind (wpAny_pure ?_)
  show wpAny _ _ (call (.builtin "BaseException.__getattribute__") [.ref x, .str "__class__" t]) _ _ _
  refine wpAny_call (codeAny_call_builtin PySem.F.excAttr_ValueError.ga.plain PySem.F.entry_bexc_ga ?_)
  refine @check_slot (model prog w) _ _ ⟨hp, g, d, t + 1, os⟩ "BaseException.__getattribute__" "BaseException" "__getattribute__" (.ref x) [.str "__class__" t] [] _ (by decide +kernel) (by decide +kernel) sub (PySem.F.args_bexc_ga (.ref x) (.str "__class__" t)) ?_
  unfold Builtin.«object.__getattribute__»
  refine wpAny_bind (wpAny_of_eq (a := ((Value.ref x : Value), [Value.str "__class__" t])) (by first | rfl | (simp only [slotArgs]; rfl)) ?_)
  refine wpAny_bind (wpAny_pure (wpAny_bind (L0.at (wpAny_bind (L3.at ?_)))))
  show wpAny _ _ (holding [Value.builtin "object.__class__"] (call (.builtin "getset_descriptor.__get__") [.builtin "object.__class__", .ref x, .ref D]) >>= ret) _ _ _
  refine wpAny_bind (wpAny_holding (wpAny_call (class_get (s := ⟨hp, g, d, t + 1, os⟩) (ox := ox) (od := some od) X I hm ?_)))
  refine wpAny_pure ?_
  show wpAny _ _ (handedOut (.ref D)) _ _ _
  rw [handedOut_of (v := .ref D) rfl]
  first
    | exact wpAny_pure (wpAny_pure h)
    | exact wpAny_pure h
    | exact wpAny_pure (wpAny_bind (wpAny_pure (wpAny_pure h)))
theorem kitx_nm {od : Obj} (hga : findIn K (.ref D) "__getattribute__" = some (some (.builtin "BaseException.__getattribute__"))) (hgt : findIn K (.ref D) "__getattr__" = some none) (hsub : subIn K (.ref D) (.type "BaseException") = some true) (hdct : hasDictIn K D = true) (ha : findIn K (.ref D) "__class__" = some (some (.builtin "object.__class__")))
    (hn : specialIn K (.builtin "object.__class__") "__get__" = some (some (.builtin "getset_descriptor.__get__"))) (htk : takesIn K (.builtin "object.__class__") = some true) (hm : mroIn K D (.type "object") = some true) :
    KitX K (.ref x) (.ref D) (fun h => InstAt h x ox D (some od)) where
  ty := fun _ _ _ I => I.type
  it := fun _ _ X _ => by
    obtain ⟨cdD, hcD, _⟩ := any_some hdct
    unfold clsIn at hcD
    split at hcD
    · rename_i c' d' cd' sl' ho
      intro A' Q' E' s' k q
      unfold isType loadHead
      exact wpAny_bind (wpAny_loadPart (k _ _ (X _ _ ho)) (wpAny_pure q))
    · cases hcD
  ne := fun h tp dd its n sl X htp => by
    obtain ⟨cdD, hcD, _⟩ := any_some hdct
    refine Bool.eq_false_iff.mpr fun q => ?_
    have e : D = tp := Value.ref.inj (beq_iff_eq.mp q)
    subst e
    unfold clsIn at hcD
    split at hcD
    · rename_i c' d' cd' sl' ho
      have z := (X _ _ ho).symm.trans htp
      cases z
    · cases hcD
  ca := fun X I k => kin_cls_nm hga hgt hsub hdct ha hn htk hm X I k
end
end PySem.W
namespace Nm
open PySem PySem.Spec PyProof.Rows L2
/-! ### raise -/
/-- MergeError.__init__: the subject is kept -/
def spExc (K : PySem.W.Frag) : Sp := fun vs H Q _ => ∃ (a C : Addr) (y : V), vs = [.ref a, y] ∧ OexC K C ∧ PySem.W.findIn K (.ref C) "subject" = some none ∧ H a = some (exo a C none) ∧
  ∀ dx, H dx = none → dx ≠ a → Q .non (upd (upd H dx (exd dx [(subj, y)])) a (exo a C (some dx)))
section
variable {K : PySem.W.Frag} {W : WX} {Γ : Gm} {μ : Mu} {X : XD} {E : En}
def tRz (W : WX) (t : L2.St → Hp → XK → Prop) : TS := fun _ σ H => t σ H fun cls d H' => W cls d σ H'
theorem ws_raise {C : Addr} {te : TE} (T : OexC K C) (hs : PySem.W.findIn K (.ref C) "subject" = some none)
    (h : We K W te Γ μ (fun s μ1 => E.ex (.ref C) s Γ μ1) (fun c s μ1 => E.ex c s Γ μ1)) : Ws K W (tRz W (tMkO C (spExc K) [] (tCons te tNil))) Γ μ E := by
  intro S σ H Dn a b c
  refine h S σ H _ a b (fun s μ1 y S1 H1 p1 n1 a1 h1 => ?_) (c.xx b)
  refine ⟨by show 1 ≤ 1000; decide, fun e he => ?_⟩
  refine ⟨e, C, y, rfl, T, hs, upd_same, fun dx hdx ne => ?_⟩
  have hdx1 : H1 dx = none := by rw [upd_ne ne] at hdx; exact hdx
  refine ⟨rfl, dx, [(subj, y)], upd_same, ?_, hdx1, ?_⟩
  · rw [upd_ne ne, upd_same]
  · have eH : upd (del (upd (upd (upd H1 e (exo e C none)) dx (exd dx [(subj, y)])) e (exo e C (some dx))) e) dx (.xd [(subj, y)]) = upd H1 dx (.xd [(subj, y)]) := by
      funext z
      by_cases q : z = dx
      · subst q; rw [upd_same, upd_same]
      · rw [upd_ne q, upd_ne q]
        by_cases q2 : z = e
        · subst q2; rw [del_same, he]
        · rw [del_ne q2, upd_ne q2, upd_ne q, upd_ne q2]
    rw [eH]
    obtain ⟨n2, a2⟩ := a1.lay (.xd [(subj, y)]) hdx1
    exact c.ex _ _ _ _ y dx σ _ _ p1 (n1.trans n2) a2 (b.mono (n1.trans n2).ss) upd_same (h1.mono n2.ss)
end
/-! ### try, each clause with a name or without -/
abbrev Hd := Value × Option Nat × (Addr → Value → Option Addr → TS)
def inSlot (io : Option Nat) (a : Addr) (σ : L2.St) : L2.St := match io with
  | none => σ
  | some i => σ.set i (some (.ref a))
def noSlot (io : Option Nat) (σ : L2.St) : L2.St := match io with
  | none => σ
  | some i => σ.set i none
def wG (K : PySem.W.Frag) (Wout : WX) (D : Ends) : List Hd → WX
  | [] => Wout
  | (c, io, ts) :: r => fun cls d σ H => ∃ b, PySem.W.exmOne K cls c = some b ∧
      (b = true → ∀ a, H a = none → ts a cls d { nx := fun σ' H' => D.nx (noSlot io σ') H', rt := D.rt, bk := fun σ' H' => D.bk (noSlot io σ') H', ct := fun σ' H' => D.ct (noSlot io σ') H' } (inSlot io a σ) H) ∧ (b = false → wG K Wout D r cls d σ H)
inductive HdsG (X : Cx) : List ExceptHandler → List Hd → Prop
  | nil : HdsG X [] []
  | only {x : Str} {c : Value} {ts : Addr → Value → Option Addr → TS} {b₀ : Stmt} {suite : List Stmt} {np pos' : Pos} {hds : List ExceptHandler} {l : List Hd} (hc : Names X x c)
      (hsu : ∀ (a : Addr) (oe : Obj) (cls : Value) (d : Option Addr) (pn : List (Addr × Obj)), Zc cls d oe → (∃ vs, oe.data = .fields vs) → PSs (X.suite a ((a, oe) :: pn)) (b₀ :: suite) (ts a cls d)) (r : HdsG X hds l) :
      HdsG X (.ExceptHandler (some (.Name x np)) none (b₀ :: suite) pos' :: hds) ((c, none, ts) :: l)
  | as {x n : Str} {i : Nat} {c : Value} {ts : Addr → Value → Option Addr → TS} {b₀ : Stmt} {suite : List Stmt} {np pos' : Pos} {hds : List ExceptHandler} {l : List Hd} (hi : X.N[i]? = some n) (hln : X.env.kindOf n = some .local) (hc : Names X x c)
      (hsu : ∀ (a : Addr) (oe : Obj) (cls : Value) (d : Option Addr) (pn : List (Addr × Obj)), Zc cls d oe → (∃ vs, oe.data = .fields vs) → PSs (X.suite a ((a, oe) :: pn)) (b₀ :: suite) (ts a cls d)) (r : HdsG X hds l) :
      HdsG X (.ExceptHandler (some (.Name x np)) (some n) (b₀ :: suite) pos' :: hds) ((c, some i, ts) :: l)
def tTry (K : PySem.W.Frag) (Wout : WX) (tb : WX → TS) (l : List Hd) : TS := fun D σ H => tb (wG K Wout D l) D σ H
section
variable {X : Cx} {body : List Stmt} {h₀ : ExceptHandler} {hds : List ExceptHandler} {l : List Hd} {pos : Pos} {tb : WX → TS} {Wout : WX}
theorem ps_tryG (hs : X.stack = X.env :: X.outer) (hf : X.env.frame = some X.env.locals) (hN : X.N.Nodup) (tk : Takes X Wout)
    (hb : ∀ (W : WX) (pn : List (Addr × Obj)) (xe : Value → Shared → Prop), Takes (X.tr pn xe) W → PassesOwn (model X.prog X.w) X.A X.env xe → PSs (X.tr pn xe) body (tb W))
    (hh : HdsG X (h₀ :: hds) l) : PS X (.Try body (h₀ :: hds) [] [] pos) (tTry X.K Wout tb l) := by
  refine ⟨fun pins s σ H D I h => ?_⟩
  have ok := I.ok
  have hfr : X.A.frames = some (X.env :: X.outer) := by rw [ok.frames, hs]
  refine wpAny_Try_except ?_
  refine wpAny_mono ((hb (wG X.K Wout D l) (X.pn ++ pins) (fun e s₁ => wpAny (model X.prog X.w) X.A (noteFrame e X.env) (fun _ s₂ => wpAny (model X.prog X.w) X.A (setFlight e none) (fun _ s₃ =>
    wpAny (model X.prog X.w) X.A (handleBy e X.env (h₀ :: hds)) (SP X pins D) X.xe s₃) X.xe s₂) X.xe s₁) (fun u s' xx => ?_) PassesOwn.looking).run [] s σ H D (I.toTry _) h) (fun f s1 hsp => ?_) (fun e s1 he => he)
  · obtain ⟨a, B, sI, pins', σ', H', cls, d, rfl, J', nb, up, sky, na, os, ag, w⟩ := xx
    have J : L2.Inv X pins σ' H' sI := J'.ofTry ok
    have sky' : Sky B (X.env :: X.outer) a (Zc cls d) X.env.locals s'.heap := by rw [← hs]; exact sky
    show wpAny (model X.prog X.w) X.A (noteFrame (.ref a) X.env) _ _ _
    refine Sky.land Zc.steady hfr hf sky' fun h3 fl3 up3 => ?_
    have J3 : L2.Inv X pins σ' H' { s' with heap := h3 } := J.landed nb fl3.1 (up.trans up3) os ag
    obtain ⟨oe3, vs3, he3, hz3, hd3⟩ := fl3.there
    have notFr : ∀ {h : Heap} {o : Obj} {vs : Array Value}, h.FunFrames B (X.env :: X.outer) → h.get? a = some o → o.data = .fields vs → a ∉ frs (X.env :: X.outer) := fun {h o vs} ff e dd hm => by
      obtain ⟨_, o', e', hnf⟩ := ff.mem hm
      rw [e] at e'; cases e'
      exact hnf _ dd
    have nfr := notFr fl3.2.2.1 he3 hd3
    have nL : a ≠ X.env.locals := fun z => nfr (List.mem_filterMap.mpr ⟨X.env, List.mem_cons_self, by rw [hf, z]⟩)
    have nF : a ∉ X.fs := fun hm => by
      obtain ⟨e, he, q⟩ := List.mem_filterMap.mp hm
      exact nfr (List.mem_filterMap.mpr ⟨e, List.mem_cons_of_mem _ he, q⟩)
    have S3 := J3.suite he3 hd3 na nL nF
    have test : ∀ {x : Str} {np : Pos} {c : Value} {Q : Value → Shared → Prop} {E : Value → Shared → Prop}, Names X x c → Q c { s' with heap := h3 } → wpAny (model X.prog X.w) (X.A.mark (some (.ref a))) (eval (.Name x np) X.env) Q E { s' with heap := h3 } := fun {x np c Q E} hc q => by
      obtain ⟨hg, hdbg, hm | ⟨hm, hv, hnn⟩⟩ := hc
      · exact ld_glob (X := X.suite a ((a, oe3) :: (X.pn ++ pins))) S3 hg hm q hdbg
      · exact ld_blt (X := X.suite a ((a, oe3) :: (X.pn ++ pins))) S3 hg hm hv q hnn hdbg
    have go : ∀ {hds' : List ExceptHandler} {l' : List Hd}, HdsG X hds' l' → wG X.K Wout D l' cls d σ' H' →
        wpAny (model X.prog X.w) X.A (handleBy (.ref a) X.env hds') (SP X pins D) X.xe { s' with heap := h3 } := by
      intro hds' l' hk
      induction hk with
      | nil =>
        intro w
        refine wpAny_handleBy_nil ?_
        obtain ⟨k1, k2, k3, oe, vs, T, oT, ts', he, hz, hd, h1, hr⟩ := id fl3
        unfold PySem.passOn
        refine wpAny_bind (wpAny_field he hd h1 ?_)
        rw [if_neg (show ¬ ((Value.ref T == Value.none) = true) from by simp)]
        have fin : wpAny (model X.prog X.w) X.A (setFlight (.ref a) X.env.frame) (fun _ s4 => wpAny (model X.prog X.w) X.A (throw (.ref a) : Sem Flow) (SP X pins D) X.xe s4) X.xe { s' with heap := h3 } := by
          rw [hf]
          refine HandSPX.setFlight_upZ fl3 fun h4 hh4 up4 => wpAny_throw (tk _ _ ?_)
          exact ⟨a, B, sI, pins, σ', H', cls, d, rfl, J, nb, (up.trans up3).trans up4, .inr (.inr (by rw [hs]; exact hh4)), na, os, ag, w⟩
        first
          | exact wpAny_bind (wpAny_pure (wpAny_bind fin))
          | exact wpAny_bind fin
      | @only x c ts b₀ suite np pos' hds2 l2 hc hsu r ih =>
        intro w
        obtain ⟨b, hb1, hyes, hno⟩ := w
        refine wpAny_handleBy_cons (codeAny_handlers_test ?_) (by intro q; cases q)
        have LT : PySem.W.Looks (model X.prog X.w) h3 (typeOf (.ref a)) cls := fun A Q E s k q => wpAny_typeOf_ref (k _ _ he3) (by rw [hz3.1]; exact q)
        have LM := PySem.W.exm_one (M := model X.prog X.w) (J3.kIn) LT hb1
        refine test hc (LM.here ?_)
        cases b with
        | true =>
          refine codeAny_handlers_suite ?_
          refine HandSPX.lands_againZ fl3 fun h4 fl4 up4 => ?_
          have J4 : L2.Inv X pins σ' H' { s' with heap := h4 } := J.landed nb fl4.1 ((up.trans up3).trans up4) os ag
          obtain ⟨oe4, vs4, he4, hz4, hd4⟩ := fl4.there
          have S4 := J4.suite he4 hd4 na nL nF
          refine wpAny_mono ((hsu a oe4 cls d (X.pn ++ pins) hz4 ⟨_, hd4⟩).run [] _ _ H' _ S4 (hyes rfl a na)) (fun f s6 hsp => ?_) (fun _ _ z => False.elim z)
          cases f with
          | next =>
            obtain ⟨σ6, H6, S6, q6⟩ := hsp
            exact ⟨_, _, S6.unsuite ok, q6⟩
          | brk =>
            obtain ⟨σ6, H6, S6, q6⟩ := hsp
            exact ⟨_, _, S6.unsuite ok, q6⟩
          | cont =>
            obtain ⟨σ6, H6, S6, q6⟩ := hsp
            exact ⟨_, _, S6.unsuite ok, q6⟩
          | ret u =>
            obtain ⟨v6, σ6, H6, S6, r6, q6⟩ := hsp
            exact ⟨_, _, _, S6.unsuite ok, r6, q6⟩
        | false =>
          show wpAny _ X.A (handleBy (.ref a) X.env hds2) _ _ _
          exact ih (hno rfl)
      | @as x n i c ts b₀ suite np pos' hds2 l2 hi hln hc hsu r ih =>
        intro w
        obtain ⟨b, hb1, hyes, hno⟩ := w
        have hloc : Loc X.env.scope n := .inl hln
        refine wpAny_handleBy_cons (codeAny_handlers_test ?_) (by intro q; cases q)
        have LT : PySem.W.Looks (model X.prog X.w) h3 (typeOf (.ref a)) cls := fun A Q E s k q => wpAny_typeOf_ref (k _ _ he3) (by rw [hz3.1]; exact q)
        have LM := PySem.W.exm_one (M := model X.prog X.w) (J3.kIn) LT hb1
        refine test hc (LM.here ?_)
        cases b with
        | true =>
          refine codeAny_handlers_suite_as ?_
          refine HandSPX.lands_againZ fl3 fun h4 fl4 up4 => ?_
          have J4 : L2.Inv X pins σ' H' { s' with heap := h4 } := J.landed nb fl4.1 ((up.trans up3).trans up4) os ag
          obtain ⟨oe4, vs4, he4, hz4, hd4⟩ := fl4.there
          have S4 := J4.suite he4 hd4 na nL nF
          refine L2.store_ok (X := X.suite a ((a, oe4) :: (X.pn ++ pins))) (v := .ref a) S4 hN hi hloc rfl (fun s5 S5 => ?_) (.inr hln)
          refine wpAny_mono ((hsu a oe4 cls d (X.pn ++ pins) hz4 ⟨_, hd4⟩).run [] s5 _ H' _ S5 (hyes rfl a na)) (fun f s6 hsp => ?_) (fun _ _ z => False.elim z)
          have end_ : ∀ {σ6 : L2.St} {H6 : Hp} {Q : Shared → Prop}, L2.Inv (X.suite a ((a, oe4) :: (X.pn ++ pins))) [] σ6 H6 s6 → (∀ s7, L2.Inv X pins (σ6.set i none) H6 s7 → Q s7) →
              wpAny (model X.prog X.w) X.A (do bindName X.env n .none; unbindBehindTheSuite X.env n pos') (fun _ s7 => Q s7) X.xe s6 := fun {σ6 H6 Q} S6 hq => gone_ok (S6.unsuite ok) hN hi hln hq
          cases f with
          | next =>
            obtain ⟨σ6, H6, S6, q6⟩ := hsp
            exact end_ S6 fun s7 J7 => ⟨_, _, J7, q6⟩
          | brk =>
            obtain ⟨σ6, H6, S6, q6⟩ := hsp
            exact end_ S6 fun s7 J7 => ⟨_, _, J7, q6⟩
          | cont =>
            obtain ⟨σ6, H6, S6, q6⟩ := hsp
            exact end_ S6 fun s7 J7 => ⟨_, _, J7, q6⟩
          | ret u =>
            obtain ⟨v6, σ6, H6, S6, r6, q6⟩ := hsp
            exact end_ S6 fun s7 J7 => ⟨_, _, _, J7, r6, q6⟩
        | false =>
          show wpAny _ X.A (handleBy (.ref a) X.env hds2) _ _ _
          exact ih (hno rfl)
    exact go hh w
  · cases f with
    | next =>
      obtain ⟨σ', H', J', q⟩ := hsp
      exact wpAny_execs_nil ⟨σ', H', J'.ofTry ok, q⟩
    | brk =>
      obtain ⟨σ', H', J', q⟩ := hsp
      exact ⟨σ', H', J'.ofTry ok, q⟩
    | cont =>
      obtain ⟨σ', H', J', q⟩ := hsp
      exact ⟨σ', H', J'.ofTry ok, q⟩
    | ret u =>
      obtain ⟨v, σ', H', J', r, q⟩ := hsp
      exact ⟨v, σ', H', J'.ofTry ok, r, q⟩
end
section
variable {K : PySem.W.Frag} {W : WX} {Γ : Gm} {μ : Mu} {X : XD} {E : En}
def inSlotG (io : Option Nat) (d : D) (Γ : Gm) : Gm := match io with
  | none => Γ
  | some i => Γ.set i (some d)
def noSlotG (io : Option Nat) (Γ : Gm) : Gm := match io with
  | none => Γ
  | some i => Γ.set i none
def outE (io : Option Nat) (E : En) : En where
  nx := fun Γ μ => E.nx (noSlotG io Γ) μ
  rt := E.rt
  ex := fun _ _ _ _ => False
  bk := fun Γ μ => E.bk (noSlotG io Γ) μ
  ct := fun Γ μ => E.ct (noSlotG io Γ) μ
/-- what the clauses do with an exception of the class c about s -/
def HD (K : PySem.W.Frag) (W : WX) (E : En) (c : Value) (s : D) (Γ : Gm) (μ : Mu) : List Hd → Prop
  | [] => E.ex c s Γ μ
  | (cc, io, ts) :: r => ∃ b, PySem.W.exmOne K c cc = some b ∧ (b = true → ∀ a d, Ws K W (ts a c (some d)) (inSlotG io (.exc a d s) Γ) μ (outE io E)) ∧ (b = false → HD K W E c s Γ μ r)
theorem hd_ok {S H : Hp} {Dn : Ends} {l : List Hd} {c : Value} {s : D} {v : V} {d : Addr} {σ : L2.St} (a : Asr K S H μ) (b : HasE K S Γ σ) (c' : PostE K S H μ E W Dn) (e1 : S d = some (.xd [(subj, v)])) (e2 : Has K S s v) (p : HD K W E c s Γ μ l) : wG K W Dn l c (some d) σ H := by
  induction l with
  | nil => exact c'.ex c s Γ μ v d σ S H p .refl a b e1 e2
  | cons h r ih =>
    obtain ⟨cc, io, ts⟩ := h
    obtain ⟨k, hk, h1, h2⟩ := p
    refine ⟨k, hk, fun ek q hq => ?_, fun ek => ih (h2 ek)⟩
    have hx : Has K S (.exc q d s) (.ref q) := by unfold Has; exact ⟨rfl, v, e1, e2⟩
    have hb : HasE K S (inSlotG io (.exc q d s) Γ) (inSlot io q σ) := by
      cases io with
      | none => exact b
      | some i => exact b.set hx i
    have no : ∀ {S' : Hp} {Γ' : Gm} {σ' : L2.St}, HasE K S' Γ' σ' → HasE K S' (noSlotG io Γ') (noSlot io σ') := fun {S' Γ' σ'} z => by
      cases io with
      | none => exact z
      | some i => exact z.unset i
    refine h1 ek q d S _ H _ a hb ⟨?_, c'.rt, fun _ _ _ _ _ _ _ _ _ z => z.elim, ?_, ?_⟩
    · intro Γ' μ' σ' S' H' p n a' b'
      exact c'.nx _ _ _ _ _ p n a' (no b')
    · intro Γ' μ' σ' S' H' p n a' b'
      exact c'.bk _ _ _ _ _ p n a' (no b')
    · intro Γ' μ' σ' S' H' p n a' b'
      exact c'.ct _ _ _ _ _ p n a' (no b')
theorem ws_try {tb : WX → TS} {l : List Hd} (h : ∀ W', Ws K W' (tb W') Γ μ { E with ex := fun c s Γ' μ' => HD K W E c s Γ' μ' l }) : Ws K W (tTry K W tb l) Γ μ E := by
  intro S σ H Dn a b c
  refine h (wG K W Dn l) S σ H Dn a b ⟨c.nx, c.rt, fun cl s Γ' μ' v d σ' S' H' p n a' b' e1 e2 => ?_, c.bk, c.ct⟩
  exact hd_ok a' b' (c.nx' n) e1 e2 p
/-! ### in an except suite -/
/-- e.f, e the exception in hand -/
def tXs (K : PySem.W.Frag) (a : Addr) (cls : Value) (d : Option Addr) (f : Str) (te : TE) : TE := fun σ H Q => te σ H fun x H1 => ∃ (C dd : Addr) (fs : List (Str × V)) (v : V), XfC K C ∧ PySem.W.findIn K (.ref C) f = some none ∧ x = .ref a ∧ cls = .ref C ∧ d = some dd ∧ H1 dd = some (.xd fs) ∧ fs.lookup f = some v ∧ Q v H1
theorem pe_xs {X : Cx} {a : Addr} {oe : Obj} {cls : Value} {d : Option Addr} {pn : List (Addr × Obj)} {e : Expr} {te : TE} {pos : Pos} {n : Str} (hz : Zc cls d oe) (hf : ∃ vs, oe.data = .fields vs) (he : PE (X.suite a ((a, oe) :: pn)) e te)
    (hb : attributeBase e n X.env (eval e X.env) = eval e X.env := by rfl) : PE (X.suite a ((a, oe) :: pn)) (.Attribute e n pos) (tXs X.K a cls d n te) := by
  refine ⟨fun pins s σ H Q I h => ?_⟩
  refine attr_of hb (thn (he.run pins s σ H _ I h) fun u s1 hh => ?_)
  obtain ⟨x, H1, I1, rx, C, dd, fs, v, T, hno, ex, ec, ed, ea, l, q⟩ := hh
  subst ex
  obtain rfl : u = Value.ref a := rx
  subst ec
  subst ed
  obtain ⟨ha, _⟩ := I1.pin (a, oe) (List.mem_append_left _ List.mem_cons_self)
  obtain ⟨vs, hd⟩ := hf
  have hx : ObjOk X.prog X.w H1 s1.heap dd (.xd fs) := I1.hok dd _ ea
  obtain ⟨mA, hns, hr⟩ := hx
  obtain ⟨od, ho, hl⟩ := lookIn_ns hns
  obtain ⟨u, hu, ru⟩ := RelO.some_of (v := v) (o := mA n) (by rw [← l]; exact hr n)
  have J : PySem.W.InstAt s1.heap a oe C (some od) := ⟨ha, hz.1, by unfold PySem.W.notCls; rw [hd] <;> rfl, by rw [hz.2]; exact ho⟩
  exact HandSPX.exc_get I1.kIn J T.ga T.gg T.exC (PySem.W.findObj_own T.hdC hno rfl (by rw [hl, hu])) (handed_of ru) ⟨v, H1, I1.tok _, ru, q⟩
/-- isinstance(e, c), e the exception in hand -/
def rIsX (K : PySem.W.Frag) (cls : Value) (d : Option Addr) (a : Addr) : List V → Hp → VK → Prop := fun xs H Q => ∃ (D dd : Addr) (fs : List (Str × V)) (c : V) (cv : Value) (b : Bool), ExcC K D ∧ cls = .ref D ∧ d = some dd ∧ H dd = some (.xd fs) ∧ xs = [.ref a, c] ∧ (∀ u, RelV c u → u = cv) ∧ PySem.W.kitOne K (.ref D) cv = some b ∧ Q (.bl b) H
theorem call_isX {X : Cx} {a : Addr} {oe : Obj} {cls : Value} {d : Option Addr} {pn : List (Addr × Obj)} (hz : Zc cls d oe) (hf : ∃ vs, oe.data = .fields vs) : CallR (X.suite a ((a, oe) :: pn)) (.builtin "isinstance") (rIsX X.K cls d a) := by
  intro pins s σ H xs us Q I r h
  obtain ⟨D, dd, fs, c, cv, b, C, rfl, rfl, hdd, rfl, hcv, e, q⟩ := h
  cases r with
  | cons rx rr =>
    cases rr with
    | cons rt rr =>
      cases rr
      cases rx
      have ec := hcv _ rt
      subst ec
      obtain ⟨hget, _⟩ := I.pin (a, oe) (List.mem_append.mpr (.inl List.mem_cons_self))
      obtain ⟨vs, hv⟩ := hf
      have hx : ObjOk X.prog X.w H s.heap dd (.xd fs) := I.hok dd _ hdd
      obtain ⟨mA, hns, hr⟩ := hx
      obtain ⟨od, ho, hl⟩ := lookIn_ns hns
      have J : PySem.W.InstAt s.heap a oe D (some od) := ⟨hget, hz.1, by unfold PySem.W.notCls; rw [hv] <;> rfl, by rw [hz.2]; exact ho⟩
      exact PySem.W.kia_one (PySem.W.kitx_nm C.hg C.hk C.hs C.hd C.ha C.hn C.ht C.hm) I.kIn J e (fun z => nomatch z) fun tk => ⟨.bl b, H, I.kept (t' := tk) fun _ _ z => z, rfl, q⟩
theorem we_xs {a dd C : Addr} {te : TE} {P : PD} (T : XfC K C) (hno : PySem.W.findIn K (.ref C) "subject" = some none) (h : We K W te Γ μ (fun d μ1 => ∃ s, d = .exc a dd s ∧ P s μ1) X) : We K W (tXs K a (.ref C) (some dd) "subject" te) Γ μ P X := by
  intro S σ H Q a' b c e
  refine h S σ H _ a' b (fun d1 μ1 x S1 H1 p1 n1 a1 h1 => ?_) e
  obtain ⟨s, rfl, p⟩ := p1
  unfold Has at h1
  obtain ⟨rfl, w, h2, h3⟩ := h1
  exact ⟨C, dd, _, w, T, hno, rfl, rfl, rfl, a1.ex _ _ h2, by simp [List.lookup], c s μ1 w S1 H1 p n1 a1 h3⟩
/-- what a class is as a value -/
def clsD : D → Value → Prop
  | .ref C, cv => cv = .ref C
  | .ty n, cv => cv = .type n
  | _, _ => False
def dIsX (K : PySem.W.Frag) (C a dd : Addr) : List D → Mu → PD → Prop
  | [.exc a' dd' _, c], μ, P => a' = a ∧ dd' = dd ∧ ∃ cv b, clsD c cv ∧ PySem.W.kitOne K (.ref C) cv = some b ∧ P (.bl b) μ
  | _, _, _ => False
theorem cls_val {S : Hp} {c : D} {cv : Value} {v : V} (h : Has K S c v) (k : clsD c cv) : ∀ u, RelV v u → u = cv := by
  intro u r
  cases c with
  | ref C => rw [h.ref_inv] at r; rw [show u = Value.ref C from r]; exact k.symm
  | ty n => rw [h.ty_inv] at r; rw [show u = Value.type n from r]; exact k.symm
  | _ => exact k.elim
theorem cbS_isX {C a dd : Addr} (T : ExcC K C) : CbS K (rIsX K (.ref C) (some dd) a) (dIsX K C a dd) := by
  intro S H μ xs ds P Q a' h p c
  unfold dIsX at p
  split at p
  · obtain ⟨rfl, rfl, cv, b, h1, h2, h3⟩ := p
    obtain ⟨x, y, rfl, h4, h5⟩ := has2 h
    unfold Has at h4
    obtain ⟨rfl, w, h6, h7⟩ := h4
    exact ⟨C, _, _, y, cv, b, T, rfl, rfl, a'.ex _ _ h6, rfl, cls_val h5 h1, h2, c _ μ _ S H h3 .refl a' .bl⟩
  · exact p.elim
/-! ### isinstance of other things -/
def tyOf (μ : Mu) : D → (Value → Prop) → Prop
  | .non, P => P (.type "NoneType")
  | .bl _, P => P (.type "bool")
  | .int _, P => P (.type "int")
  | .str _, P => P (.type "str")
  | .lst _, P => P (.type "list")
  | .ref a, P => (∃ ds, μ a = some (.lst ds)) ∧ P (.type "list")
  | _, _ => False
theorem tyOf_ok {S H : Hp} {d : D} {x : V} {P : Value → Prop} (a : Asr K S H μ) (h : Has K S d x) (p : tyOf μ d P) : ∃ t, TyX K H x t ∧ P t := by
  cases d with
  | non => rw [h.non_inv]; exact ⟨_, .base .non, p⟩
  | bl b => rw [h.bl_inv]; exact ⟨_, .base (.bl b), p⟩
  | int i => rw [h.int_inv]; exact ⟨_, .base (.int i), p⟩
  | str z => rw [h.str_inv]; exact ⟨_, .base (.str z), p⟩
  | lst ds => obtain ⟨q, xs, rfl, e1, l1⟩ := h.lst_inv; exact ⟨_, .base (.lst (a.ex _ _ e1)), p⟩
  | ref q =>
    obtain ⟨⟨ds, hz⟩, p⟩ := p
    obtain ⟨_, xs, e1, l1⟩ := a.mu _ _ hz
    rw [h.ref_inv]
    exact ⟨_, .base (.lst e1), p⟩
  | _ => exact p.elim
def dIsi (K : PySem.W.Frag) : List D → Mu → PD → Prop
  | [d, c], μ, P => tyOf μ d fun t => ∃ cv b, clsD c cv ∧ PySem.W.kitOne K t cv = some b ∧ P (.bl b) μ
  | _, _, _ => False
theorem cls_v {S : Hp} {c : D} {cv : Value} {v : V} (h : Has K S c v) (k : clsD c cv) : ClsV v cv := by
  cases c with
  | ref C => rw [h.ref_inv, show cv = Value.ref C from k]; exact .own C
  | ty n => rw [h.ty_inv, show cv = Value.type n from k]; exact .ty n
  | _ => exact k.elim
theorem cbS_isi : CbS K (rIsi K) (dIsi K) := by
  intro S H μ xs ds P Q a h p c
  unfold dIsi at p
  split at p
  · obtain ⟨x, y, rfl, h4, h5⟩ := has2 h
    obtain ⟨t, ty, cv, b, h1, h2, h3⟩ := tyOf_ok a h4 p
    exact ⟨x, y, t, cv, b, rfl, cls_v h5 h1, ty, h2, c _ μ _ S H h3 .refl a .bl⟩
  · exact p.elim
end
/-! ### from here on never changed: within another object -/
inductive RepL (p : Addr) (e : D) : List D → List D → Prop
  | nil : RepL p e [] []
  | same {d : D} {r s : List D} : RepL p e r s → RepL p e (d :: r) (d :: s)
  | hit {r s : List D} : RepL p e r s → RepL p e (.ref p :: r) (e :: s)
theorem rep_has {K : PySem.W.Frag} {S : Hp} {p : Addr} {e : D} (he : Has K S e (.ref p)) {ds ds' : List D} (r : RepL p e ds ds') : ∀ {xs : List V}, HasL K S ds xs → HasL K S ds' xs := by
  induction r with
  | nil => exact fun h => h
  | same _ ih =>
    intro xs h
    obtain ⟨x, y, rfl, h1, h2⟩ := h.cons_inv
    exact .cons h1 (ih h2)
  | hit _ ih =>
    intro xs h
    obtain ⟨x, y, rfl, h1, h2⟩ := h.cons_inv
    rw [h1.ref_inv]
    exact .cons he (ih h2)
theorem ws_freezeF {K : PySem.W.Frag} {W : WX} {Γ : Gm} {μ : Mu} {E : En} {ts : TS} {p x k : Addr} {c : C} {ns : List Str} {ds ds' : List D} (hp : μ p = some c) (hx : μ x = some (.ins k ns ds)) (ne : x ≠ p) (r : RepL p (frz p c) ds ds')
    (h : Ws K W ts Γ (um (dm μ p) x (.ins k ns ds')) E) : Ws K W ts Γ μ E := by
  intro S σ H Dn a b q
  obtain ⟨S2, n2, a2, h2⟩ := a.freeze hp
  have hx2 : dm μ p x = some (.ins k ns ds) := by rw [dm_ne ne]; exact hx
  have a3 : Asr K S2 H (um (dm μ p) x (.ins k ns ds')) := ⟨a2.ex, fun z cz e => by
    by_cases q : z = x
    · subst q
      rw [um_same] at e
      cases e
      obtain ⟨z1, dx, xs, z2, z3, z4⟩ := a2.mu _ _ hx2
      exact ⟨z1, dx, xs, z2, z3, rep_has h2 r z4⟩
    · rw [um_ne q] at e
      exact a2.mu z cz e⟩
  have n3 : Nx S H μ S2 H (um (dm μ p) x (.ins k ns ds')) := ⟨n2.ss, n2.keep, n2.nost, fun z z1 z2 => by
    by_cases q : z = x
    · subst q; rw [hx] at z1; cases z1
    · rw [um_ne q] at z2; exact n2.fr z z1 z2, n2.dom⟩
  exact h S2 σ H Dn a3 (b.mono n2.ss) (q.nx' n3)
end Nm
/-! D7: what the top has made, bundled: defs, methods, classes, exceptions; the rules that call them. -/
namespace Nm
open PySem PySem.Spec PyProof.Rows L2
section
variable (P : Program) (w : World) (K : PySem.W.Frag) (mg : Str → Option Value) (base : Heap)
/-- the def named x keeps sd, at most k deep -/
structure GF (x : Str) (k : Nat) (ps : List Str) (sp : Sp) : Prop where
  ex : ∃ f fd, mg x = some (.ref f) ∧ PySem.W.keepIn K (.ref f) = true ∧ L2.Binds K fd ps [] ∧ FnOk P w K mg base (L2.CX P w) k f fd ps sp
/-- the method m of the class at C -/
structure GM (C : Addr) (m : Str) (k : Nat) (ps : List Str) (sp : Sp) : Prop where
  cl : Cls K C
  ex : ∃ f fd, Meth K C m f ∧ L2.Binds K fd ps [] ∧ FnOk P w K mg base (L2.CX P w) k f fd ps sp
/-- the property m -/
structure GP (C : Addr) (m : Str) (k : Nat) (sp : Sp) : Prop where
  cl : Cls K C
  ex : ∃ p f fd, PropOf K C m p f ∧ L2.Binds K fd ["self"] [] ∧ FnOk P w K mg base (L2.CX P w) k f fd ["self"] sp
/-- the class named x, made by its __init__ -/
structure GC (x : Str) (C : Addr) (k : Nat) (ps : List Str) (sp : Sp) : Prop where
  gl : mg x = some (.ref C)
  ex : ∃ f fd, Mk K C f ∧ L2.Binds K fd ps [] ∧ FnOk P w K mg base (L2.CX P w) k f fd ps sp
/-- the exception class named x -/
structure GX (x : Str) (C : Addr) : Prop where
  gl : mg x = some (.ref C)
  oex : OexC K C
  sub : PySem.W.findIn K (.ref C) "subject" = some none
  xf : XfC K C
  ec : ExcC K C
  ini : ∃ f fd, PySem.W.findIn K (.ref C) "__init__" = some (some (.ref f)) ∧ PySem.W.typeIn K (.ref f) = some (.type "function") ∧ L2.Binds K fd ["self", "subject"] [] ∧ FnOk P w K mg base (L2.CX P w) 1 f fd ["self", "subject"] (spExc K)
end
section
variable {X : Cx} {W : WX} {x m : Str} {C : Addr} {k : Nat} {ps : List Str} {sp : Sp} {p pos apos : Pos} {e o : Expr} {es : List Expr} {t : TA} {ta : TE}
theorem room65 {A : Around} {k : Nat} (hr : Room k A) : A.units + 65 < cLine := by have := hr.un; omega
theorem pe_gf (G : GF X.prog X.w X.K X.mg X.base x k ps sp) (hr : Room k X.A) (tk : Takes X W) (ha : PA X (e :: es) t) (hg : Gl X x := by rfl) (hdb : (x == ("__debug__" : Str)) = false := by decide)
    (he : starEach (e :: es) X.env = (false, eval e X.env) :: starEach es X.env := by rfl) (hpl : (backTo pos (starEach es X.env)).any (·.1) = false := by rfl) :
    PE X (.Call (.Name x p) (e :: es) [] pos) (tCallSD sp [] (L2.WE W) t) := by
  obtain ⟨f, fd, h1, h2, h3, h4⟩ := G.ex
  exact pe_callSD h4 hr hg h1 h2 h3 .nil (fun σ => passAt tk σ) ha hdb he hpl
theorem pe_gf0 (G : GF X.prog X.w X.K X.mg X.base x k ps sp) (hr : Room k X.A) (tk : Takes X W) (hg : Gl X x := by rfl) (hdb : (x == ("__debug__" : Str)) = false := by decide) :
    PE X (.Call (.Name x p) [] [] pos) (tCall0D sp [] (L2.WE W)) := by
  obtain ⟨f, fd, h1, h2, h3, h4⟩ := G.ex
  exact pe_call0D h4 hr hg h1 h2 h3 .nil (fun σ => passAt tk σ) hdb
theorem pe_gm {pl : Sem Bool} (G : GM X.prog X.w X.K X.mg X.base C m k ps sp) (hr : Room k X.A) (tk : Takes X W) (he : PE X o ta) (ha : PA X (e :: es) t)
    (hst : starEach (e :: es) X.env = (false, eval e X.env) :: starEach es X.env := by rfl) (hpl : (backTo pos (starEach es X.env)).any (·.1) = false := by rfl)
    (ht : eval (.Call (.Attribute o m apos) (e :: es) [] pos) X.env = (do
      let ov ← eval o X.env
      standAt apos.atName
      let (f, first) ← holding [ov] (getMethod ov m pl)
      callWith pos f first (backTo pos (starEach (e :: es) X.env)) (backToKw pos (keywordEach [] X.env))) := by rfl) :
    PE X (.Call (.Attribute o m apos) (e :: es) [] pos) (tMethD C m sp [] (L2.WE W) ta t) := by
  obtain ⟨f, fd, h2, h3, h4⟩ := G.ex
  exact pe_methD he G.cl h2 h4 hr h3 .nil (fun σ => passAt tk σ) ha hst hpl ht
theorem pe_gm0 {pl : Sem Bool} (G : GM X.prog X.w X.K X.mg X.base C m k ps sp) (hr : Room k X.A) (tk : Takes X W) (he : PE X o ta)
    (ht : eval (.Call (.Attribute o m apos) [] [] pos) X.env = (do
      let ov ← eval o X.env
      standAt apos.atName
      let (f, first) ← holding [ov] (getMethod ov m pl)
      callWith pos f first (backTo pos (starEach [] X.env)) (backToKw pos (keywordEach [] X.env))) := by rfl) :
    PE X (.Call (.Attribute o m apos) [] [] pos) (tMethD C m sp [] (L2.WE W) ta tNil) := by
  obtain ⟨f, fd, h2, h3, h4⟩ := G.ex
  exact pe_methD0 he G.cl h2 h4 hr h3 .nil (fun σ => passAt tk σ) ht
theorem pe_gp (G : GP X.prog X.w X.K X.mg X.base C m k sp) (hr : Room (k + 1) X.A) (he : PE X o ta) (hab : attributeBase o m X.env (eval o X.env) = eval o X.env := by rfl) : PE X (.Attribute o m pos) (tProp C sp [] E0 ta) := by
  obtain ⟨p, f, fd, h2, h3, h4⟩ := G.ex
  exact pe_prop he G.cl h2 h4 hr h3 .nil passL hab
theorem pe_gc (G : GC X.prog X.w X.K X.mg X.base x C k ps sp) (hr : Room (k + 1) X.A) (tk : Takes X W) (ha : PA X (e :: es) t) (hg : Gl X x := by rfl) (hdb : (x == ("__debug__" : Str)) = false := by decide)
    (he : starEach (e :: es) X.env = (false, eval e X.env) :: starEach es X.env := by rfl) (hpl : (backTo pos (starEach es X.env)).any (·.1) = false := by rfl) :
    PE X (.Call (.Name x p) (e :: es) [] pos) (tMakeD C sp [] (L2.WE W) t) := by
  obtain ⟨f, fd, h2, h3, h4⟩ := G.ex
  exact pe_makeD h2 h4 hr hg G.gl h3 .nil (fun σ => passAt tk σ) ha hdb he hpl
theorem ps_gx (G : GX X.prog X.w X.K X.mg X.base x C) (hr : Room 2 X.A) (hc : X.calm = true) (tk : Takes X W) (ha : PE X e ta) (hg : Gl X x := by rfl) (hdb : (x == ("__debug__" : Str)) = false := by decide)
    (hs : starEach [e] X.env = (false, eval e X.env) :: starEach [] X.env := by rfl) (hpl : (backTo p (starEach [] X.env)).any (·.1) = false := by rfl) {p2 pos2 : Pos} :
    PS X (.Raise (some (.Call (.Name x p2) [e] [] p)) none pos2) (tRz W (tMkO C (spExc X.K) [] (tCons ta tNil))) := by
  obtain ⟨f, fd, h1, h2, h3, h4⟩ := G.ini
  exact ps_raise hc tk (pmk_oex G.oex h1 h2 h4 hr h3 .nil passL hg G.gl (pa_cons ha pa_nil hs) hdb hs hpl)
theorem cls_names (G : GX X.prog X.w X.K X.mg X.base x C) (hg : Gl X x := by rfl) (hdb : (x == ("__debug__" : Str)) = false := by decide) : Names X x (.ref C) := ⟨hg, hdb, .inl G.gl⟩
end
/-- the end of a list of texts: a walk of a def's own list -/
theorem fo_sub {P : Gm → Mu → Prop} {Γ Γ' : Gm} {μ μ' : Mu} (g : SubG Γ' Γ) (m : SubM μ' μ) (h : P Γ' μ') : Fo P Γ μ := ⟨Γ', μ', g, m, h⟩
end Nm
/-! D8: the rules under one name each, as the derivations are printed. -/
namespace Nm
open PySem PySem.Spec PyProof.Rows L2
section
variable {X : Cx}
theorem call_intU : CallR X (.type "int") rIntC := call_int1
theorem call_boolU : CallR X (.type "bool") rBoolC := call_bool1
theorem call_listU : CallR X (.type "list") (rListC X.K) := call_list_of
theorem call_lenU : CallR X (.builtin "len") (rLenC X.K) := call_len
theorem call_maxU (hc : X.calm = true) : CallR X (.builtin "max") rMaxC := call_max2 hc
theorem call_minU (hc : X.calm = true) : CallR X (.builtin "min") rMinC := call_min2 hc
theorem mt_splitU : MtR X "str.split" rSplitT := mt_split
theorem mt_joinU : MtR X "str.join" (rJoinT X.K) := mt_join
theorem mt_partU : MtR X "str.partition" rPartT := mt_partition
theorem pe_globS {x z : Str} {t : Tok} {pos : Pos} (hm : X.mg x = some (.str z t)) (hg : Gl X x := by rfl) (hd : (x == ("__debug__" : Str)) = false := by decide) : PE X (.Name x pos) (tC (.str z)) := pe_glob hg hm ⟨t, rfl⟩ hd
theorem pe_globI {x : Str} {z : Int} {t : Tok} {pos : Pos} (hm : X.mg x = some (.int z t)) (hg : Gl X x := by rfl) (hd : (x == ("__debug__" : Str)) = false := by decide) : PE X (.Name x pos) (tC (.int z)) := pe_glob hg hm ⟨t, rfl⟩ hd
theorem pt_tr {e : Expr} {te : TE} (h : PE X e te) (he : ∀ whole, isTrue e X.env whole = (do let v ← whole; standAt e.pos; holding [v] (truthy v)) := by intro _; rfl) : PT X e (tTr X.K te) := pt_truth h he
end
theorem tk_def {P : Program} {w : World} {K : PySem.W.Frag} {mg : Str → Option Value} {base : Heap} {N : List Str} {qual : Str} {scope : Scope} {f : Addr} {cd : Value} {A : Around} {outer : List Env} {s : Shared} {H : Hp} {E : XK} :
    Takes (cxOf (L2.CX P w) P w K mg base N qual scope f cd A outer s H E) (wOf E) := takes_of rfl rfl rfl rfl
theorem po_def {P : Program} {w : World} {K : PySem.W.Frag} {mg : Str → Option Value} {base : Heap} {N : List Str} {qual : Str} {scope : Scope} {f : Addr} {cd : Value} {A : Around} {outer : List Env} {s : Shared} {H : Hp} {E : XK} :
    PassesOwn (model P w) (A.deeper (envOfC qual scope s.heap.objs.size f cd)) (envOfC qual scope s.heap.objs.size f cd) (cxOf (L2.CX P w) P w K mg base N qual scope f cd A outer s H E).xe := passes_of rfl
theorem tkZ {X : Cx} : Takes X wZ := takes0
/-! ### with the written part told: a block's own context must not show -/
section
variable {X : Cx} {K : PySem.W.Frag} (hK : X.K = K)
include hK
theorem ix_seqK : IxR X (rIx K) := hK ▸ ix_seq
theorem op_eqK (hu : X.A.units + 64 < cLine) : OpR X (compareOp .Eq) (rEqU K) := hK ▸ op_eqU hu
theorem op_neK (hu : X.A.units + 64 < cLine) : OpR X (compareOp .NotEq) (rNeU K) := hK ▸ op_neU hu
theorem op_inK (hu : X.A.units + 65 < cLine) : OpR X (compareOp .In) (rInU K) := hK ▸ op_inU hu
theorem op_notInK (hu : X.A.units + 65 < cLine) : OpR X (compareOp .NotIn) (rNotInU K) := hK ▸ op_notInU hu
theorem call_lenK : CallR X (.builtin "len") (rLenC K) := hK ▸ call_lenU
theorem call_listK : CallR X (.type "list") (rListC K) := hK ▸ call_listU
theorem call_isiK : CallR X (.builtin "isinstance") (rIsi K) := hK ▸ call_isi
theorem sl_uK : SlR X (rSlU K) := hK ▸ sl_u
theorem mt_indexK : MtR X "list.index" (rIndex K) := hK ▸ mt_index
theorem mt_joinK : MtR X "str.join" (rJoinT K) := hK ▸ mt_joinU
theorem pt_trK {e : Expr} {te : TE} (h : PE X e te) (he : ∀ whole, isTrue e X.env whole = (do let v ← whole; standAt e.pos; holding [v] (truthy v)) := by intro _; rfl) : PT X e (tTr K te) := hK ▸ pt_tr h he
theorem pe_fldK {e : Expr} {f : Str} {ta : TE} {pos : Pos} (he : PE X e ta) (hb : attributeBase e f X.env (eval e X.env) = eval e X.env := by rfl) : PE X (.Attribute e f pos) (tFld K ta f) := hK ▸ pe_fld he hb
theorem ps_fldK {o value : Expr} {f : Str} {ta tv : TE} {pos pos' : Pos} (ha : PE X o ta) (hv : PE X value tv) (hs : swapsWith value (some (.Attribute o f pos')) pos.line X.env = pure false := by rfl) : PS X (.Assign [.Attribute o f pos'] value pos) (sFld K ta tv f) := hK ▸ ps_fld ha hv hs
theorem pe_andK {a b : Expr} {ta tb : TE} {rest : List Expr} {pos : Pos} (ha : PE X a ta) (hb : PE X (.BoolOp .And (b :: rest) pos) tb) : PE X (.BoolOp .And (a :: b :: rest) pos) (tAndT K ta tb) := hK ▸ pe_andT ha hb
theorem pe_orK {a b : Expr} {ta tb : TE} {rest : List Expr} {pos : Pos} (ha : PE X a ta) (hb : PE X (.BoolOp .Or (b :: rest) pos) tb) : PE X (.BoolOp .Or (a :: b :: rest) pos) (tOrT K ta tb) := hK ▸ pe_orT ha hb
theorem pe_notK {a : Expr} {ta : TE} {pos : Pos} (ha : PE X a ta) : PE X (.UnaryOp .Not a pos) (tNotT K ta) := hK ▸ pe_notT ha
theorem pi_listK {l tg : Expr} {tl : TE} (hl : PE X l tl) : PI X tg l (iList K tl) := hK ▸ pi_list hl
theorem pi_tupK {l tg : Expr} {tl : TE} (hl : PE X l tl) : PI X tg l (iTup K tl) := hK ▸ pi_tup hl
theorem pg_tupK {es : List Expr} {k : Nat} {t : TGs} {n : Nat} {pos : Pos} (hc : X.calm = true) (h : PGs X es t) (hn : (assignEach es X.env).length = n := by rfl) (hst : (assignEach es X.env).findIdx? (·.1) = none := by rfl) : PG X (.Tuple es k pos) (gTup K n t) := hK ▸ pg_tup hc h hn hst
theorem pe_bmK {o e : Expr} {es : List Expr} {to : TE} {t : TA} {name : Str} {apos cpos : Pos} {T id : String} {r : V → List V → Hp → VK → Prop} (pa : PlainAttrs T) (slot : Slot T name id) (hty : typeOf (.builtin id) = pure (.type "method_descriptor")) (hm : MtR X id r) (ho : PE X o to) (ha : PA X (e :: es) t)
    (hbase : attributeBase o name X.env (eval o X.env) = eval o X.env := by rfl) (hfew : ((backTo cpos (starEach (e :: es) X.env)).all (fun x => !x.1) && (backToKw cpos (keywordEach [] X.env)).all (fun x => x.1.isSome) && decide ((e :: es).length + ([] : List Keyword).length + (if ([] : List Keyword).isEmpty then 0 else 1) < 30)) = true := by rfl)
    (hline : (apos.endLine == cpos.line) = true := by rfl) (hs : starEach (e :: es) X.env = (false, eval e X.env) :: starEach es X.env := by rfl) (hplain : (backTo cpos (starEach es X.env)).any (·.1) = false := by rfl) : PE X (.Call (.Attribute o name apos) (e :: es) [] cpos) (tBM K T r to t) := hK ▸ pe_bm pa slot hty hm ho ha hbase hfew hline hs hplain
theorem pe_bm0K {o : Expr} {to : TE} {name : Str} {apos cpos : Pos} {T id : String} {r : V → List V → Hp → VK → Prop} (pa : PlainAttrs T) (slot : Slot T name id) (hty : typeOf (.builtin id) = pure (.type "method_descriptor")) (hm : MtR X id r) (ho : PE X o to)
    (hbase : attributeBase o name X.env (eval o X.env) = eval o X.env := by rfl) (hline : (apos.endLine == cpos.line) = true := by rfl) : PE X (.Call (.Attribute o name apos) [] [] cpos) (tBM0 K T r to) := hK ▸ pe_bm0 pa slot hty hm ho hbase hline
theorem ps_gxK {mg : Str → Option Value} {W : WX} {x : Str} {C : Addr} {p : Pos} {e : Expr} {ta : TE} (hm : X.mg = mg) (G : GX X.prog X.w K mg X.base x C) (hr : Room 2 X.A) (hc : X.calm = true) (tk : Takes X W) (ha : PE X e ta) (hg : Gl X x := by rfl) (hdb : (x == ("__debug__" : Str)) = false := by decide)
    (hs : starEach [e] X.env = (false, eval e X.env) :: starEach [] X.env := by rfl) (hpl : (backTo p (starEach [] X.env)).any (·.1) = false := by rfl) {p2 pos2 : Pos} :
    PS X (.Raise (some (.Call (.Name x p2) [e] [] p)) none pos2) (tRz W (tMkO C (spExc K) [] (tCons ta tNil))) := by
  subst hm hK
  exact ps_gx G hr hc tk ha hg hdb hs hpl
theorem ps_tryK {body : List Stmt} {h₀ : ExceptHandler} {hds : List ExceptHandler} {l : List Hd} {pos : Pos} {tb : WX → TS} {Wout : WX} (hs : X.stack = X.env :: X.outer) (hf : X.env.frame = some X.env.locals) (hN : X.N.Nodup) (tk : Takes X Wout)
    (hb : ∀ (W : WX) (pn : List (Addr × Obj)) (xe : Value → Shared → Prop), Takes (X.tr pn xe) W → PassesOwn (model X.prog X.w) X.A X.env xe → PSs (X.tr pn xe) body (tb W))
    (hh : HdsG X (h₀ :: hds) l) : PS X (.Try body (h₀ :: hds) [] [] pos) (tTry K Wout tb l) := hK ▸ ps_tryG hs hf hN tk hb hh
end
theorem pe_xsK {X : Cx} {K : PySem.W.Frag} (hK : X.K = K) {a : Addr} {oe : Obj} {cls : Value} {d : Option Addr} {pn : List (Addr × Obj)} {e : Expr} {te : TE} {pos : Pos} {n : Str} (hz : Zc cls d oe) (hf : ∃ vs, oe.data = .fields vs) (he : PE (X.suite a ((a, oe) :: pn)) e te)
    (hb : attributeBase e n X.env (eval e X.env) = eval e X.env := by rfl) : PE (X.suite a ((a, oe) :: pn)) (.Attribute e n pos) (tXs K a cls d n te) := hK ▸ pe_xs hz hf he hb
theorem call_isXK {X : Cx} {K : PySem.W.Frag} (hK : X.K = K) {a : Addr} {oe : Obj} {cls : Value} {d : Option Addr} {pn : List (Addr × Obj)} (hz : Zc cls d oe) (hf : ∃ vs, oe.data = .fields vs) : CallR (X.suite a ((a, oe) :: pn)) (.builtin "isinstance") (rIsX K cls d a) := hK ▸ call_isX hz hf
end Nm
/-! D9: steps by themselves: walk_at "s" makes one step of a reading, walk_at "w" as many as go. -/
namespace Nm
open PySem PySem.Spec PyProof.Rows L2
section
variable {K : PySem.W.Frag} {μ : Mu} {P : PD}
theorem iteD {p A B : Prop} [Decidable p] (h1 : p → A) (h2 : ¬ p → B) : if decide p = true then A else B := by
  by_cases h : p
  · rw [if_pos (decide_eq_true h)]; exact h1 h
  · rw [if_neg (by rw [decide_eq_false h]; exact Bool.false_ne_true)]; exact h2 h
theorem iteN {p A B : Prop} [Decidable p] (h1 : ¬ p → A) (h2 : p → B) : if (!decide p) = true then A else B := by
  by_cases h : p
  · rw [if_neg (by rw [decide_eq_true h]; decide)]; exact h2 h
  · rw [if_pos (by rw [decide_eq_false h]; rfl)]; exact h1 h
theorem iteNT {A B : Prop} (h : A) : if (!false) = true then A else B := by
  rw [if_pos (by decide : (!false) = true)]; exact h
theorem iteNF {A B : Prop} (h : B) : if (!true) = true then A else B := by
  rw [if_neg (by decide : ¬ ((!true) = true))]; exact h
theorem iteB {b : Bool} {A B : Prop} (h1 : b = true → A) (h2 : b = false → B) : if b = true then A else B := by
  cases b with
  | true => exact h1 rfl
  | false => rw [if_neg Bool.false_ne_true]; exact h2 rfl
theorem dAdd_ii {i j : Int} (h : P (.int (i + j)) μ) : dAdd (.int i) (.int j) μ P := h
theorem dAdd_ss {x y : Str} (h1 : x.length + y.length ≤ sizeLine) (h : P (.str (x ++ y)) μ) : dAdd (.str x) (.str y) μ P := ⟨h1, h⟩
theorem dAdd_ll {x y : List D} (h1 : x.length + y.length ≤ sizeLine) (h : P (.lst (x ++ y)) μ) : dAdd (.lst x) (.lst y) μ P := ⟨h1, h⟩
theorem dI_ii {f : Int → Int → D} {i j : Int} (h : P (f i j) μ) : dI f (.int i) (.int j) μ P := h
theorem dIC_ii {C : Int → Int → Prop} {f : Int → Int → D} {i j : Int} (h1 : C i j) (h : P (f i j) μ) : dIC C f (.int i) (.int j) μ P := ⟨h1, h⟩
theorem dU_i {f : Int → D} {i : Int} (h : P (f i) μ) : dU f (.int i) μ P := h
theorem dEq_ss {neg : Bool} {x y : Str} (h : P (.bl (neg ^^ decide (x = y))) μ) : dEq neg (.str x) (.str y) μ P := h
theorem dEq_fi {x y : Int} (h : P (.bl (decide (x = y))) μ) : dEq false (.int x) (.int y) μ P := by show P (.bl (false ^^ _)) μ; rw [Bool.false_xor]; exact h
theorem dEq_ti {x y : Int} (h : P (.bl (!decide (x = y))) μ) : dEq true (.int x) (.int y) μ P := by show P (.bl (true ^^ _)) μ; rw [Bool.true_xor]; exact h
theorem dEq_fs {x y : Str} (h : P (.bl (decide (x = y))) μ) : dEq false (.str x) (.str y) μ P := by show P (.bl (false ^^ _)) μ; rw [Bool.false_xor]; exact h
theorem dEq_ts {x y : Str} (h : P (.bl (!decide (x = y))) μ) : dEq true (.str x) (.str y) μ P := by show P (.bl (true ^^ _)) μ; rw [Bool.true_xor]; exact h
theorem dEq_fb {x y : Bool} (h : P (.bl (decide (x = y))) μ) : dEq false (.bl x) (.bl y) μ P := by show P (.bl (false ^^ _)) μ; rw [Bool.false_xor]; exact h
theorem dEq_tb {x y : Bool} (h : P (.bl (!decide (x = y))) μ) : dEq true (.bl x) (.bl y) μ P := by show P (.bl (true ^^ _)) μ; rw [Bool.true_xor]; exact h
theorem dEq_sn {neg : Bool} {x : Str} (h : P (.bl neg) μ) : dEq neg (.str x) .non μ P := h
theorem dEq_ns {neg : Bool} {x : Str} (h : P (.bl neg) μ) : dEq neg .non (.str x) μ P := h
theorem dEq_nn {neg : Bool} (h : P (.bl (!neg)) μ) : dEq neg .non .non μ P := h
/-- two lists, tuples as data -/
theorem dEq_fl {x y : List D} (h1 : Pl 8 (.lst x)) (h2 : Pl 8 (.lst y)) (h : P (.bl (deqL x y)) μ) : dEq false (.lst x) (.lst y) μ P := ⟨h1, h2, (by show P (.bl (false ^^ deqL x y)) μ; rw [Bool.false_xor]; exact h)⟩
theorem dEq_tl {x y : List D} (h1 : Pl 8 (.lst x)) (h2 : Pl 8 (.lst y)) (h : P (.bl (!deqL x y)) μ) : dEq true (.lst x) (.lst y) μ P := ⟨h1, h2, (by show P (.bl (true ^^ deqL x y)) μ; rw [Bool.true_xor]; exact h)⟩
theorem dEq_ft {x y : List D} (h1 : Pl 8 (.tup x)) (h2 : Pl 8 (.tup y)) (h : P (.bl (deqL x y)) μ) : dEq false (.tup x) (.tup y) μ P := ⟨h1, h2, (by show P (.bl (false ^^ deqL x y)) μ; rw [Bool.false_xor]; exact h)⟩
theorem dEq_tt {x y : List D} (h1 : Pl 8 (.tup x)) (h2 : Pl 8 (.tup y)) (h : P (.bl (!deqL x y)) μ) : dEq true (.tup x) (.tup y) μ P := ⟨h1, h2, (by show P (.bl (true ^^ deqL x y)) μ; rw [Bool.true_xor]; exact h)⟩
theorem dEq_frl {a : Addr} {x y : List D} (hz : μ a = some (.lst x)) (h1 : Pl 8 (.lst x)) (h2 : Pl 8 (.lst y)) (h : P (.bl (deqL x y)) μ) : dEq false (.ref a) (.lst y) μ P := ⟨x, hz, h1, h2, (by show P (.bl (false ^^ deqL x y)) μ; rw [Bool.false_xor]; exact h)⟩
theorem dEq_trl {a : Addr} {x y : List D} (hz : μ a = some (.lst x)) (h1 : Pl 8 (.lst x)) (h2 : Pl 8 (.lst y)) (h : P (.bl (!deqL x y)) μ) : dEq true (.ref a) (.lst y) μ P := ⟨x, hz, h1, h2, (by show P (.bl (true ^^ deqL x y)) μ; rw [Bool.true_xor]; exact h)⟩
theorem dIn_fs {x : Str} {ss : List Str} (h : P (.bl (decide (x ∈ ss))) μ) : dIn false (.str x) (.lst (ss.map D.str)) μ P := ⟨ss, rfl, (by show P (.bl (false ^^ decide (x ∈ ss))) μ; rw [Bool.false_xor]; exact h)⟩
theorem dIn_ts {x : Str} {ss : List Str} (h : P (.bl (!decide (x ∈ ss))) μ) : dIn true (.str x) (.lst (ss.map D.str)) μ P := ⟨ss, rfl, (by show P (.bl (true ^^ decide (x ∈ ss))) μ; rw [Bool.true_xor]; exact h)⟩
theorem dIn_fi {x : Int} {ss : List Int} (h : P (.bl (decide (x ∈ ss))) μ) : dIn false (.int x) (.lst (ss.map D.int)) μ P := ⟨ss, rfl, (by show P (.bl (false ^^ decide (x ∈ ss))) μ; rw [Bool.false_xor]; exact h)⟩
theorem dIn_ti {x : Int} {ss : List Int} (h : P (.bl (!decide (x ∈ ss))) μ) : dIn true (.int x) (.lst (ss.map D.int)) μ P := ⟨ss, rfl, (by show P (.bl (true ^^ decide (x ∈ ss))) μ; rw [Bool.true_xor]; exact h)⟩
theorem dIn_frs {a : Addr} {x : Str} {ss : List Str} (hz : μ a = some (.lst (ss.map D.str))) (h : P (.bl (decide (x ∈ ss))) μ) : dIn false (.str x) (.ref a) μ P := ⟨_, hz, ss, rfl, (by show P (.bl (false ^^ decide (x ∈ ss))) μ; rw [Bool.false_xor]; exact h)⟩
theorem dIn_trs {a : Addr} {x : Str} {ss : List Str} (hz : μ a = some (.lst (ss.map D.str))) (h : P (.bl (!decide (x ∈ ss))) μ) : dIn true (.str x) (.ref a) μ P := ⟨_, hz, ss, rfl, (by show P (.bl (true ^^ decide (x ∈ ss))) μ; rw [Bool.true_xor]; exact h)⟩
theorem dIn_fri {a : Addr} {x : Int} {ss : List Int} (hz : μ a = some (.lst (ss.map D.int))) (h : P (.bl (decide (x ∈ ss))) μ) : dIn false (.int x) (.ref a) μ P := ⟨_, hz, ss, rfl, (by show P (.bl (false ^^ decide (x ∈ ss))) μ; rw [Bool.false_xor]; exact h)⟩
theorem dIn_tri {a : Addr} {x : Int} {ss : List Int} (hz : μ a = some (.lst (ss.map D.int))) (h : P (.bl (!decide (x ∈ ss))) μ) : dIn true (.int x) (.ref a) μ P := ⟨_, hz, ss, rfl, (by show P (.bl (true ^^ decide (x ∈ ss))) μ; rw [Bool.true_xor]; exact h)⟩
theorem dIn_tc {c : Nat} {z : Str} (h : P (.bl (!decide (c ∈ z.cps.toList))) μ) : dIn true (.str ⟨#[c]⟩) (.str z) μ P := ⟨c, rfl, (by rw [Bool.true_xor]; exact h)⟩
theorem dIn_fc {c : Nat} {z : Str} (h : P (.bl (decide (c ∈ z.cps.toList))) μ) : dIn false (.str ⟨#[c]⟩) (.str z) μ P := ⟨c, rfl, (by rw [Bool.false_xor]; exact h)⟩
theorem dIx_l {ds : List D} {i : Int} {d : D} (e : atI ds i = some d) (h : P d μ) : dIx (.lst ds) (.int i) μ P := ⟨d, e, h⟩
theorem dIx_q {ds : List D} {i : Int} {d : D} (e : atI ds i = some d) (h : P d μ) : dIx (.sq ds) (.int i) μ P := ⟨d, e, h⟩
theorem dIx_t {ds : List D} {i : Int} {d : D} (e : atI ds i = some d) (h : P d μ) : dIx (.tup ds) (.int i) μ P := ⟨d, e, h⟩
theorem dIx_r {a : Addr} {ds : List D} {i : Int} {d : D} (hz : μ a = some (.lst ds)) (e : atI ds i = some d) (h : P d μ) : dIx (.ref a) (.int i) μ P := ⟨ds, hz, d, e, h⟩
theorem dIx_s {z : Str} {i : Int} {c : Nat} (hl : z.length ≤ sizeLine) (e : atI z.cps.toList i = some c) (h : P (.str ⟨#[c]⟩) μ) : dIx (.str z) (.int i) μ P := ⟨hl, c, e, h⟩
theorem dSl_l {ds : List D} {lo hi : Option Int} (h : P (.lst (cutD ds lo hi)) μ) : dSl (.lst ds) lo hi μ P := h
theorem dSl_q {ds : List D} {lo hi : Option Int} (h : P (.lst (cutD ds lo hi)) μ) : dSl (.sq ds) lo hi μ P := h
theorem dSl_s {z : Str} {lo hi : Option Int} (hl : z.length ≤ sizeLine) (h : P (.str (cutS z lo hi)) μ) : dSl (.str z) lo hi μ P := ⟨hl, h⟩
theorem dLen_l {ds : List D} (h : P (.int ds.length) μ) : dLen [.lst ds] μ P := h
theorem dLen_q {ds : List D} (h : P (.int ds.length) μ) : dLen [.sq ds] μ P := h
theorem dLen_t {ds : List D} (h : P (.int ds.length) μ) : dLen [.tup ds] μ P := h
theorem dLen_r {a : Addr} {ds : List D} (hz : μ a = some (.lst ds)) (h : P (.int ds.length) μ) : dLen [.ref a] μ P := ⟨ds, hz, h⟩
theorem dLen_s {z : Str} (hl : z.length ≤ sizeLine) (h : P (.int z.length) μ) : dLen [.str z] μ P := ⟨hl, h⟩
theorem dInt_i {i : Int} (h : P (.int i) μ) : dIntC [.int i] μ P := h
theorem dInt_b {k : Bool} (h : P (.int (if k then 1 else 0)) μ) : dIntC [.bl k] μ P := h
theorem dBool_i {i : Int} (h : P (.bl (i != 0)) μ) : dBoolC [.int i] μ P := h
theorem dMax_ii {i j : Int} (h : P (.int (if j > i then j else i)) μ) : dMaxC [.int i, .int j] μ P := h
theorem dMin_ii {i j : Int} (h : P (.int (if j < i then j else i)) μ) : dMinC [.int i, .int j] μ P := h
theorem dList_l {ds : List D} (h : P (.lst ds) μ) : dListC [.lst ds] μ P := h
theorem dList_r {a : Addr} {ds : List D} (hz : μ a = some (.lst ds)) (h : P (.lst ds) μ) : dListC [.ref a] μ P := ⟨ds, hz, h⟩
theorem dListM_l {ds : List D} (h : ∀ p, μ p = none → P (.ref p) (um μ p (.lst ds))) : dListM [.lst ds] μ P := h
theorem dIsN_s {neg : Bool} {x : Str} (h : P (.bl neg) μ) : dIsN neg (.str x) .non μ P := h
theorem dIsN_n {neg : Bool} (h : P (.bl (!neg)) μ) : dIsN neg .non .non μ P := h
theorem dIsN_i {neg : Bool} {i : Int} (h : P (.bl neg) μ) : dIsN neg (.int i) .non μ P := h
theorem dApp {l : Addr} {ds : List D} {d : D} (hz : μ l = some (.lst ds)) (hl : ds.length < sizeLine) (h : P .non (um μ l (.lst (ds ++ [d])))) : dAppend (.ref l) [d] μ P := ⟨ds, hz, hl, h⟩
theorem ty_l {ds : List D} {A : Prop} (h : A) : tyD μ "list" (.lst ds) ∧ A := ⟨rfl, h⟩
theorem ty_s {x : Str} {A : Prop} (h : A) : tyD μ "str" (.str x) ∧ A := ⟨rfl, h⟩
theorem ty_r {a : Addr} {ds : List D} {A : Prop} (hz : μ a = some (.lst ds)) (h : A) : tyD μ "list" (.ref a) ∧ A := ⟨⟨rfl, ds, hz⟩, h⟩
theorem isi_of {d : D} {t cv : Value} {c : D} {b : Bool} (ht : ∀ R : Value → Prop, R t → tyOf μ d R) (hc : clsD c cv) (hk : PySem.W.kitOne K t cv = some b) (h : P (.bl b) μ) : dIsi K [d, c] μ P := ht _ ⟨cv, b, hc, hk, h⟩
theorem bl_ex {b : Bool} {A : Bool → Prop} (h : A b) : ∃ k, D.bl b = .bl k ∧ A k := ⟨b, rfl, h⟩
theorem tru_b {b : Bool} {A : Bool → Prop} (h : A b) : tru μ (.bl b) A := h
theorem tru_i {b : Int} {A : Bool → Prop} (h : A (b != 0)) : tru μ (.int b) A := h
theorem tru_l {b : List D} {A : Bool → Prop} (h : A (!b.isEmpty)) : tru μ (.lst b) A := h
end
theorem um_swap {μ : Mu} {l x : Addr} {a a' b : C} (h : x ≠ l) : um (um (um μ l a) x b) l a' = um (um μ l a') x b := by
  rw [um_comm (Ne.symm h), um_um, um_comm h]
theorem um_dm1 {μ : Mu} {l x : Addr} {a b c : C} (h : μ l = none) (xl : x ≠ l) : um (dm (um (um μ l a) x b) l) x c = um μ x c := by
  funext z
  by_cases q : z = x
  · subst q; rw [um_same, um_same]
  · rw [um_ne q, um_ne q]
    by_cases q2 : z = l
    · subst q2; rw [dm_same, h]
    · rw [dm_ne q2, um_ne q, um_ne q2]
theorem um_dm2 {μ : Mu} {l x : Addr} {a b c : C} (h : μ l = none) (xl : x ≠ l) : um (dm (um (um μ x b) l a) l) x c = um μ x c := by
  rw [um_comm xl, um_dm1 h xl]
theorem zl0 {f : Str} {ns : List Str} {d : D} {ds : List D} : ((f :: ns).zip (d :: ds)).lookup f = some d := by simp
theorem zlS {f n : Str} {ns : List Str} {d : D} {ds : List D} {r : Option D} (h : (f == n) = false) (k : (ns.zip ds).lookup f = r) : ((n :: ns).zip (d :: ds)).lookup f = r := by
  show (match f == n with | true => some d | false => (ns.zip ds).lookup f) = r
  rw [h]
  exact k
theorem IsL.um_new {μ : Mu} {d : D} {es : List D} {p : Addr} {c : C} (h : IsL μ d es) (hp : μ p = none) : IsL (um μ p c) d es := by
  cases d with
  | ref a => show um μ p c a = _; rw [um_ne (mu_ne (show μ a = some (.lst es) from h) hp)]; exact h
  | _ => exact h
theorem IsL.um_ins {μ : Mu} {d : D} {es : List D} {p k : Addr} {ns : List Str} {ds : List D} {c : C} (h : IsL μ d es) (hp : μ p = some (.ins k ns ds)) : IsL (um μ p c) d es := by
  cases d with
  | ref a =>
    have ne : a ≠ p := fun q => by
      have h' : μ a = some (.lst es) := h
      rw [q, hp] at h'; cases h'
    show um μ p c a = _
    rw [um_ne ne]; exact h
  | _ => exact h
end Nm
/-! D10: objects with methods of their own for len, list, in, bool, ==, and the operators. -/
namespace Nm
open PySem PySem.Spec PyProof.Rows L2
structure Spc (K : PySem.W.Frag) (C : Addr) (m : Str) (f : Addr) : Prop where
  fi : PySem.W.findIn K (.ref C) m = some (some (.ref f))
  fn : PySem.W.isFn K (.ref f) = true
section
variable (P : Program) (w : World) (K : PySem.W.Frag) (mg : Str → Option Value) (base : Heap)
/-- the special method m of the class at C, run with k levels of room -/
structure GS (C : Addr) (m : Str) (k : Nat) (ps : List Str) (sp : Sp) : Prop where
  ex : ∃ f fd, Spc K C m f ∧ L2.Binds K fd ps [] ∧ FnOk P w K mg base (L2.CX P w) k f fd ps sp
end
section
variable {X : Cx} {pins : List (Addr × Obj)} {σ : L2.St} {H : Hp} {s : Shared} {A1 : Around} {k : Nat} {f C a : Addr} {fd : FuncData} {ps : List Str} {sp : Sp} {Ex : XK} {Q : VK} {us : List Value} {vs : List V}
theorem own_run (sb : Sub X k A1) (F : FnOk X.prog X.w X.K X.mg X.base (L2.CX X.prog X.w) k f fd ps sp) (b : L2.Binds X.K fd ps []) (hx : PassesAt (L2.CX X.prog X.w) X σ Ex) (I : Inv X pins σ H s) (r : Vals vs us) (h : sp vs H Q Ex) :
    wpAny (model X.prog X.w) A1 (call (.ref f) us) (EP X pins σ Q) X.xe s := by
  have e0 : Env0 X.prog X.w X.K X.mg X.base A1 X.stack s H := by
    have e := I.env0
    exact ⟨by rw [sb.fr]; exact e.frames, e.mod, e.bs, e.bsz, e.funs, e.frf, e.hok, e.bare⟩
  have hl := F.len _ _ _ _ h
  refine wpAny_call (codeAny_mono (F.run A1 X.stack s H ⟨us, []⟩ us vs Q Ex sb.room e0 (by
    have := b s us I.kIn (by have := r.length; simp; omega)
    simpa using this) r h) fun r s' hq => ?_)
  cases r with
  | error e => exact hx pins H s e s' I hq
  | ok fl =>
    cases fl with
    | ret u => exact I.after hq
    | next => exact False.elim hq
    | brk => exact False.elim hq
    | cont => exact False.elim hq
theorem own_run0 (sb : Sub X k A1) (F : FnOk X.prog X.w X.K X.mg X.base (L2.CX X.prog X.w) k f fd ps sp) (b : L2.Binds X.K fd ps []) (I : Inv X pins σ H s) (r : Vals vs us) (h : sp vs H Q E0) :
    wpAny (model X.prog X.w) A1 (call (.ref f) us) (EP X pins σ Q) (fun _ _ => False) s := by
  have e0 : Env0 X.prog X.w X.K X.mg X.base A1 X.stack s H := by
    have e := I.env0
    exact ⟨by rw [sb.fr]; exact e.frames, e.mod, e.bs, e.bsz, e.funs, e.frf, e.hok, e.bare⟩
  have hl := F.len _ _ _ _ h
  refine wpAny_call (codeAny_mono (F.run A1 X.stack s H ⟨us, []⟩ us vs Q E0 sb.room e0 (by
    have := b s us I.kIn (by have := r.length; simp; omega)
    simpa using this) r h) fun r s' hq => ?_)
  cases r with
  | error e =>
    obtain ⟨_, _, _, _, _, _, _, _, _, _, _, _, z⟩ := hq
    exact z.elim
  | ok fl =>
    cases fl with
    | ret u => exact I.after hq
    | next => exact False.elim hq
    | brk => exact False.elim hq
    | cont => exact False.elim hq
theorem passE0 : PassesAt (L2.CX X.prog X.w) X σ E0 := fun pins H s e s' I c => by
  obtain ⟨_, _, _, _, _, _, _, _, _, _, _, _, z⟩ := c
  exact z.elim
/-! len(o) -/
def rLenO (C : Addr) (sp : Sp) : List V → Hp → VK → Prop := fun xs H Q => ∃ a dx fs, xs = [.ref a] ∧ H a = some (.ins C dx fs) ∧ sp [.ref a] H (fun v H' => ∃ n : Nat, v = .int n ∧ n < 2 ^ 62 ∧ Q v H') E0
theorem len_own (sb : Sub X k A1.in1) (G : GS X.prog X.w X.K X.mg X.base C "__len__" k ["self"] sp) (I : Inv X pins σ H s) {dx : Addr} {fs : List (Str × V)} (ha : H a = some (.ins C dx fs))
    (h : sp [.ref a] H (fun v H' => ∃ n : Nat, v = .int n ∧ n < 2 ^ 62 ∧ Q v H') E0) : wpAny (model X.prog X.w) A1 (call (.builtin "len") [.ref a]) (EP X pins σ Q) (fun _ _ => False) s := by
  obtain ⟨f, fd, ⟨hs, hf⟩, hb, F⟩ := G.ex
  obtain ⟨mA, J, _⟩ := ins_get I.hok ha
  obtain ⟨od, J, _⟩ := J.look
  refine Calls.call_function_entry kind_len plain_len entry_len (args_len1 _) ?_
  unfold Builtin.«len»
  refine wpAny_bind (m := oneArg "len" _) (wpAny_pure ?_)
  refine wpAny_bind (m := callSpecial? (.ref a) (PySem.Str.ofString "__len__")) (PySem.W.special_fn I.kIn J hs (beq_iff_eq.mp hf) (wpAny_mono (own_run0 (us := [.ref a]) (vs := [.ref a]) sb F hb I (.cons rfl .nil) h) (fun u s' hq => ?_) fun _ _ z => z))
  obtain ⟨v, H', I', rv, n, rfl, hn, q⟩ := hq
  obtain ⟨t, rfl⟩ := rv
  refine wpAny_bind (wpAny_holding (wpAny_pure ?_))
  refine wpAny_bind (wpAny_letGo ?_)
  show wpAny _ _ (if ((n : Nat) : Int) < 0 then _ else _) _ _ _
  rw [if_neg (by omega)]
  show wpAny _ _ (if ((n : Nat) : Int) ≥ 2 ^ 63 then _ else _) _ _ _
  rw [if_neg (by omega)]
  exact wpAny_bind (wpAny_mkInt (wpAny_pure ⟨_, rfl, ⟨.int n, H', I'.tok _, ⟨_, rfl⟩, q⟩⟩))
theorem call_lenO (hr : Room (k + 1) X.A) (G : GS X.prog X.w X.K X.mg X.base C "__len__" k ["self"] sp) : CallR X (.builtin "len") (rLenO C sp) := by
  intro pins s σ H xs us Q I rv h
  obtain ⟨a, dx, fs, rfl, ha, h⟩ := h
  obtain ⟨u, rfl, ru⟩ := rv.one
  cases ru
  exact wpAny_mono (len_own (Sub.in1 (⟨hr, rfl⟩ : Sub X (k + 1) X.A)) G I ha h) (fun _ _ z => z) fun _ _ z => z.elim
/-! list(o), o.__iter__ gives a list's iterator -/
def spIter (K : PySem.W.Frag) (C : Addr) (f : Str) : Sp := fun vs H Q _ => ∃ a dx fs l zs, vs = [.ref a] ∧ H a = some (.ins C dx fs) ∧ fs.lookup f = some (.ref l) ∧ SqL K H l zs ∧ ∀ it, H it = none → Q (.ref it) (upd H it (ItO l it 0))
def spLenO (K : PySem.W.Frag) (C : Addr) (f : Str) : Sp := fun vs H Q _ => ∃ a dx fs l zs, vs = [.ref a] ∧ H a = some (.ins C dx fs) ∧ fs.lookup f = some (.ref l) ∧ SqL K H l zs ∧ Q (.int zs.length) H
theorem nextIt_end {prog : Program} {w : World} {A : Around} {E : Value → Shared → Prop} {it l : Addr} {i : Nat} {items : Array Value} {Q : Option Value → Shared → Prop} (hh : A.handled = none) (ho : s.heap.get? it = some (GNX.itObj l i)) (hl : s.heap.IsList l items) (hx : items[i]? = none)
    (hQ : ∀ h', h'.get? it = some (GNX.itEnd i) → (∀ b o, b ≠ it → s.heap.get? b = some o → h'.get? b = some o) → Q none { s with heap := h' }) : wpAny (model prog w) A (pyNext (.ref it)) Q E s := by
  have hT : s.TypeIs (.ref it) "list_iterator" := ⟨_, ho, rfl⟩
  unfold pyNext
  refine wpAny_bind (wpAny_attempt (wpAny_callSpecial?_slot (name := Str.ofString "__next__") hT slot_listiter_next (wpAny_call_entry slot_listiter_next hT entry_listiter_next ?_ (args_listiter_next _))))
  refine wpAny_mono (GNX.next_end (Q := fun v s' => False) hh ho hl hx (E := fun e s' => wpAny (model prog w) A (isInstance e (.type "StopIteration") >>= fun b => if b = true then pure none else throw e) Q E s') fun h1 h' e vs e1 sb k ne he hv => ?_) (fun fin s' hq => ?_) fun _ _ z => z
  · refine wpAny_bind (wpAny_isInstance (T := "StopIteration") (b := true) ⟨_, he, rfl⟩ isSubtype_stop ?_)
    exact wpAny_pure (hQ _ (k _ _ e1) fun b o nb z => k b o ((sb.2 b nb).trans z))
  · obtain ⟨v, rfl, z⟩ := hq
    exact z.elim
theorem nextIt_item {prog : Program} {w : World} {A : Around} {E : Value → Shared → Prop} {it l : Addr} {i : Nat} {items : Array Value} {x : Value} {Q : Option Value → Shared → Prop} (ho : s.heap.get? it = some (GNX.itObj l i)) (hl : s.heap.IsList l items) (hx : items[i]? = some x)
    (hQ : ∀ h', h'.get? it = some (GNX.itObj l (i + 1)) → Heap.SameBut it s.heap h' → Q (some x) { s with heap := h' }) : wpAny (model prog w) A (pyNext (.ref it)) Q E s := by
  have hT : s.TypeIs (.ref it) "list_iterator" := ⟨_, ho, rfl⟩
  unfold pyNext
  refine wpAny_bind (wpAny_attempt (wpAny_callSpecial?_slot (name := Str.ofString "__next__") hT slot_listiter_next (wpAny_call_entry slot_listiter_next hT entry_listiter_next ?_ (args_listiter_next _))))
  refine wpAny_mono (GNX.next_item (Q := fun v s' => Q (some v) s') ho hl hx hQ) (fun fin s' hq => ?_) fun _ _ z => z
  obtain ⟨v, rfl, z⟩ := hq
  exact ⟨v, rfl, wpAny_pure z⟩
section
variable {l it q : Addr} {zs : List V} {Rs : Result → Shared → Prop}
theorem sqL_upd {K : PySem.W.Frag} {H : Hp} {l a : Addr} {o : HO} {zs : List V} (h : SqL K H l zs) (ne : l ≠ a) : SqL K (upd H a o) l zs := by
  have e : upd H a o l = H l := upd_ne ne
  unfold SqL Rd at h ⊢
  simp only [e]
  exact h
theorem sqL_ne {K : PySem.W.Frag} {H : Hp} {l a : Addr} {zs : List V} {h : Heap} {P : Program} {w : World} (hk : HOk P w H h) (kin : K.In h) (hs : SqL K H l zs) {o : HO} (ha : H a = some o) (no : ∀ xs, o ≠ .lst xs) (no2 : ∀ od u, o ≠ .frz od u) (nl : ∀ od, h.get? a = some od → od.cls ≠ .type "list") : l ≠ a := by
  intro z
  subst z
  rcases hs with h1 | ⟨od, its, n, h1, h2, _⟩
  · rcases h1 with h1 | ⟨od, h1⟩
    · rw [ha] at h1; exact no _ (Option.some.inj h1)
    · rw [ha] at h1; exact no2 _ _ (Option.some.inj h1)
  · exact nl od (kin _ _ h1) h2
/-- the turns that are left -/
theorem list_loop (hh : X.calm = true) (hA : A1.in1.handled = X.A.handled) (hdone : ∀ H' s', Inv X pins σ H' s' → H' = upd (upd H it (ItE it zs.length)) q (.lst zs) → Rs (.ok (.ret .none)) s')
    (hl : SqL X.K H l zs) (lq : l ≠ q) (li : l ≠ it) (qi : q ≠ it) : ∀ (m i : Nat) (s : Shared), m = zs.length - i → i ≤ zs.length → Inv X pins σ (upd (upd H it (ItO l it i)) q (.lst (zs.take i))) s →
      codeAny (model X.prog X.w) A1 (.builtin "list.extend.loop" ⟨[.ref q, .ref it, .none], []⟩) Rs s := by
  intro m
  induction m with
  | zero =>
    intro i s hm hi I
    have ei : i = zs.length := by omega
    subst ei
    refine codeAny_builtin PySem.F.entry_extend_loop ?_
    rw [Around.under_plainId PySem.F.plain_extend_loop _]
    show wpAny _ A1.in1 (pyNext (.ref it) >>= _) _ _ s
    have hit : upd (upd H it (ItO l it zs.length)) q (.lst (zs.take zs.length)) it = some (ItO l it zs.length) := by rw [upd_ne (Ne.symm qi), upd_same]
    obtain ⟨its, rv, pl, hz⟩ := I.list (sqL_upd (sqL_upd hl li) lq)
    refine wpAny_bind (nextIt_end (by rw [hA]; exact I.ok.hd hh) (itO_get I hit) pl.isList (by rw [List.getElem?_toArray]; exact rv.none_of (List.getElem?_eq_none (Nat.le_refl _))) fun h' e1 k => ?_)
    refine wpAny_pure ?_
    have I2 := I.write (x := it) (e := it) (t' := s.toks) (by rw [hit]; exact True.intro) (.inl rfl) (fun b o nb z => k b o nb z) ⟨_, e1⟩ (itE_ok e1)
    refine hdone _ _ I2 ?_
    rw [List.take_length]
    funext b
    by_cases h1 : b = it
    · subst h1; rw [upd_same, upd_ne (Ne.symm qi), upd_same]
    · rw [upd_ne h1]
      by_cases h2 : b = q
      · subst h2; rw [upd_same, upd_same]
      · rw [upd_ne h2, upd_ne h2, upd_ne h1, upd_ne h1]
  | succ m ih =>
    intro i s hm hi I
    have hlt : i < zs.length := by omega
    refine codeAny_builtin PySem.F.entry_extend_loop ?_
    rw [Around.under_plainId PySem.F.plain_extend_loop _]
    show wpAny _ A1.in1 (pyNext (.ref it) >>= _) _ _ s
    have hit : upd (upd H it (ItO l it i)) q (.lst (zs.take i)) it = some (ItO l it i) := by rw [upd_ne (Ne.symm qi), upd_same]
    obtain ⟨its, rv, pl, hz⟩ := I.list (sqL_upd (sqL_upd hl li) lq)
    obtain ⟨u, hu, ru⟩ := rv.get (List.getElem?_eq_getElem hlt)
    have eo := itO_get I hit
    refine wpAny_bind (nextIt_item eo pl.isList (x := u) (by rw [List.getElem?_toArray]; exact hu) fun h' eo' sb => ?_)
    have I2 := I.write (x := it) (e := it) (t' := s.toks) (by rw [hit]; exact True.intro) (.inl rfl) (fun b o nb z => (sb.2 b nb).trans z) ⟨_, eo'⟩ (itO_ok eo')
    have eH : upd (upd (upd H it (ItO l it i)) q (.lst (zs.take i))) it (ItO l it (i + 1)) = upd (upd H it (ItO l it (i + 1))) q (.lst (zs.take i)) := by
      funext b
      by_cases h1 : b = it
      · subst h1; rw [upd_same, upd_ne (Ne.symm qi), upd_same]
      · rw [upd_ne h1]
        by_cases h2 : b = q
        · subst h2; rw [upd_same, upd_same]
        · rw [upd_ne h2, upd_ne h2, upd_ne h1, upd_ne h1]
    rw [eH] at I2
    show wpAny _ A1.in1 (updateSeq q (·.push u) >>= _) _ _ _
    have hq : upd (upd H it (ItO l it (i + 1))) q (.lst (zs.take i)) q = some (.lst (zs.take i)) := upd_same
    obtain ⟨z, its2, kk, r2, hl2, e2⟩ := I2.lstM hq
    have hzs : zs.length ≤ sizeLine := hz
    have htl : (zs.take i).length = i := by rw [List.length_take]; omega
    refine wpAny_bind (wpAny_updateSeq e2 rfl (wpAny_pure ⟨plainId_quiet PySem.F.plain_extend_loop _, ?_⟩) (by rw [List.size_toArray]; omega) (by show (its2.toArray.push u).size ≤ sizeLine + 1; rw [Array.size_push, List.size_toArray]; omega))
    refine ih (i + 1) _ (by omega) hlt ?_
    have I3 := I2.lset (f := (·.push u)) (its' := its2 ++ [u]) (t' := s.toks) (ys := zs.take i ++ [zs[i]]) hq e2 (by simp) (r2.append (.cons ru .nil)) (by rw [List.length_append, List.length_singleton, htl]; omega)
    rw [upd_upd] at I3
    rw [List.take_succ, List.getElem?_eq_getElem hlt]
    exact I3
end
/-- list(o) -/
def rListO (K : PySem.W.Frag) (C : Addr) (f : Str) : List V → Hp → VK → Prop := fun xs H Q => ∃ a dx fs l zs, xs = [.ref a] ∧ H a = some (.ins C dx fs) ∧ fs.lookup f = some (.ref l) ∧ SqL K H l zs ∧ zs.length < sizeLine ∧
  ∀ q it, H q = none → H it = none → q ≠ it → Q (.ref q) (upd (upd H it (ItE it zs.length)) q (.lst zs))
theorem sqL_of {K : PySem.W.Frag} {H : Hp} {l q : Addr} {o : HO} {zs : List V} {h : Heap} {P : Program} {w : World} (kin : K.In h) (hs : SqL K H l zs) (hq : h.objs.size ≤ q) (hn : H q = none) : l ≠ q := by
  intro z
  subst z
  rcases hs with h1 | ⟨od, its, n, h1, h2, _⟩
  · rcases h1 with h1 | ⟨od, h1⟩
    · rw [hn] at h1; cases h1
    · rw [hn] at h1; cases h1
  · exact absurd (Heap.lt_size (kin _ _ h1)) (Nat.not_lt.mpr hq)
theorem call_listO {m : Nat} {f0 : Str} (hh : X.calm = true) (hr : Room (m + 3) X.A) (GI : GS X.prog X.w X.K X.mg X.base C "__iter__" m ["self"] (spIter X.K C f0)) (GL : GS X.prog X.w X.K X.mg X.base C "__len__" m ["self"] (spLenO X.K C f0)) : CallR X (.type "list") (rListO X.K C f0) := by
  intro pins s σ H xs us Q I rv h
  obtain ⟨a, dx, fs, l, zs, rfl, ha, hf, hl, hzl, hQ⟩ := h
  obtain ⟨u, rfl, ru⟩ := rv.one
  cases ru
  obtain ⟨fi, fdi, ⟨his, hif⟩, hib, FI⟩ := GI.ex
  have sb3 : Sub X (m + 1) X.A.in1.in1 := (Sub.in1 (Sub.in1 (⟨hr, rfl⟩ : Sub X (m + 3) X.A)))
  have sb : Sub X m X.A.in1.in1 := sb3.mono (by omega)
  refine callType_codes (Q₁ := fun obj s₁ => obj = .ref s.heap.objs.size ∧ s₁ = { s with heap := s.heap.push { cls := .type "list", data := .seq #[] } }) PySem.F.called_list (PySem.F.typeCall_list_1 _) PySem.F.entry_list_init
    (code_list_new _ ⟨rfl, rfl⟩) fun obj s₁ h₁ => ?_
  obtain ⟨rfl, rfl⟩ := h₁
  have hS : (s.heap.push { cls := .type "list", data := .seq #[] }).get? s.heap.objs.size = some { cls := .type "list", data := .seq #[] } := Heap.get?_push_size _ rfl
  refine ⟨⟨_, hS, rfl⟩, PySem.F.args_list_init_2 _ _, ?_⟩
  have fr : H s.heap.objs.size = none := I.hok.fresh (Nat.le_refl _)
  have lq : l ≠ s.heap.objs.size := sqL_of (o := .lst []) (P := X.prog) (w := X.w) I.kIn hl (Nat.le_refl _) fr
  generalize hq0 : s.heap.objs.size = q at *
  have I1 : Inv X pins σ (upd H q (.lst [])) { s with heap := s.heap.push { cls := .type "list", data := .seq #[] } } := by
    have := I.lnew (its := []) (ys := []) (t' := s.toks) .nil (Nat.zero_le _)
    rw [hq0] at this
    exact this
  show wpAny _ _ (do let old ← Builtin.List.listItems (.ref q); Builtin.List.listUpdate (.ref q) (fun _ => #[]); letGo old.toList.reverse; Builtin.List.listExtendWith (.ref q) (.ref a) .none) _ _ _
  refine wpAny_bind ?_
  unfold Builtin.List.listItems
  refine wpAny_bind (wpAny_seqItems hS rfl (wpAny_pure ?_))
  show wpAny _ _ (updateSeq q (fun _ => #[]) >>= fun _ => letGo (#[] : Array Value).toList.reverse >>= fun _ => Builtin.List.listExtendWith (.ref q) (.ref a) .none) _ _ _
  refine wpAny_bind (wpAny_updateSeq hS rfl ?_)
  have I2 := I1.lset (f := fun _ => #[]) (its := []) (its' := []) (ys := []) (t' := s.toks) upd_same hS rfl .nil (Nat.zero_le _)
  rw [upd_upd] at I2
  refine wpAny_bind (wpAny_letGo ?_)
  have hqa : q ≠ a := fun z => by subst z; rw [fr] at ha; cases ha
  have ha2 : upd H q (.lst []) a = some (.ins C dx fs) := by rw [upd_ne (Ne.symm hqa)]; exact ha
  generalize ({ s with heap := _ } : Shared) = s2 at I2
  obtain ⟨mA, J, _⟩ := ins_get I2.hok ha2
  obtain ⟨od, J, _⟩ := J.look
  obtain ⟨m0, hF⟩ := I2.fr
  unfold Builtin.List.listExtendWith
  refine wpAny_bind (J.type.here ?_)
  have h1 : Builtin.List.listSameRef (.ref q) (.ref a) = false := by simp [Builtin.List.listSameRef, hqa]
  have h2 : (Value.ref C == Value.type "list") = false := rfl
  have h3 : (Value.ref C == Value.type "tuple") = false := rfl
  simp only [h1, h2, h3, Bool.or_false, Bool.false_eq_true, if_false]
  have pI : spIter X.K C f0 [.ref a] (upd H q (.lst [])) (fun v H' => ∃ it, v = .ref it ∧ upd H q (.lst []) it = none ∧ H' = upd (upd H q (.lst [])) it (ItO l it 0)) E0 := ⟨a, dx, fs, l, zs, rfl, ha2, hf, sqL_upd hl lq, fun it hi => ⟨it, rfl, hi, rfl⟩⟩
  refine wpAny_bind (PySem.W.owit_iter hF I2.ok.mod.kin J his hif (wpAny_mono (own_run (us := [.ref a]) (vs := [.ref a]) sb FI hib passE0 I2 (.cons rfl .nil) pI) (fun u s' hu => ?_) fun _ _ z => z))
  obtain ⟨v, H', I3, rv3, it, rfl, hit0, rfl⟩ := hu
  cases rv3
  have hit : upd (upd H q (.lst [])) it (ItO l it 0) it = some (ItO l it 0) := upd_same
  have eo := itO_get I3 hit
  have hT : s'.TypeIs (.ref it) "list_iterator" := ⟨_, eo, rfl⟩
  have qi : q ≠ it := fun z => by subst z; rw [upd_same] at hit0; cases hit0
  have hitn : H it = none := by rw [upd_ne (Ne.symm qi)] at hit0; exact hit0
  have li : l ≠ it := by
    intro z
    subst z
    rcases hl with h4 | ⟨ox, its, n, h4, h5, _⟩
    · rcases h4 with h4 | ⟨ox, h4⟩
      · rw [hitn] at h4; cases h4
      · rw [hitn] at h4; cases h4
    · have := I3.kIn _ _ h4
      rw [eo] at this
      rw [← Option.some.inj this] at h5
      injection h5 with h5
      exact absurd h5 (by decide)
  unfold PySem.W.OwitIt
  refine wpAny_specialOf (T := "list_iterator") hT slot_listiter_next.lookup ?_
  have hai : a ≠ it := fun z => by subst z; rw [hitn] at ha; cases ha
  have ha3 : upd (upd H q (.lst [])) it (ItO l it 0) a = some (.ins C dx fs) := by rw [upd_ne hai]; exact ha2
  -- the length is asked
  have pL : spLenO X.K C f0 [.ref a] (upd (upd H q (.lst [])) it (ItO l it 0)) (fun v H' => ∃ n : Nat, v = .int n ∧ n < 2 ^ 62 ∧ (v = .int zs.length ∧ H' = upd (upd H q (.lst [])) it (ItO l it 0))) E0 :=
    ⟨a, dx, fs, l, zs, rfl, ha3, hf, sqL_upd (sqL_upd hl lq) li, ⟨zs.length, rfl, by have := sizeLine_eq; omega, rfl, rfl⟩⟩
  obtain ⟨fl, fdl, ⟨hls, hlf⟩, hlb, FL⟩ := id GL.ex
  obtain ⟨mA2, J2, _⟩ := ins_get I3.hok ha3
  obtain ⟨od2, J2, _⟩ := J2.look
  refine wpAny_bind (wpAny_holding ?_)
  unfold Builtin.List.listLengthHint
  refine wpAny_bind (wpAny_bind (J2.type.here ((PySem.W.looks_findIn I3.kIn hls).here ?_)))
  refine PySem.W.KFB.if_not rfl ?_
  refine PySem.W.KFB.if_so rfl ?_
  refine wpAny_bind (wpAny_rule ?_)
  refine wpAny_bind (wpAny_attempt (wpAny_mono (len_own (A1 := X.A.in1.in1) (sb3.in1) GL I3 ha3 pL) (fun u s4 hu => ?_) fun e s4 he => he.elim))
  obtain ⟨v, H4, I4, rv4, rfl, rfl⟩ := hu
  obtain ⟨t4, rfl⟩ := rv4
  refine wpAny_bind (wpAny_of_eq (a := some (zs.length : Int)) rfl ?_)
  have hsz := sizeLine_eq
  refine PySem.W.KFB.if_not (by show decide (_ > _) = false; rw [Int.toNat_natCast]; exact decide_eq_false (by omega)) ?_
  refine wpAny_pure ?_
  have hd : ∀ H' s', Inv X pins σ H' s' → H' = upd (upd H it (ItE it zs.length)) q (.lst zs) → (wants (fun r s₂ => r = .none ∧ EP X pins σ Q (.ref q) s₂) X.xe) (.ok (.ret .none)) s' := fun H' s' I' e => ⟨rfl, .ref q, H', I', rfl, by rw [e]; exact hQ q it fr hitn qi⟩
  have eH : upd (upd H q (.lst [])) it (ItO l it 0) = upd (upd H it (ItO l it 0)) q (.lst (zs.take 0)) := by
    rw [List.take_zero]
    funext b
    by_cases h1 : b = it
    · subst h1; rw [upd_same, upd_ne (Ne.symm qi), upd_same]
    · rw [upd_ne h1]
      by_cases h2 : b = q
      · subst h2; rw [upd_same, upd_same]
      · rw [upd_ne h2, upd_ne h2, upd_ne h1]
  rw [eH] at I4
  have hq4 : upd (upd H it (ItO l it 0)) q (.lst (zs.take 0)) q = some (.lst []) := by rw [upd_same, List.take_zero]
  have go : ∀ s5, Inv X pins σ (upd (upd H it (ItO l it 0)) q (.lst (zs.take 0))) s5 → codeAny (model X.prog X.w) X.A.in1 (.builtin "list.extend.loop" ⟨[.ref q, .ref it, .none], []⟩) (wants (fun r s₂ => r = .none ∧ EP X pins σ Q (.ref q) s₂) X.xe) s5 :=
    fun s5 I5 => list_loop (A1 := X.A.in1) hh rfl hd hl lq li qi zs.length 0 s5 (by omega) (Nat.zero_le _) I5
  refine wpAny_ite_split (fun _ => ?_) (fun _ => wpAny_pure ⟨plainId_quiet PySem.F.plain_extend_loop _, go _ I4⟩)
  refine wpAny_bind (wpAny_rule ?_)
  obtain ⟨z, its, kk, r3, hl3, e3⟩ := I4.lstM hq4
  cases r3
  refine wpAny_bind ?_
  show wpAny _ _ (updateSeq q (·.push .none) >>= fun _ => updateSeq q (·.pop)) _ _ _
  refine wpAny_bind (wpAny_updateSeq e3 rfl ?_)
  have I5 := I4.lset (f := (·.push Value.none)) (its' := [Value.none]) (ys := [.non]) (t' := s4.toks) hq4 e3 (by simp) (.cons rfl .nil) (by rw [List.length_singleton, sizeLine_eq]; decide)
  obtain ⟨z4, its4, k4, r4, hl4, e4⟩ := I5.lstM upd_same
  obtain ⟨u4, rfl, ru4⟩ := r4.one
  refine wpAny_updateSeq e4 rfl ?_ (by show 1 ≤ sizeLine; rw [sizeLine_eq]; decide) (by show 0 ≤ sizeLine + 1; exact Nat.zero_le _)
  refine wpAny_pure ⟨plainId_quiet PySem.F.plain_extend_loop _, go _ ?_⟩
  have I6 := I5.lset (f := (·.pop)) (its := [u4]) (its' := []) (ys := []) (t' := s4.toks) upd_same e4 (by rfl) .nil (Nat.zero_le _)
  rw [upd_upd, upd_upd] at I6
  rw [List.take_zero]
  exact I6
end
end Nm
namespace Nm
open PySem PySem.Spec PyProof.Rows L2
/-! slices -/
theorem take_min {α : Type} (l : List α) (k : Nat) : l.take (min k l.length) = l.take k := by
  rcases Nat.le_total k l.length with h | h
  · rw [Nat.min_eq_left h]
  · rw [Nat.min_eq_right h, List.take_length, List.take_of_length_le h]
theorem drop_min {α : Type} (l : List α) (k : Nat) : (l.drop (min k l.length)).take (l.length - min k l.length) = l.drop k := by
  rcases Nat.le_total k l.length with h | h
  · rw [Nat.min_eq_left h]
    exact List.take_of_length_le (by rw [List.length_drop]; exact Nat.le_refl _)
  · rw [Nat.min_eq_right h, List.drop_eq_nil_of_le h, Nat.sub_self]
    rfl
theorem cutD_to (ds : List D) (k : Nat) : cutD ds none (some (k : Int)) = ds.take k := by
  unfold cutD
  rw [HT.sIx_none, HT.sIx_nat, List.drop_zero, Nat.sub_zero, take_min]
theorem cutD_from (ds : List D) (k : Nat) : cutD ds (some (k : Int)) none = ds.drop k := by
  unfold cutD
  rw [HT.sIx_none, HT.sIx_nat, drop_min]
theorem len_cps' (x : Str) : x.length = x.cps.toList.length := by
  show x.cps.size = _
  simp
theorem cutS_to (z : Str) (k : Nat) : (cutS z none (some (k : Int))).cps.toList = z.cps.toList.take k := by
  unfold cutS
  rw [HT.sIx_none, HT.sIx_nat, len_cps', List.drop_zero, Nat.sub_zero, take_min]
theorem cutS_from (z : Str) (k : Nat) : (cutS z (some (k : Int)) none).cps.toList = z.cps.toList.drop k := by
  unfold cutS
  rw [HT.sIx_none, HT.sIx_nat, len_cps', drop_min]
theorem str_app (x y : Str) : (x ++ y).cps.toList = x.cps.toList ++ y.cps.toList := by
  show (x.cps ++ y.cps).toList = _
  simp
theorem str_ext {x y : Str} (h : x.cps.toList = y.cps.toList) : x = y := by
  cases x; cases y
  congr 1
  exact Array.toList_inj.mp h
/-! list(o) over data -/
def dListO (C : Addr) (f : Str) : List D → Mu → PD → Prop
  | [d], μ, P => ob μ d fun _ k ns ds => k = C ∧ ∃ e zs, (ns.zip ds).lookup f = some e ∧ IsL μ e zs ∧ zs.length < sizeLine ∧ P (.lst zs) μ
  | _, _, _ => False
theorem cbS_listO {K : PySem.W.Frag} {C : Addr} {f : Str} : CbS K (rListO K C f) (dListO C f) := by
  intro S H μ xs ds P Q a hl h k
  obtain ⟨d, rfl⟩ : ∃ d, ds = [d] := by
    match ds, h with
    | [d], _ => exact ⟨d, rfl⟩
  obtain ⟨x, r, rfl, h1, hr⟩ := hl.cons_inv
  rw [hr.nil_inv]
  obtain ⟨q, kk, ns, fs, dx, xs, rfl, h2, h3, h4, rfl, e, zs, h5, h6, h7, p⟩ := ob_ok a h1 h
  obtain ⟨v, hv, hd⟩ := zip_look h4 h5
  obtain ⟨l, ys, rfl, hs, hy⟩ := isL_ok a hd h6
  refine ⟨q, dx, _, l, ys, rfl, h2, hv, hs, by rw [hy.length]; exact h7, fun q' it hq hit ne => ?_⟩
  obtain ⟨n1, a1⟩ := a.lay (ItE it ys.length) hit
  exact lay_lst a1 (hy.mono n1.ss) p (k.nx n1) q' (by rw [upd_ne ne]; exact hq)
theorem call_listOK {X : Cx} {K : PySem.W.Frag} {mg : Str → Option Value} {C : Addr} {m : Nat} {f0 : Str} (hK : X.K = K) (hm : X.mg = mg) (hh : X.calm = true) (hr : Room (m + 3) X.A) (GI : GS X.prog X.w K mg X.base C "__iter__" m ["self"] (spIter K C f0)) (GL : GS X.prog X.w K mg X.base C "__len__" m ["self"] (spLenO K C f0)) : CallR X (.type "list") (rListO K C f0) := by
  subst hK
  subst hm
  exact call_listO hh hr GI GL
theorem GM.gs {P : Program} {w : World} {K : PySem.W.Frag} {mg : Str → Option Value} {base : Heap} {C : Addr} {m : Str} {k : Nat} {ps : List Str} {sp : Sp} (G : GM P w K mg base C m k ps sp) : GS P w K mg base C m k ps sp := by
  obtain ⟨_, f, fd, M, b, F⟩ := G
  exact ⟨f, fd, ⟨M.at_, M.fn⟩, b, F⟩
end Nm
namespace Nm
open PySem PySem.Spec PyProof.Rows L2
/-- +, the new list may change -/
def dAddM : D → D → Mu → PD → Prop
  | .lst a, .lst b, μ, P => a.length + b.length ≤ sizeLine ∧ ∀ p, μ p = none → P (.ref p) (um μ p (.lst (a ++ b)))
  | _, _, _, _ => False
theorem opS_addM {K : PySem.W.Frag} : OpS K rAddU dAddM := by
  intro S H μ x y d1 d2 P Q a h1 h2 p c
  unfold dAddM at p
  split at p
  · obtain ⟨q1, xs1, rfl, e1, l1⟩ := h1.lst_inv
    obtain ⟨q2, xs2, rfl, e2, l2⟩ := h2.lst_inv
    exact .inr (.inr ⟨q1, q2, xs1, xs2, rfl, rfl, a.ex _ _ e1, a.ex _ _ e2, by rw [l1.length, l2.length]; exact p.1, lay_lstM a (l1.app l2) p.2 c⟩)
  · exact p.elim
theorem dAddM_ll {μ : Mu} {P : PD} {x y : List D} (h1 : x.length + y.length ≤ sizeLine) (h : ∀ p, μ p = none → P (.ref p) (um μ p (.lst (x ++ y)))) : dAddM (.lst x) (.lst y) μ P := ⟨h1, h⟩
end Nm
namespace Nm
open PySem PySem.Spec PyProof.Rows L2
/-! len(o), o.__len__ gives a list's length -/
def rLenOo (K : PySem.W.Frag) (C : Addr) (f : Str) : List V → Hp → VK → Prop := fun xs H Q => ∃ a dx fs l zs, xs = [.ref a] ∧ H a = some (.ins C dx fs) ∧ fs.lookup f = some (.ref l) ∧ SqL K H l zs ∧ zs.length < sizeLine ∧ Q (.int zs.length) H
theorem call_lenOK {X : Cx} {K : PySem.W.Frag} {mg : Str → Option Value} {C : Addr} {m : Nat} {f0 : Str} (hK : X.K = K) (hm : X.mg = mg) (hr : Room (m + 1) X.A) (GL : GS X.prog X.w K mg X.base C "__len__" m ["self"] (spLenO K C f0)) : CallR X (.builtin "len") (rLenOo K C f0) := by
  subst hK
  subst hm
  intro pins s σ H xs us Q I rv h
  obtain ⟨a, dx, fs, l, zs, rfl, ha, hf, hl, hz, hQ⟩ := h
  exact call_lenO hr GL pins s σ H _ us Q I rv ⟨a, dx, fs, rfl, ha, a, dx, fs, l, zs, rfl, ha, hf, hl, zs.length, rfl, by have := sizeLine_eq; omega, hQ⟩
def dLenO (C : Addr) (f : Str) : List D → Mu → PD → Prop
  | [d], μ, P => ob μ d fun _ k ns ds => k = C ∧ ∃ e zs, (ns.zip ds).lookup f = some e ∧ IsL μ e zs ∧ zs.length < sizeLine ∧ P (.int (zs.length : Int)) μ
  | _, _, _ => False
theorem cbS_lenO {K : PySem.W.Frag} {C : Addr} {f : Str} : CbS K (rLenOo K C f) (dLenO C f) := by
  intro S H μ xs ds P Q a hl h k
  obtain ⟨d, rfl⟩ : ∃ d, ds = [d] := by
    match ds, h with
    | [d], _ => exact ⟨d, rfl⟩
  obtain ⟨x, r, rfl, h1, hr⟩ := hl.cons_inv
  rw [hr.nil_inv]
  obtain ⟨q, kk, ns, fs, dx, xs, rfl, h2, h3, h4, rfl, e, zs, h5, h6, h7, p⟩ := ob_ok a h1 h
  obtain ⟨v, hv, hd⟩ := zip_look h4 h5
  obtain ⟨l, ys, rfl, hs, hy⟩ := isL_ok a hd h6
  rw [← hy.length] at p h7
  exact ⟨q, dx, _, l, ys, rfl, h2, hv, hs, h7, k _ _ _ _ _ p .refl a .int⟩
/-! x in o, o has no __contains__: its list is walked, all of it texts -/
section
variable {X : Cx} {pins : List (Addr × Obj)} {σ : L2.St} {H : Hp} {A1 : Around} {k : Nat} {C a l it : Addr}
theorem isL_cls {h : Heap} {P : Program} {w : World} {K : PySem.W.Frag} {H : Hp} {zs : List V} {o : Obj} (kin : K.In h) (hs : SqL K H l zs) (hn : H it = none) (ho : h.get? it = some o) (hc : o.cls ≠ .type "list") : l ≠ it := by
  intro z
  subst z
  rcases hs with h1 | ⟨od, its, n, h1, h2, _⟩
  · rcases h1 with h1 | ⟨od, h1⟩
    · rw [hn] at h1; cases h1
    · rw [hn] at h1; cases h1
  · have := kin _ _ h1
    rw [ho] at this
    rw [Option.some.inj this] at hc
    exact hc h2
theorem plain_has : plainId "proto.contains_iter" = true := by decide +kernel
theorem entry_has : entryFor table "proto.contains_iter" = some Builtin.«proto.contains_iter» := entryFor_of_fast (by kernel_rfl)
/-- the walk from place i on: y is looked for -/
theorem has_loop {y : Str} {yt : Tok} {ss : List Str} {Rs : Result → Shared → Prop} (hh : X.calm = true) (hA : A1.in1.handled = X.A.handled) (hl : SqL X.K H l (ss.map V.str)) (li : l ≠ it)
    (hdone : ∀ (b : Bool) (o : HO) s', b = decide (y ∈ ss) → Inv X pins σ (upd H it o) s' → Rs (.ok (.ret (.bool b))) s') :
    ∀ (m i : Nat) (s : Shared), m = ss.length - i → i ≤ ss.length → (∀ j, j < i → ss[j]? ≠ some y) → Inv X pins σ (upd H it (ItO l it i)) s →
      codeAny (model X.prog X.w) A1 (.builtin "proto.contains_iter" ⟨[.ref it, .str y yt], []⟩) Rs s := by
  intro m
  induction m with
  | zero =>
    intro i s hm hi hno I
    refine codeAny_builtin entry_has ?_
    rw [Around.under_plainId plain_has _]
    show wpAny _ A1.in1 (pyNext (.ref it) >>= _) _ _ s
    obtain ⟨its, rv, pl, hz⟩ := I.list (sqL_upd hl li)
    refine wpAny_bind (nextIt_end (by rw [hA]; exact I.ok.hd hh) (itO_get I upd_same) pl.isList (by rw [List.getElem?_toArray]; exact rv.none_of (List.getElem?_eq_none (by rw [List.length_map]; omega))) fun h' e1 k => ?_)
    refine wpAny_bind (wpAny_rule ?_)
    refine wpAny_pure ?_
    have I2 := I.write (x := it) (e := it) (t' := s.toks) (by rw [upd_same]; exact True.intro) (.inl rfl) (fun b o nb z => k b o nb z) ⟨_, e1⟩ (itE_ok e1)
    rw [upd_upd] at I2
    refine hdone _ _ _ ?_ I2
    symm
    refine decide_eq_false fun hy => ?_
    obtain ⟨j, hj⟩ := List.getElem?_of_mem hy
    exact hno j (by have := (List.getElem?_eq_some_iff.mp hj).1; omega) hj
  | succ m ih =>
    intro i s hm hi hno I
    have hlt : i < ss.length := by omega
    refine codeAny_builtin entry_has ?_
    rw [Around.under_plainId plain_has _]
    show wpAny _ A1.in1 (pyNext (.ref it) >>= _) _ _ s
    obtain ⟨its, rv, pl, hz⟩ := I.list (sqL_upd hl li)
    obtain ⟨u, hu, ru⟩ := rv.get (i := i) (x := .str ss[i]) (by rw [List.getElem?_map, List.getElem?_eq_getElem hlt]; rfl)
    obtain ⟨t, rfl⟩ := ru
    refine wpAny_bind (nextIt_item (itO_get I upd_same) pl.isList (x := .str ss[i] t) (by rw [List.getElem?_toArray]; exact hu) fun h' eo' sb => ?_)
    have I2 := I.write (x := it) (e := it) (t' := s.toks) (by rw [upd_same]; exact True.intro) (.inl rfl) (fun b o nb z => (sb.2 b nb).trans z) ⟨_, eo'⟩ (itO_ok eo')
    rw [upd_upd] at I2
    refine wpAny_bind (eqBool_str ?_)
    by_cases q : ss[i] = y
    · rw [show (ss[i] == y) = true from beq_iff_eq.mpr q]
      refine wpAny_bind (wpAny_rule (wpAny_pure ?_))
      exact hdone _ _ _ (decide_eq_true (q ▸ List.getElem_mem hlt)).symm I2
    · rw [show (ss[i] == y) = false from beq_eq_false_iff_ne.mpr q]
      refine wpAny_pure ⟨plainId_quiet plain_has _, ?_⟩
      refine ih (i + 1) _ (by omega) hlt (fun j hj => ?_) I2
      rcases Nat.lt_succ_iff_lt_or_eq.mp hj with z | z
      · exact hno j z
      · subst z
        rw [List.getElem?_eq_getElem hlt]
        exact fun e => q (Option.some.inj e)
end
/-- x in o, of texts -/
def rInO (K : PySem.W.Frag) (C : Addr) (f : Str) : R2 := fun x y H Q => ∃ (a dx : Addr) (fs : List (Str × V)) (l : Addr) (t : Str) (ss : List Str), y = .ref a ∧ x = .str t ∧ H a = some (.ins C dx fs) ∧ fs.lookup f = some (.ref l) ∧ SqL K H l (ss.map V.str) ∧ ∀ it o, H it = none → Q (.bl (decide (t ∈ ss))) (upd H it o)
theorem op_inO {X : Cx} {C : Addr} {m : Nat} {f0 : Str} (hh : X.calm = true) (hr : Room (m + 1) X.A) (hno : PySem.W.findIn X.K (.ref C) "__contains__" = some none) (GI : GS X.prog X.w X.K X.mg X.base C "__iter__" m ["self"] (spIter X.K C f0)) : OpR X (compareOp .In) (rInO X.K C f0) := by
  intro pins s σ H x y v u Q I rx ry h
  obtain ⟨a, dx, fs, l, t, ss, rfl, rfl, ha, hf, hl, hQ⟩ := h
  cases ry
  obtain ⟨yt, rfl⟩ := rx
  obtain ⟨fi, fdi, ⟨his, hif⟩, hib, FI⟩ := GI.ex
  obtain ⟨mA, J, _⟩ := ins_get I.hok ha
  obtain ⟨od, J, _⟩ := J.look
  obtain ⟨m0, hF⟩ := I.fr
  show wpAny _ _ (contains (.ref a) (.str t yt) >>= fun b => pure (Value.bool b)) _ _ s
  refine wpAny_bind ?_
  unfold contains
  refine wpAny_holding (wpAny_bind (wpAny_bind (J.type.here ((PySem.W.looks_findIn I.kIn hno).here ?_))))
  rw [if_neg (by simp)]
  refine wpAny_bind ?_
  unfold callSpecialUnlessNone?
  refine wpAny_bind (wpAny_bind (J.type.here ((PySem.W.looks_findIn I.kIn hno).here ?_)))
  refine wpAny_pure ?_
  refine wpAny_bind (wpAny_rule ?_)
  have pI : spIter X.K C f0 [.ref a] H (fun v H' => ∃ it, v = .ref it ∧ H it = none ∧ H' = upd H it (ItO l it 0)) E0 := ⟨a, dx, fs, l, _, rfl, ha, hf, hl, fun it hi => ⟨it, rfl, hi, rfl⟩⟩
  have sb : Sub X m X.A := (⟨hr, rfl⟩ : Sub X (m + 1) X.A).mono (by omega)
  refine wpAny_bind (wpAny_tryCatch (PySem.W.owit_iter hF I.ok.mod.kin J his hif (wpAny_mono (own_run0 (us := [.ref a]) (vs := [.ref a]) sb FI hib I (.cons rfl .nil) pI) (fun u s' hu => ?_) fun _ _ z => z.elim)))
  obtain ⟨v, H', I3, rv3, it, rfl, hit0, rfl⟩ := hu
  cases rv3
  have eo := itO_get I3 upd_same
  have hT : s'.TypeIs (.ref it) "list_iterator" := ⟨_, eo, rfl⟩
  have li : l ≠ it := isL_cls (P := X.prog) (w := X.w) I3.kIn hl hit0 eo (by intro z; injection z with z; exact absurd z (by decide))
  unfold PySem.W.OwitIt
  refine wpAny_specialOf (T := "list_iterator") hT slot_listiter_next.lookup ?_
  refine wpAny_bind (wpAny_runValue ?_)
  refine has_loop (A1 := X.A) hh rfl hl li (fun b o s2 hb I2 => ?_) ss.length 0 _ (by omega) (Nat.zero_le _) (fun j hj => absurd hj (Nat.not_lt_zero j)) I3
  refine wpAny_pure (wpAny_pure ⟨.bl b, _, I2, rfl, ?_⟩)
  rw [hb]
  exact hQ it o hit0
theorem op_inOK {X : Cx} {K : PySem.W.Frag} {mg : Str → Option Value} {C : Addr} {m : Nat} {f0 : Str} (hK : X.K = K) (hm : X.mg = mg) (hh : X.calm = true) (hr : Room (m + 1) X.A) (hno : PySem.W.findIn K (.ref C) "__contains__" = some none) (GI : GS X.prog X.w K mg X.base C "__iter__" m ["self"] (spIter K C f0)) : OpR X (compareOp .In) (rInO K C f0) := by
  subst hK
  subst hm
  exact op_inO hh hr hno GI
def dInO (C : Addr) (f : Str) : D → D → Mu → PD → Prop
  | .str t, d, μ, P => ob μ d fun _ k ns ds => k = C ∧ ∃ (e : D) (ss : List Str), (ns.zip ds).lookup f = some e ∧ IsL μ e (ss.map D.str) ∧ P (.bl (decide (t ∈ ss))) μ
  | _, _, _, _ => False
theorem has_strs {K : PySem.W.Frag} {S : Hp} : ∀ {ss : List Str} {xs : List V}, HasL K S (ss.map D.str) xs → xs = ss.map V.str
  | [], xs, h => h.nil_inv
  | s :: r, xs, h => by
    obtain ⟨x, t, rfl, h1, h2⟩ := h.cons_inv
    rw [has_strs h2, h1.str_inv]
    rfl
theorem opS_inO {K : PySem.W.Frag} {C : Addr} {f : Str} : OpS K (rInO K C f) (dInO C f) := by
  intro S H μ x y d1 d2 P Q a h1 h2 h k
  unfold dInO at h
  split at h
  · obtain ⟨q, kk, ns, fs, dx, xs, rfl, e2, h3, h4, rfl, e, ss, h5, h6, p⟩ := ob_ok a h2 h
    obtain ⟨v, hv, hd⟩ := zip_look h4 h5
    obtain ⟨l, ys, rfl, hs, hy⟩ := isL_ok a hd h6
    have ey := has_strs hy
    subst ey
    refine ⟨q, dx, _, l, _, ss, rfl, h1.str_inv, e2, hv, hs, fun it o hit => ?_⟩
    obtain ⟨n1, a1⟩ := a.lay o hit
    exact k _ _ _ _ _ p n1 a1 .bl
  · exact h.elim
end Nm
/-! D11: own methods for bool, in, isinstance; the operators. -/
namespace Nm
open PySem PySem.Spec PyProof.Rows L2
/-- bool(x) by an own __bool__ -/
theorem bool_own {prog : Program} {w : World} {A : Around} {E : Value → Shared → Prop} {s : Shared} {K : PySem.W.Frag} {x C f : Addr} {ox : Obj} {odd : Option Obj} {Q : Value → Shared → Prop} (X : K.In s.heap) (I : PySem.W.InstAt s.heap x ox C odd) (hs : PySem.W.findIn K (.ref C) "__bool__" = some (some (.ref f))) (hf : PySem.W.isFn K (.ref f) = true)
    (h : wpAny (model prog w) A.in1.in1 (call (.ref f) [.ref x]) (fun r s₁ => ∃ b, r = Value.bool b ∧ Q r s₁) E s) : wpAny (model prog w) A (call (.type "bool") [.ref x]) Q E s := by
  refine callType_codes (T := "bool") (Bi := Builtin.«object.__init__») (Q₁ := fun r s₁ => ∃ b, r = Value.bool b ∧ Q r s₁) PySem.F.called_bool (PySem.F.typeCall_bool_1 _) PySem.F.entry_object_init ?_ ?_
  · refine codeAny_of_tree ?_
    show wpAny _ A.in1.in1 (do checkBuiltinCall "bool.__new__" ⟨[.type "bool", .ref x], []⟩; again (.builtin "bool.__new__" ⟨[.type "bool", .ref x], []⟩)) _ _ s
    refine wpAny_bind (wpAny_of_eq (PySem.F.newCall_bool_1 _) (wpAny_pure ⟨plainId_quiet (by decide +kernel) _, codeAny_builtin PySem.F.entry_bool_new ?_⟩))
    rw [Around.under_plainId (by decide +kernel) _]
    unfold Builtin.«bool.__new__»
    refine wpAny_bind (wpAny_of_eq (a := true) rfl ?_)
    refine PySem.W.KFB.if_not rfl ?_
    refine wpAny_bind (wpAny_of_eq (a := true) PySem.F.conv_sub_bool ?_)
    refine PySem.W.KFB.if_not rfl ?_
    refine wpAny_bind (wpAny_of_eq (a := [Value.ref x]) rfl ?_)
    refine wpAny_bind ?_
    unfold truthy
    refine wpAny_bind (m := callSpecial? (.ref x) (Str.ofString "__bool__")) (PySem.W.special_fn X I hs (beq_iff_eq.mp hf) (wpAny_mono h (fun r s' hr => ?_) fun _ _ y => y))
    obtain ⟨b, rfl, q⟩ := hr
    exact wpAny_pure (wpAny_pure ⟨b, rfl, q⟩)
  · rintro obj s₁ ⟨b, rfl, hq⟩
    exact ⟨PySem.typeIs_bool _ _, PySem.F.args_object_init_2 _ _, object_init_meets PySem.F.called_bool.init.lookup PySem.F.called_bool.made (by decide) prog w A.in1 _ s₁ ⟨PySem.typeIs_bool _ _, rfl, hq⟩⟩
section
variable {X : Cx} {pins : List (Addr × Obj)} {σ : L2.St} {H : Hp} {s : Shared} {k : Nat} {C : Addr} {sp : Sp}
def rBoolO (C : Addr) (sp : Sp) : List V → Hp → VK → Prop := fun xs H Q => ∃ a dx fs, xs = [.ref a] ∧ H a = some (.ins C dx fs) ∧ sp [.ref a] H (fun v H' => ∃ b : Bool, v = .bl b ∧ Q (.bl b) H') E0
theorem call_boolO (hr : Room (k + 2) X.A) (G : GS X.prog X.w X.K X.mg X.base C "__bool__" k ["self"] sp) : CallR X (.type "bool") (rBoolO C sp) := by
  intro pins s σ H xs us Q I rv h
  obtain ⟨a, dx, fs, rfl, ha, h⟩ := h
  obtain ⟨u, rfl, ru⟩ := rv.one
  cases ru
  obtain ⟨f, fd, ⟨hs, hf⟩, hb, F⟩ := G.ex
  obtain ⟨mA, J, _⟩ := ins_get I.hok ha
  obtain ⟨od, J, _⟩ := J.look
  refine bool_own I.kIn J hs hf (wpAny_mono (own_run0 (us := [.ref a]) (vs := [.ref a]) (Sub.in1 (Sub.in1 (⟨hr, rfl⟩ : Sub X (k + 2) X.A))) F hb I (.cons rfl .nil) h) (fun u s' hq => ?_) fun _ _ z => z.elim)
  obtain ⟨v, H', I', rv, b, rfl, q⟩ := hq
  cases rv
  exact ⟨b, rfl, .bl b, H', I', rfl, q⟩
def rHasO (C : Addr) (sp : Sp) : R2 := fun x y H Q => ∃ a dx fs, y = .ref a ∧ H a = some (.ins C dx fs) ∧ sp [.ref a, x] H (fun v H' => ∃ b : Bool, v = .bl b ∧ Q (.bl b) H') E0
def rHasNO (C : Addr) (sp : Sp) : R2 := fun x y H Q => ∃ a dx fs, y = .ref a ∧ H a = some (.ins C dx fs) ∧ sp [.ref a, x] H (fun v H' => ∃ b : Bool, v = .bl b ∧ Q (.bl (!b)) H') E0
theorem op_hasO {ps : List Str} (hr : Room k X.A) (G : GS X.prog X.w X.K X.mg X.base C "__contains__" k ps sp) : OpR X (compareOp .In) (rHasO C sp) := by
  intro pins s σ H x y v u Q I rx ry h
  obtain ⟨a, dx, fs, rfl, ha, h⟩ := h
  cases ry
  obtain ⟨f, fd, ⟨hs, hf⟩, hb, F⟩ := G.ex
  obtain ⟨mA, J, _⟩ := ins_get I.hok ha
  obtain ⟨od, J, _⟩ := J.look
  obtain ⟨m0, hF⟩ := I.fr
  refine PySem.W.in_K hF I.ok.mod.kin J hs hf (wpAny_mono (own_run0 (us := [.ref a, v]) (vs := [.ref a, x]) (⟨hr, rfl⟩ : Sub X k X.A) F hb I (.cons rfl (.cons rx .nil)) h) (fun u s' hq => ?_) fun _ _ z => z.elim)
  obtain ⟨v', H', I', rv, b, rfl, q⟩ := hq
  cases rv
  exact wpAny_truthy_bool ⟨.bl b, H', I', rfl, q⟩
theorem op_hasNO {ps : List Str} (hr : Room k X.A) (G : GS X.prog X.w X.K X.mg X.base C "__contains__" k ps sp) : OpR X (compareOp .NotIn) (rHasNO C sp) := by
  intro pins s σ H x y v u Q I rx ry h
  obtain ⟨a, dx, fs, rfl, ha, h⟩ := h
  cases ry
  obtain ⟨f, fd, ⟨hs, hf⟩, hb, F⟩ := G.ex
  obtain ⟨mA, J, _⟩ := ins_get I.hok ha
  obtain ⟨od, J, _⟩ := J.look
  obtain ⟨m0, hF⟩ := I.fr
  refine PySem.W.notIn_K hF I.ok.mod.kin J hs hf (wpAny_mono (own_run0 (us := [.ref a, v]) (vs := [.ref a, x]) (⟨hr, rfl⟩ : Sub X k X.A) F hb I (.cons rfl (.cons rx .nil)) h) (fun u s' hq => ?_) fun _ _ z => z.elim)
  obtain ⟨v', H', I', rv, b, rfl, q⟩ := hq
  cases rv
  exact wpAny_truthy_bool ⟨.bl (!b), H', I', rfl, q⟩
end
section
variable {X : Cx} {K : PySem.W.Frag} {mg : Str → Option Value} {C : Addr} {k : Nat} {sp : Sp}
theorem call_boolOK (hK : X.K = K) (hm : X.mg = mg) (hr : Room (k + 2) X.A) (G : GS X.prog X.w K mg X.base C "__bool__" k ["self"] sp) : CallR X (.type "bool") (rBoolO C sp) := by
  subst hK; subst hm; exact call_boolO hr G
theorem op_hasOK {ps : List Str} (hK : X.K = K) (hm : X.mg = mg) (hr : Room k X.A) (G : GS X.prog X.w K mg X.base C "__contains__" k ps sp) : OpR X (compareOp .In) (rHasO C sp) := by
  subst hK; subst hm; exact op_hasO hr G
theorem op_hasNOK {ps : List Str} (hK : X.K = K) (hm : X.mg = mg) (hr : Room k X.A) (G : GS X.prog X.w K mg X.base C "__contains__" k ps sp) : OpR X (compareOp .NotIn) (rHasNO C sp) := by
  subst hK; subst hm; exact op_hasNO hr G
/-- a promise over data, its end looked at -/
theorem sp_of {sd : SpD} {S H : Hp} {μ : Mu} {ds : List D} {vs : List V} {P : PD} {Q : VK} (a : Asr K S H μ) (hl : HasL K S ds vs) (h : sd ds μ P X0) (c : Post K S H μ P Q) : toSp K sd vs H Q E0 :=
  ⟨S, ds, μ, P, X0, a, hl, h, c, fun _ _ _ _ _ _ _ z => z.elim⟩
def dBoolO (C : Addr) (sd : SpD) : List D → Mu → PD → Prop
  | [d], μ, P => ob μ d (fun _ k _ _ => k = C) ∧ sd [d] μ (fun e μ' => ∃ b : Bool, e = .bl b ∧ P (.bl b) μ') X0
  | _, _, _ => False
theorem cbS_boolO {sd : SpD} : CbS K (rBoolO C (toSp K sd)) (dBoolO C sd) := by
  intro S H μ xs ds P Q a hl h c
  unfold dBoolO at h
  split at h
  · obtain ⟨x, r, rfl, h1, h2⟩ := hl.cons_inv
    obtain rfl := h2.nil_inv
    obtain ⟨q, k, ns, fs, dx, zs, rfl, e2, e3, e4, rfl⟩ := ob_ok a h1 h.1
    refine ⟨q, dx, _, rfl, e2, sp_of a (.cons h1 .nil) h.2 fun e μ' v S' H' p n a' hv => ?_⟩
    obtain ⟨b, rfl, p⟩ := p
    exact ⟨b, hv.bl_inv, c _ _ _ _ _ p n a' .bl⟩
  · exact h.elim
def dHasO (C : Addr) (sd : SpD) : D → D → Mu → PD → Prop := fun d1 d2 μ P => ob μ d2 (fun _ k _ _ => k = C) ∧ sd [d2, d1] μ (fun e μ' => ∃ b : Bool, e = .bl b ∧ P (.bl b) μ') X0
theorem opS_hasO {sd : SpD} : OpS K (rHasO C (toSp K sd)) (dHasO C sd) := by
  intro S H μ x y d1 d2 P Q a h1 h2 h c
  obtain ⟨q, k, ns, fs, dx, zs, rfl, e2, e3, e4, rfl⟩ := ob_ok a h2 h.1
  refine ⟨q, dx, _, rfl, e2, sp_of a (.cons h2 (.cons h1 .nil)) h.2 fun e μ' v S' H' p n a' hv => ?_⟩
  obtain ⟨b, rfl, p⟩ := p
  exact ⟨b, hv.bl_inv, c _ _ _ _ _ p n a' .bl⟩
def dHasNO (C : Addr) (sd : SpD) : D → D → Mu → PD → Prop := fun d1 d2 μ P => ob μ d2 (fun _ k _ _ => k = C) ∧ sd [d2, d1] μ (fun e μ' => ∃ b : Bool, e = .bl b ∧ P (.bl (!b)) μ') X0
theorem opS_hasNO {sd : SpD} : OpS K (rHasNO C (toSp K sd)) (dHasNO C sd) := by
  intro S H μ x y d1 d2 P Q a h1 h2 h c
  obtain ⟨q, k, ns, fs, dx, zs, rfl, e2, e3, e4, rfl⟩ := ob_ok a h2 h.1
  refine ⟨q, dx, _, rfl, e2, sp_of a (.cons h2 (.cons h1 .nil)) h.2 fun e μ' v S' H' p n a' hv => ?_⟩
  obtain ⟨b, rfl, p⟩ := p
  exact ⟨b, hv.bl_inv, c _ _ _ _ _ p n a' .bl⟩
end
/-- isinstance of an own class asks this -/
structure OwnC (K : PySem.W.Frag) (C : Addr) : Prop where
  ca : PySem.W.findIn K (.ref C) "__class__" = some (some (.builtin "object.__class__"))
  cn : PySem.W.specialIn K (.builtin "object.__class__") "__get__" = some (some (.builtin "getset_descriptor.__get__"))
  ct : PySem.W.takesIn K (.builtin "object.__class__") = some true
  cm : PySem.W.mroIn K C (.type "object") = some true
  kit : PySem.W.kitOne K (.ref C) (.ref C) = some true
def ownB (K : PySem.W.Frag) (C : Addr) : Bool := decide (PySem.W.findIn K (.ref C) "__class__" = some (some (.builtin "object.__class__"))) && (decide (PySem.W.specialIn K (.builtin "object.__class__") "__get__" = some (some (.builtin "getset_descriptor.__get__"))) &&
  (decide (PySem.W.takesIn K (.builtin "object.__class__") = some true) && (decide (PySem.W.mroIn K C (.type "object") = some true) && decide (PySem.W.kitOne K (.ref C) (.ref C) = some true))))
theorem ownB_ok {K : PySem.W.Frag} {C : Addr} (h : ownB K C = true) : OwnC K C := by
  obtain ⟨h1, h⟩ := Bool.and_eq_true_iff.mp h
  obtain ⟨h2, h⟩ := Bool.and_eq_true_iff.mp h
  obtain ⟨h3, h⟩ := Bool.and_eq_true_iff.mp h
  obtain ⟨h4, h5⟩ := Bool.and_eq_true_iff.mp h
  exact ⟨of_decide_eq_true h1, of_decide_eq_true h2, of_decide_eq_true h3, of_decide_eq_true h4, of_decide_eq_true h5⟩
def dIsiO (C : Addr) : List D → Mu → PD → Prop
  | [d, .ref c], μ, P => c = C ∧ ob μ d (fun _ k _ _ => k = C) ∧ P (.bl true) μ
  | _, _, _ => False
theorem cbS_isiO {K : PySem.W.Frag} {C : Addr} (cl : Cls K C) (o : OwnC K C) : CbS K (rIsi K) (dIsiO C) := by
  intro S H μ xs ds P Q a h p c
  unfold dIsiO at p
  split at p
  · obtain ⟨x, y, rfl, h4, h5⟩ := has2 h
    obtain ⟨rfl, p1, p2⟩ := p
    obtain ⟨q, k, ns, fs, dx, zs, rfl, e2, e3, e4, rfl⟩ := ob_ok a h4 p1
    rw [h5.ref_inv]
    exact ⟨_, _, .ref _, .ref _, true, rfl, .own _, .base (.ins e2 cl o.ca o.cn o.ct o.cm), o.kit, c _ μ _ S H p2 .refl a .bl⟩
  · exact p.elim
end Nm
/-! D12: == of own instances: by an own __eq__, or by identity. -/
namespace Nm
open PySem PySem.Spec PyProof.Rows L2
theorem eq_bind (self : Value) : bindSpecial (.builtin "object.__eq__") self = pure (.builtin "object.__eq__", [self]) := PySem.F.cmp_object.eq.bind self
section
variable {prog : Program} {w : World} {A : Around} {E : Value → Shared → Prop} {s : Shared} {K : PySem.W.Frag} {x y C : Addr} {ox oy : Obj} {odx ody : Option Obj}
/-- no own == -/
structure NoEq (K : PySem.W.Frag) (C : Addr) : Prop where
  eq : PySem.W.findIn K (.ref C) "__eq__" = some (some (.builtin "object.__eq__"))
  ne : PySem.W.findIn K (.ref C) "__ne__" = some (some (.builtin "object.__ne__"))
  sub : PySem.W.subIn K (.ref C) (.type "object") = some true
theorem ifBound_eq {Q : Option Value → Shared → Prop} {b : Value} (X : K.In s.heap) (I : PySem.W.InstAt s.heap x ox C odx) (N : NoEq K C)
    (h : wpAny (model prog w) A (call (.builtin "object.__eq__") [.ref x, b]) (fun v => Q (some v)) E s) : wpAny (model prog w) A (callSpecialIfBound? (.ref x) "__eq__" [b]) Q E s := by
  simp only [callSpecialIfBound?, bindSpecialIfBound?]
  refine wpAny_holding (wpAny_bind (wpAny_bind (wpAny_bind (I.type.here ((PySem.W.looks_findIn X N.eq).here ?_)))))
  refine wpAny_bind (wpAny_askSetting (wpAny_ite ?_))
  have fin : wpAny (model prog w) A (call (.builtin "object.__eq__") ([.ref x] ++ [b]) >>= fun v => pure (some v)) Q E s := wpAny_bind (wpAny_mono h (fun v s' h' => wpAny_pure h') fun _ _ h' => h')
  split
  · refine wpAny_bind ?_
    rw [eq_bind]
    exact wpAny_pure (wpAny_pure (by exact fin))
  · refine wpAny_tryCatch (wpAny_bind ?_)
    rw [eq_bind]
    exact wpAny_pure (wpAny_pure (by exact fin))
theorem check_obj {M : Model} {id n : String} {rest : List Value} {Q : Unit → Shared → Prop} (hk : builtinKind id = some .slot) (hs : splitId id = some ("object", n)) (ha : argsOk id ⟨.ref x :: rest, []⟩) (X : K.In s.heap) (I : PySem.W.InstAt s.heap x ox C odx) (N : NoEq K C) (hq : Q () s) :
    wpAny M A (checkBuiltinCall id ⟨.ref x :: rest, []⟩) Q E s := by
  simp only [checkBuiltinCall, hk, hs]
  refine wpAny_bind ?_
  unfold isInstance
  refine wpAny_bind (I.type.here ((PySem.W.looks_subIn X N.sub).here ?_))
  rw [if_neg (by decide)]
  cases hsig : Manifest.signature? id with
  | none => exact wpAny_pure hq
  | some sig =>
    simp only [argsOk, hsig] at ha
    have h2 : Bind.checkArgs id sig ⟨.ref x :: rest, []⟩ = pure () := ha
    show wpAny M A (Bind.checkArgs id sig ⟨.ref x :: rest, []⟩) Q E _
    rw [h2]; exact wpAny_pure hq
theorem inst_nt (I : PySem.W.InstAt s.heap x ox C odx) : ox.cls ≠ .type "tuple" := by
  rw [I.cls]
  intro e
  cases e
/-- object's == of two instances: the same, or not implemented -/
theorem objeq_call {Q : Value → Shared → Prop} (X : K.In s.heap) (I : PySem.W.InstAt s.heap x ox C odx) (N : NoEq K C) (hy : s.heap.get? y = some oy) (h1 : x = y → Q (.bool true) s) (h2 : x ≠ y → Q .notImplemented s) :
    wpAny (model prog w) A (call (.builtin "object.__eq__") [.ref x, .ref y]) Q E s := by
  refine wpAny_call (codeAny_call_builtin PySem.F.cmp_object.eq.plain PySem.F.cmpEntry_eq (check_obj PySem.F.cmpKind_eq PySem.F.cmpSplit_eq (PySem.F.cmpArgs_eq _ _) X I N ?_))
  by_cases e : x = y
  · subst e
    exact PySem.objEq_entry_same (h1 rfl)
  · exact PySem.objEq_entry_other e I.at_ hy (inst_nt I) (h2 e)
theorem try_objeq {Q : Option Value → Shared → Prop} (X : K.In s.heap) (I : PySem.W.InstAt s.heap x ox C odx) (N : NoEq K C) (hy : s.heap.get? y = some oy) (h1 : x = y → Q (some (.bool true)) s) (h2 : x ≠ y → Q none s) :
    wpAny (model prog w) A (tryCompare (.ref x) "__eq__" (.ref y)) Q E s := by
  simp only [tryCompare]
  exact wpAny_bind (ifBound_eq X I N (objeq_call X I N hy (fun e => wpAny_pure (h1 e)) fun e => wpAny_pure (h2 e)))
/-- x == y of two instances of one class without an own == -/
theorem rich_objeq {D : Addr} {Q : Value → Shared → Prop} (hu : A.units < cLine) (X : K.In s.heap) (I : PySem.W.InstAt s.heap x ox C odx) (J : PySem.W.InstAt s.heap y oy C ody) (N : NoEq K C)
    (h : Q (.bool (decide (x = y))) s) : wpAny (model prog w) A (richCompare .Eq (.ref x) (.ref y)) Q E s := by
  unfold richCompare
  simp only [oneThing_ref, PySem.cmpInfo_Eq]
  refine wpAny_holding (wpAny_bind (wpAny_cRoomFor hu ?_))
  refine wpAny_bind (I.type.here (wpAny_bind (J.type.here ?_)))
  rw [if_neg (by simp)]
  refine wpAny_bind (wpAny_pure ?_)
  simp only [Bool.false_eq_true, if_false]
  refine wpAny_bind (try_objeq X I N J.at_ (fun e => ?_) fun e => ?_)
  · rw [decide_eq_true e] at h
    exact wpAny_pure h
  · rw [decide_eq_false e] at h
    refine wpAny_bind (try_objeq X J N I.at_ (fun e' => absurd e'.symm e) fun _ => ?_)
    refine wpAny_bind (wpAny_rule ?_)
    refine wpAny_bind (wpAny_isSame_ref_other e I.at_ J.at_ (inst_nt I) ?_)
    exact wpAny_pure h
theorem ne_bind (self : Value) : bindSpecial (.builtin "object.__ne__") self = pure (.builtin "object.__ne__", [self]) := PySem.F.cmp_object.ne.bind self
theorem ifBound_ne {Q : Option Value → Shared → Prop} {b : Value} (X : K.In s.heap) (I : PySem.W.InstAt s.heap x ox C odx) (hne : PySem.W.findIn K (.ref C) "__ne__" = some (some (.builtin "object.__ne__")))
    (h : wpAny (model prog w) A (call (.builtin "object.__ne__") [.ref x, b]) (fun v => Q (some v)) E s) : wpAny (model prog w) A (callSpecialIfBound? (.ref x) "__ne__" [b]) Q E s := by
  simp only [callSpecialIfBound?, bindSpecialIfBound?]
  refine wpAny_holding (wpAny_bind (wpAny_bind (wpAny_bind (I.type.here ((PySem.W.looks_findIn X hne).here ?_)))))
  refine wpAny_bind (wpAny_askSetting (wpAny_ite ?_))
  have fin : wpAny (model prog w) A (call (.builtin "object.__ne__") ([.ref x] ++ [b]) >>= fun v => pure (some v)) Q E s := wpAny_bind (wpAny_mono h (fun v s' h' => wpAny_pure h') fun _ _ h' => h')
  split
  · refine wpAny_bind ?_
    rw [ne_bind]
    exact wpAny_pure (wpAny_pure (by exact fin))
  · refine wpAny_tryCatch (wpAny_bind ?_)
    rw [ne_bind]
    exact wpAny_pure (wpAny_pure (by exact fin))
theorem objne_call {Q : Value → Shared → Prop} (hu : A.units + 1 < cLine) (X : K.In s.heap) (I : PySem.W.InstAt s.heap x ox C odx) (N : NoEq K C) (hy : s.heap.get? y = some oy) (h1 : x = y → Q (.bool false) s) (h2 : x ≠ y → Q .notImplemented s) :
    wpAny (model prog w) A (call (.builtin "object.__ne__") [.ref x, .ref y]) Q E s := by
  refine wpAny_call (codeAny_call_builtin PySem.F.cmp_object.ne.plain PySem.F.cmpEntry_ne (check_obj PySem.F.cmpKind_ne PySem.F.cmpSplit_ne (PySem.F.cmpArgs_ne _ _) X I N ?_))
  unfold Builtin.«object.__ne__»
  refine wpAny_bind (wpAny_pure ?_)
  refine wpAny_bind (wpAny_cRoomFor hu ?_)
  refine wpAny_bind (ifBound_eq X I N (objeq_call X I N hy (fun e => ?_) fun e => ?_))
  · exact wpAny_bind (wpAny_truthy_bool (wpAny_pure (h1 e)))
  · exact wpAny_pure (h2 e)
theorem try_objne {Q : Option Value → Shared → Prop} (hu : A.units + 1 < cLine) (X : K.In s.heap) (I : PySem.W.InstAt s.heap x ox C odx) (N : NoEq K C) (hy : s.heap.get? y = some oy) (h1 : x = y → Q (some (.bool false)) s) (h2 : x ≠ y → Q none s) :
    wpAny (model prog w) A (tryCompare (.ref x) "__ne__" (.ref y)) Q E s := by
  simp only [tryCompare]
  exact wpAny_bind (ifBound_ne X I N.ne (objne_call hu X I N hy (fun e => wpAny_pure (h1 e)) fun e => wpAny_pure (h2 e)))
theorem rich_objne {Q : Value → Shared → Prop} (hu : A.units + 1 < cLine) (X : K.In s.heap) (I : PySem.W.InstAt s.heap x ox C odx) (J : PySem.W.InstAt s.heap y oy C ody) (N : NoEq K C)
    (h : Q (.bool (!decide (x = y))) s) : wpAny (model prog w) A (richCompare .NotEq (.ref x) (.ref y)) Q E s := by
  have hu0 : A.units < cLine := Nat.lt_of_succ_lt hu
  unfold richCompare
  simp only [oneThing_ref, PySem.cmpInfo_NotEq]
  refine wpAny_holding (wpAny_bind (wpAny_cRoomFor hu0 ?_))
  refine wpAny_bind (I.type.here (wpAny_bind (J.type.here ?_)))
  rw [if_neg (by simp)]
  refine wpAny_bind (wpAny_pure ?_)
  simp only [Bool.false_eq_true, if_false]
  refine wpAny_bind (try_objne hu X I N J.at_ (fun e => ?_) fun e => ?_)
  · rw [decide_eq_true e] at h
    exact wpAny_pure h
  · rw [decide_eq_false e] at h
    refine wpAny_bind (try_objne hu X J N I.at_ (fun e' => absurd e'.symm e) fun _ => ?_)
    refine wpAny_bind (wpAny_rule ?_)
    refine wpAny_bind (wpAny_isSame_ref_other e I.at_ J.at_ (inst_nt I) ?_)
    exact wpAny_pure h
end
def rObjEq (C : Addr) (neg : Bool) : R2 := fun x y H Q => ∃ a b dx dy fs gs, x = .ref a ∧ y = .ref b ∧ H a = some (.ins C dx fs) ∧ H b = some (.ins C dy gs) ∧ Q (.bl (neg ^^ decide (a = b))) H
def rCmpO (C : Addr) (sp : Sp) : R2 := fun x y H Q => ∃ a b dx dy fs gs, x = .ref a ∧ y = .ref b ∧ H a = some (.ins C dx fs) ∧ H b = some (.ins C dy gs) ∧ sp [.ref a, .ref b] H (fun v H' => ∃ b : Bool, v = .bl b ∧ Q (.bl b) H') E0
section
variable {X : Cx} {C : Addr} {k : Nat} {sp : Sp} {ps : List Str}
theorem op_objEq (hu : X.A.units + 64 < cLine) (N : NoEq X.K C) : OpR X (compareOp .Eq) (rObjEq C false) := by
  intro pins s σ H x y v u Q I rx ry h
  obtain ⟨a, b, dx, dy, fs, gs, rfl, rfl, ha, hb, h⟩ := h
  cases rx
  cases ry
  obtain ⟨mA, J, _⟩ := ins_get I.hok ha
  obtain ⟨od, J, _⟩ := J.look
  obtain ⟨mB, J', _⟩ := ins_get I.hok hb
  obtain ⟨od', J', _⟩ := J'.look
  show wpAny (model X.prog X.w) X.A (richCompare .Eq (.ref a) (.ref b)) (EP X pins σ Q) X.xe s
  refine rich_objeq (D := a) (by omega) I.kIn J J' N ⟨.bl (decide (a = b)), H, I, rfl, ?_⟩
  rw [Bool.false_xor] at h
  exact h
theorem op_objNe (hu : X.A.units + 64 < cLine) (N : NoEq X.K C) : OpR X (compareOp .NotEq) (rObjEq C true) := by
  intro pins s σ H x y v u Q I rx ry h
  obtain ⟨a, b, dx, dy, fs, gs, rfl, rfl, ha, hb, h⟩ := h
  cases rx
  cases ry
  obtain ⟨mA, J, _⟩ := ins_get I.hok ha
  obtain ⟨od, J, _⟩ := J.look
  obtain ⟨mB, J', _⟩ := ins_get I.hok hb
  obtain ⟨od', J', _⟩ := J'.look
  show wpAny (model X.prog X.w) X.A (richCompare .NotEq (.ref a) (.ref b)) (EP X pins σ Q) X.xe s
  refine rich_objne (by omega) I.kIn J J' N ⟨.bl (!decide (a = b)), H, I, rfl, ?_⟩
  rw [Bool.true_xor] at h
  exact h
theorem op_cmpO {op : CmpOp} {m : Str} (hm : (cmpInfo op).2.1 = m) (hop : ∀ u v, compareOp op u v = richCompare op u v) (hr : Room k X.A) (G : GS X.prog X.w X.K X.mg X.base C m k ps sp) : OpR X (compareOp op) (rCmpO C sp) := by
  intro pins s σ H x y v u Q I rx ry h
  obtain ⟨a, b, dx, dy, fs, gs, rfl, rfl, ha, hb, h⟩ := h
  cases rx
  cases ry
  obtain ⟨f, fd, ⟨hs, hf⟩, hbn, F⟩ := G.ex
  obtain ⟨mA, J, _⟩ := ins_get I.hok ha
  obtain ⟨od, J, _⟩ := J.look
  obtain ⟨mB, J', _⟩ := ins_get I.hok hb
  obtain ⟨od', J', _⟩ := J'.look
  obtain ⟨m0, hF⟩ := I.fr
  rw [hop]
  refine PySem.W.cmp_K (op := op) (tb := .ref C) hr.units0 hF I.ok.mod.kin J J'.type (by simp [PySem.W.notFirst]) (by rw [hm]; exact hs) hf (wpAny_mono (own_run0 (us := [.ref a, .ref b]) (vs := [.ref a, .ref b]) (⟨hr, rfl⟩ : Sub X k X.A) F hbn I (.cons rfl (.cons rfl .nil)) h) (fun u s' hq => ?_) fun _ _ z => z.elim)
  obtain ⟨v', H', I', rv, b, rfl, q⟩ := hq
  cases rv
  exact ⟨.bl b, H', I', rfl, q⟩
end
section
variable {X : Cx} {K : PySem.W.Frag} {mg : Str → Option Value} {C : Addr} {k : Nat} {sp : Sp} {ps : List Str}
theorem op_objEqK (hK : X.K = K) (hu : X.A.units + 64 < cLine) (N : NoEq K C) : OpR X (compareOp .Eq) (rObjEq C false) := by subst hK; exact op_objEq hu N
theorem op_objNeK (hK : X.K = K) (hu : X.A.units + 64 < cLine) (N : NoEq K C) : OpR X (compareOp .NotEq) (rObjEq C true) := by subst hK; exact op_objNe hu N
theorem op_eqOK (hK : X.K = K) (hm : X.mg = mg) (hr : Room k X.A) (G : GS X.prog X.w K mg X.base C "__eq__" k ps sp) : OpR X (compareOp .Eq) (rCmpO C sp) := by subst hK; subst hm; exact op_cmpO rfl (fun _ _ => rfl) hr G
theorem op_leOK (hK : X.K = K) (hm : X.mg = mg) (hr : Room k X.A) (G : GS X.prog X.w K mg X.base C "__le__" k ps sp) : OpR X (compareOp .LtE) (rCmpO C sp) := by subst hK; subst hm; exact op_cmpO rfl (fun _ _ => rfl) hr G
theorem op_ltOK (hK : X.K = K) (hm : X.mg = mg) (hr : Room k X.A) (G : GS X.prog X.w K mg X.base C "__lt__" k ps sp) : OpR X (compareOp .Lt) (rCmpO C sp) := by subst hK; subst hm; exact op_cmpO rfl (fun _ _ => rfl) hr G
def dObjEq (C : Addr) (neg : Bool) : D → D → Mu → PD → Prop := fun d1 d2 μ P => ob μ d1 fun a k _ _ => k = C ∧ ob μ d2 fun b k' _ _ => k' = C ∧ P (.bl (neg ^^ decide (a = b))) μ
theorem opS_objEq {neg : Bool} : OpS K (rObjEq C neg) (dObjEq C neg) := by
  intro S H μ x y d1 d2 P Q a h1 h2 h c
  obtain ⟨q, k, ns, fs, dx, zs, rfl, e2, e3, e4, rfl, g1⟩ := ob_ok a h1 h
  obtain ⟨q', k', ns', fs', dx', zs', rfl, e2', e3', e4', rfl, g2⟩ := ob_ok a h2 g1
  exact ⟨q, q', dx, dx', _, _, rfl, rfl, e2, e2', c _ μ _ S H g2 .refl a .bl⟩
def dCmpO (C : Addr) (sd : SpD) : D → D → Mu → PD → Prop := fun d1 d2 μ P => ob μ d1 (fun _ k _ _ => k = C) ∧ ob μ d2 (fun _ k _ _ => k = C) ∧ sd [d1, d2] μ (fun e μ' => ∃ b : Bool, e = .bl b ∧ P (.bl b) μ') X0
theorem opS_cmpO {sd : SpD} : OpS K (rCmpO C (toSp K sd)) (dCmpO C sd) := by
  intro S H μ x y d1 d2 P Q a h1 h2 h c
  obtain ⟨q, k, ns, fs, dx, zs, rfl, e2, e3, e4, rfl⟩ := ob_ok a h1 h.1
  obtain ⟨q', k', ns', fs', dx', zs', rfl, e2', e3', e4', rfl⟩ := ob_ok a h2 h.2.1
  refine ⟨q, q', dx, dx', _, _, rfl, rfl, e2, e2', sp_of a (.cons h1 (.cons h2 .nil)) h.2.2 fun e μ' v S' H' p n a' hv => ?_⟩
  obtain ⟨b, rfl, p⟩ := p
  exact ⟨b, hv.bl_inv, c _ _ _ _ _ p n a' .bl⟩
end
def noEqB (K : PySem.W.Frag) (C : Addr) : Bool := decide (PySem.W.findIn K (.ref C) "__eq__" = some (some (.builtin "object.__eq__"))) && (decide (PySem.W.findIn K (.ref C) "__ne__" = some (some (.builtin "object.__ne__"))) && decide (PySem.W.subIn K (.ref C) (.type "object") = some true))
theorem noEqB_ok {K : PySem.W.Frag} {C : Addr} (h : noEqB K C = true) : NoEq K C := by
  obtain ⟨h1, h⟩ := Bool.and_eq_true_iff.mp h
  obtain ⟨h2, h3⟩ := Bool.and_eq_true_iff.mp h
  exact ⟨of_decide_eq_true h1, of_decide_eq_true h2, of_decide_eq_true h3⟩
end Nm
/-! D13: own binary operators; a branch that is never taken. -/
namespace Nm
open PySem PySem.Spec PyProof.Rows L2
/-- for a statement that is never reached -/
def tDead : TS := fun _ _ _ => False
theorem ps_dead {X : Cx} {s : Stmt} : PS X s tDead := ⟨fun _ _ _ _ _ _ h => h.elim⟩
theorem back_ok {Q : Value → Shared → Prop} {z : V} {v : Value} {s' : Shared} (r : RelV z v) (h : Q v s') : PySem.W.CmpBack Q v s' := by
  cases z with
  | non => rw [show v = Value.none from r] at h ⊢; exact h
  | bl b => rw [show v = Value.bool b from r] at h ⊢; exact h
  | int i => obtain ⟨t, rfl⟩ := r; exact h
  | str i => obtain ⟨t, rfl⟩ := r; exact h
  | byt i => obtain ⟨t, rfl⟩ := r; exact h
  | flt i => obtain ⟨t, rfl⟩ := r; exact h
  | ref i => rw [show v = Value.ref i from r] at h ⊢; exact h
  | ty i => rw [show v = Value.type i from r] at h ⊢; exact h
def rBinO (C : Addr) (sp : Sp) : R2 := fun x y H Q => ∃ a b dx dy fs gs, x = .ref a ∧ y = .ref b ∧ H a = some (.ins C dx fs) ∧ H b = some (.ins C dy gs) ∧ sp [.ref a, .ref b] H Q E0
section
variable {X : Cx} {C : Addr} {k : Nat} {sp : Sp} {ps : List Str}
theorem op_binO {op : Operator} {m : Str} (hm : PySem.dunder op.info.2 = m) (hc : PySem.W.selfFirst X.K C = true) (hr : Room k X.A) (G : GS X.prog X.w X.K X.mg X.base C m k ps sp) : OpR X (binaryOp op) (rBinO C sp) := by
  intro pins s σ H x y v u Q I rx ry h
  obtain ⟨a, b, dx, dy, fs, gs, rfl, rfl, ha, hb, h⟩ := h
  cases rx
  cases ry
  obtain ⟨f, fd, ⟨hs, hf⟩, hbn, F⟩ := G.ex
  obtain ⟨mA, J, _⟩ := ins_get I.hok ha
  obtain ⟨od, J, _⟩ := J.look
  obtain ⟨mB, J', _⟩ := ins_get I.hok hb
  obtain ⟨od', J', _⟩ := J'.look
  obtain ⟨m0, hF⟩ := I.fr
  refine PySem.W.binop_K (op := op) hF I.ok.mod.kin J J'.type hc (by rw [hm]; exact hs) hf (wpAny_mono (own_run0 (us := [.ref a, .ref b]) (vs := [.ref a, .ref b]) (⟨hr, rfl⟩ : Sub X k X.A) F hbn I (.cons rfl (.cons rfl .nil)) h) (fun u s' hq => ?_) fun _ _ z => z.elim)
  obtain ⟨v', H', I', rv, q⟩ := hq
  exact back_ok rv ⟨v', H', I', rv, q⟩
end
section
variable {X : Cx} {K : PySem.W.Frag} {mg : Str → Option Value} {C : Addr} {k : Nat} {sp : Sp} {ps : List Str}
theorem op_binOK {op : Operator} {m : Str} (hm : PySem.dunder op.info.2 = m) (hK : X.K = K) (hg : X.mg = mg) (hc : PySem.W.selfFirst K C = true) (hr : Room k X.A) (G : GS X.prog X.w K mg X.base C m k ps sp) : OpR X (binaryOp op) (rBinO C sp) := by subst hK; subst hg; exact op_binO hm hc hr G
def dBinO (C : Addr) (sd : SpD) : D → D → Mu → PD → Prop := fun d1 d2 μ P => ob μ d1 (fun _ k _ _ => k = C) ∧ ob μ d2 (fun _ k _ _ => k = C) ∧ sd [d1, d2] μ P X0
theorem opS_binO {sd : SpD} : OpS K (rBinO C (toSp K sd)) (dBinO C sd) := by
  intro S H μ x y d1 d2 P Q a h1 h2 h c
  obtain ⟨q, k, ns, fs, dx, zs, rfl, e2, e3, e4, rfl⟩ := ob_ok a h1 h.1
  obtain ⟨q', k', ns', fs', dx', zs', rfl, e2', e3', e4', rfl⟩ := ob_ok a h2 h.2.1
  exact ⟨q, q', dx, dx', _, _, rfl, rfl, e2, e2', sp_of a (.cons h1 (.cons h2 .nil)) h.2.2 c⟩
end
end Nm
/-! D14: own operators in place. -/
namespace Nm
open PySem PySem.Spec PyProof.Rows L2
theorem fillsI_K {M : Model} {h : Heap} {K : PySem.W.Frag} {C f : Addr} {nm : String} {add : Bool} {cd : ClassData} {rest : List Value} (X : K.In h) (hc : PySem.W.clsIn K C = some cd) (hm : cd.mro = .ref C :: rest) (hs : PySem.W.findIn K (.ref C) (PySem.dunderI nm) = some (some (.ref f))) : PySem.W.Looks M h (fillsInplaceSlot (.ref C) nm add) true := by
  intro A Q E s k q
  unfold fillsInplaceSlot
  refine wpAny_bind ((PySem.W.looks_clsIn X hc).andThen (f := fun cd => pure cd.mro) .now A _ E s k ?_)
  rw [hm, List.anyM_cons]
  refine wpAny_bind ?_
  refine wpAny_bind (PySem.W.looks_findIn X hs A _ E s k ?_)
  dsimp only
  rw [if_pos (show (!ownNameWrapper (.ref f) (PySem.dunderI nm)) = true from rfl)]
  refine wpAny_pure ?_
  rw [if_pos rfl]
  exact wpAny_pure q
theorem inplace_K {prog : Program} {w : World} {A : Around} {E : Value → Shared → Prop} {s : Shared} {K : PySem.W.Frag} {x C f : Addr} {ox : Obj} {od : Option Obj} {op : Operator} {b : Value} {Q : Value → Shared → Prop} (X : K.In s.heap) (I : PySem.W.InstAt s.heap x ox C od) (hc : PySem.W.selfFirst K C = true)
    (hs : PySem.W.findIn K (.ref C) (PySem.dunderI op.info.2) = some (some (.ref f))) (hf : PySem.W.isFn K (.ref f) = true)
    (h : wpAny (model prog w) A (call (.ref f) [.ref x, b]) (PySem.W.CmpBack Q) E s) : wpAny (model prog w) A (inplaceOp op (.ref x) b) Q E s := by
  obtain ⟨cd, hcd, hm⟩ := PySem.W.any_some hc
  obtain ⟨rest, hm⟩ : ∃ rest, cd.mro = .ref C :: rest := by
    cases q : cd.mro with
    | nil => rw [q] at hm; cases hm
    | cons a r => rw [q] at hm; exact ⟨r, by rw [List.head?_cons] at hm; cases (beq_iff_eq.mp hm); rfl⟩
  unfold inplaceOp
  refine wpAny_holding (wpAny_bind (I.type.here (wpAny_bind ((fillsI_K X hcd hm hs).here ?_))))
  rw [if_pos rfl]
  refine wpAny_bind (m := tryMethod (.ref x) _ b) ?_
  unfold tryMethod
  refine wpAny_bind (PySem.W.special_fn X I hs (beq_iff_eq.mp hf) (wpAny_mono h (fun v s' hv => ?_) fun _ _ e => e))
  cases v <;> first | exact hv.elim | exact wpAny_pure (wpAny_bind (wpAny_rule (wpAny_pure hv)))
section
variable {X : Cx} {C : Addr} {k : Nat} {sp : Sp} {ps : List Str}
theorem ip_own {op : Operator} {m : Str} (hm : PySem.dunderI op.info.2 = m) (hc : PySem.W.selfFirst X.K C = true) (hr : Room k X.A) (G : GS X.prog X.w X.K X.mg X.base C m k ps sp) : PIp X op (rBinO C sp) := by
  intro pins s σ H x y v u Q I rx ry h
  obtain ⟨a, b, dx, dy, fs, gs, rfl, rfl, ha, hb, h⟩ := h
  cases rx
  cases ry
  obtain ⟨f, fd, ⟨hs, hf⟩, hbn, F⟩ := G.ex
  obtain ⟨mA, J, _⟩ := ins_get I.hok ha
  obtain ⟨od, J, _⟩ := J.look
  refine inplace_K (op := op) I.kIn J hc (by rw [hm]; exact hs) hf (wpAny_mono (own_run0 (us := [.ref a, .ref b]) (vs := [.ref a, .ref b]) (⟨hr, rfl⟩ : Sub X k X.A) F hbn I (.cons rfl (.cons rfl .nil)) h) (fun u s' hq => ?_) fun _ _ z => z.elim)
  obtain ⟨v', H', I', rv, q⟩ := hq
  exact back_ok rv ⟨v', H', I', rv, q⟩
def rGetI (K : PySem.W.Frag) : V → V → Hp → VK → Prop := fun o i H Q => ∃ p xs n v, o = .ref p ∧ i = .int ((n : Nat) : Int) ∧ SqL K H p xs ∧ xs[n]? = some v ∧ Q v H
theorem get_list : PGet X (rGetI X.K) := by
  intro pins s σ H o i ov iv Q I ro ri h
  obtain ⟨p, xs, n, z, rfl, rfl, hq, he, q⟩ := h
  cases ro
  obtain ⟨t, rfl⟩ := ri
  obtain ⟨its, r, pl, hz⟩ := I.list hq
  obtain ⟨w, ew, rw'⟩ := r.get he
  have hl := r.length
  have hn := line63
  have h2 := (List.getElem?_eq_some_iff.mp he).1
  refine wpAny_mono (wpAny_getItem_list (x := w) (Q := fun r s' => r = w ∧ EP X pins σ Q r s') pl.isList ?_ ?_ ?_ ⟨rfl, z, H, I, rw', q⟩) (fun _ _ e => e.2) fun _ _ e => e
  all_goals first | omega | (simp only [Int.toNat_natCast, List.getElem?_toArray]; exact ew) | (rw [List.size_toArray]; omega)
end
section
variable {X : Cx} {K : PySem.W.Frag} {mg : Str → Option Value} {C : Addr} {k : Nat} {sp : Sp} {ps : List Str}
theorem ip_ownK {op : Operator} {m : Str} (hm : PySem.dunderI op.info.2 = m) (hK : X.K = K) (hg : X.mg = mg) (hc : PySem.W.selfFirst K C = true) (hr : Room k X.A) (G : GS X.prog X.w K mg X.base C m k ps sp) : PIp X op (rBinO C sp) := by subst hK; subst hg; exact ip_own hm hc hr G
theorem get_listK (hK : X.K = K) : PGet X (rGetI K) := by subst hK; exact get_list
end
section
variable {K : PySem.W.Frag} {W : WX} {Γ : Gm} {μ : Mu} {E : En} {C : Addr} {sd : SpD}
/-- x op= e, x an own object -/
theorem ws_augO {te : TE} {i : Nat} {d1 : D} (hx : Γ[i]? = some (some d1)) (h : We K W te Γ μ (fun d2 μ1 => dBinO C sd d1 d2 μ1 fun z μ2 => E.nx (Γ.set i (some z)) μ2) (fun c s μ1 => E.ex c s Γ μ1)) : Ws K W (tAug i te (rBinO C (toSp K sd))) Γ μ E := by
  intro S σ H Dn a b c
  obtain ⟨v, h1, h2⟩ := b.get hx
  refine ⟨v, h1, h S σ H _ a b (fun d2 μ1 y S1 H1 p1 n1 a1 h3 => ?_) (c.xx b)⟩
  refine opS_binO S1 H1 μ1 v y d1 d2 _ _ a1 (h2.mono n1.ss) h3 p1 fun z μ2 zv S2 H2 p2 n2 a2 h4 => ?_
  exact c.nx _ _ _ S2 H2 p2 (n1.trans n2) a2 ((b.mono (n1.trans n2).ss).set h4 i)
/-- o[i] op= e, o a list, the item an own object -/
theorem ws_augS {to ti te : TE} (h : We K W to Γ μ (fun o μ1 => We K W ti Γ μ1 (fun i μ2 => ∃ l ds n d, o = .ref l ∧ i = .int ((n : Nat) : Int) ∧ μ2 l = some (.lst ds) ∧ ds[n]? = some d ∧
      We K W te Γ μ2 (fun d2 μ3 => dBinO C sd d d2 μ3 fun z μ4 => ∃ ds' j, μ4 l = some (.lst ds') ∧ ixN ds'.length ((n : Nat) : Int) = some j ∧ E.nx Γ (um μ4 l (.lst (ds'.set j z)))) (fun c s μ1 => E.ex c s Γ μ1)) (fun c s μ1 => E.ex c s Γ μ1)) (fun c s μ1 => E.ex c s Γ μ1)) :
    Ws K W (tAugS to ti te (rGetI K) (rBinO C (toSp K sd)) rSetL) Γ μ E := by
  intro S σ H Dn a b c
  refine h S σ H _ a b (fun o μ1 ov S1 H1 p1 n1 a1 h1 => ?_) (c.xx b)
  refine p1 S1 σ H1 _ a1 (b.mono n1.ss) (fun i μ2 iv S2 H2 p2 n2 a2 h2 => ?_) ((c.xx b).nx n1)
  obtain ⟨l, ds, n, d, rfl, rfl, hl, hd, p3⟩ := p2
  obtain ⟨_, xs, e1, l1⟩ := a2.mu _ _ hl
  obtain ⟨x, hx, hdx⟩ := l1.get hd
  have n12 := n1.trans n2
  have eo := (h1.mono n2.ss).ref_inv
  subst eo
  have ei := h2.int_inv
  subst ei
  refine ⟨l, xs, n, x, rfl, rfl, .inl (.inl e1), hx, ?_⟩
  refine p3 S2 σ H2 _ a2 (b.mono n12.ss) (fun d2 μ3 y S3 H3 p4 n3 a3 h3 => ?_) ((c.xx b).nx n12)
  refine opS_binO S3 H3 μ3 x y d d2 _ _ a3 (hdx.mono n3.ss) h3 p4 fun z μ4 zv S4 H4 p5 n4 a4 h4 => ?_
  obtain ⟨ds', j, hl4, hj, p6⟩ := p5
  obtain ⟨_, ys, e4, l4⟩ := a4.mu _ _ hl4
  refine ⟨l, ys, n, j, rfl, rfl, e4, by rw [l4.length]; exact hj, ?_⟩
  obtain ⟨n5, a5⟩ := a4.wr (.lst (ys.set j zv)) (.lst (ds'.set j z)) (.lst ds') hl4 ⟨_, upd_same, l4.set h4 j⟩
  have nn := (n12.trans (n3.trans n4)).trans n5
  exact c.nx _ _ _ _ _ p6 nn a5 (b.mono nn.ss)
end
end Nm
/-! D15: enumerate(list, start=1). -/
namespace Nm
open PySem PySem.Spec PyProof.Rows L2
open AutoSeq1 (wpAny_loadPart')
set_option maxHeartbeats 2000000 in
theorem enum1_new (ls : Addr) (vs : Array Value) (nn : Nat) (dd : Option Addr) (ss : Array (Option Value)) (tt : Tok) :
    Meets (Builtin.«enumerate.__new__» ⟨[.type "enumerate", .ref ls], [("start", .int 1 tt)]⟩) (fun _ R s => s.heap.get? ls = some { cls := .type "list", dict := dd, data := .seq vs nn, slots := ss } ∧
      R (.ok (.ret (.ref (s.heap.push { cls := .type "list_iterator", data := .fields #[.ref ls, .int 0 0] }).objs.size)))
        { s with heap := (s.heap.push { cls := .type "list_iterator", data := .fields #[.ref ls, .int 0 0] }).push { cls := .type "enumerate", data := .fields #[.none, .bool false, .ref s.heap.objs.size, rawInt 1, .none, .none] } }) :=
  .of_wp fun prog w A R s hyp => by
    obtain ⟨hp0, g0, d0, t0, o0⟩ := s; obtain ⟨hls, hR⟩ := hyp
    have hsub := sub_enumerate
    have hLs : Heap.IsList (Shared.heap ⟨hp0, g0, d0, t0, o0⟩) ls vs := ⟨_, hls, rfl, nn, rfl⟩
    wp_walk using wpAny_loadPart' hls
    refine wpAny_stack_any fun stk => wpAny_pure ?_
    split
    · rename_i c _ _ _ _ _
      cases (c == Value.type "enumerate")
      · wp_walk using wpAny_loadPart' hls, wpAny_pyIter_list hLs
        exact ⟨_, rfl, hR⟩
      · wp_walk using wpAny_loadPart' hls, wpAny_pyIter_list hLs
        exact ⟨_, rfl, hR⟩
    · wp_walk using wpAny_loadPart' hls, wpAny_pyIter_list hLs
      exact ⟨_, rfl, hR⟩
section
variable {prog : Program} {w : World} {A : Around} {E : Value → Shared → Prop} {s : Shared}
theorem wt0 (T : String) (args : List Value) (kw : List (Str × Value)) : (Code.builtin "type.__call__" ⟨.type T :: args, kw⟩).weight = 0 := rfl
theorem un1 (T : String) (args : List Value) (kw : List (Str × Value)) : (Code.builtin "type.__call__" ⟨.type T :: args, kw⟩).cUnits = 1 := rfl
theorem enum1_init {obj : Value} {xs : List Value} {ks : List (Str × Value)} : Meets (Builtin.«object.__init__» ⟨obj :: xs, ks⟩) (fun _ R s => s.TypeIs obj "enumerate" ∧ R (.ok (.ret .none)) s) := by
  refine Meets.of_wp fun prog w A R s hs => ?_
  obtain ⟨hT, hq⟩ := hs
  have hl := PySem.F.called_enumerate.init.lookup
  have hm := PySem.F.called_enumerate.made
  cases xs with
  | nil =>
    cases ks with
    | nil => exact wpAny_pure ⟨_, rfl, hq⟩
    | cons k ks =>
      repeat (any_goals (first | assumption | wp_step))
      exact ⟨_, rfl, hq⟩
  | cons b xs =>
    repeat (any_goals (first | assumption | wp_step))
    exact ⟨_, rfl, hq⟩
theorem enum1_call {ls : Addr} {vs : Array Value} {tt : Tok} {Q : Value → Shared → Prop} (hL : s.heap.IsList ls vs)
    (hc : checkTypeCall "enumerate" ⟨[.ref ls], [("start", .int 1 tt)]⟩ = pure ()) (hn : checkBuiltinCall "enumerate.__new__" ⟨[.type "enumerate", .ref ls], [("start", .int 1 tt)]⟩ = pure ()) (ho : ∀ obj, argsOk "object.__init__" ⟨[obj, .ref ls], [("start", .int 1 tt)]⟩)
    (h : ∀ h', IsEnum h' (s.heap.objs.size + 1) s.heap.objs.size 1 .none → h'.IsListIter s.heap.objs.size ls 0 → h'.objs.size = s.heap.objs.size + 2 →
      (∀ b o, s.heap.get? b = some o → h'.get? b = some o) → Q (.ref (s.heap.objs.size + 1)) { s with heap := h' }) :
    wpAny (model prog w) A (call (.type "enumerate") [.ref ls] [("start", .int 1 tt)]) Q E s := by
  obtain ⟨⟨cc, dd, da, ss⟩, hls, hcl, nn, hda⟩ := hL
  replace hcl : cc = .type "list" := hcl
  replace hda : da = .seq vs nn := hda
  subst hcl hda
  have ft := PySem.F.called_enumerate
  obtain ⟨c0, tl0, hmro⟩ := ft.mro
  have hmade := ft.made
  have hsub := ft.sub
  refine wpAny_call (codeAny_of_tree ?_)
  show wpAny _ _ (callAny (.type "enumerate") _) _ _ _
  refine wpAny_pure ⟨Code.quiet_builtin _ (by decide +kernel), codeAny_builtin F.entry_type_call ?_⟩
  rw [Around.under_plain (wt0 "enumerate" _ _) (un1 "enumerate" _ _)]
  have h1 := ft.notType
  have h2 := ft.canCreate
  repeat (any_goals (first | assumption | wp_step))
  refine codeAny_mono (codeAny_call_builtin ft.plain PySem.F.entry_enumerate_new (wpAny_of_eq hn (enum1_new ls vs nn dd ss tt prog w A.in1 (wants (fun obj s₁ => s₁.TypeIs obj "enumerate" ∧ Q obj s₁) E) s ⟨hls, ?_⟩))) fun r s₁ hr => ?_
  · let itO : Obj := { cls := .type "list_iterator", data := .fields #[.ref ls, .int 0 0] }
    let enO : Obj := { cls := .type "enumerate", data := .fields #[.none, .bool false, .ref s.heap.objs.size, rawInt 1, .none, .none] }
    have z1 : (s.heap.push itO).objs.size = s.heap.objs.size + 1 := Heap.size_push ..
    have he : IsEnum ((s.heap.push itO).push enO) (s.heap.objs.size + 1) s.heap.objs.size 1 .none := by
      have q := Heap.get?_push_size (s.heap.push itO) (o := enO) rfl
      rw [z1] at q
      exact q
    have hi : ((s.heap.push itO).push enO).IsListIter s.heap.objs.size ls 0 := ⟨_, Heap.get?_push_of_some _ (Heap.get?_push_size _ rfl), rfl, rfl⟩
    have fin := h _ he hi (by rw [Heap.size_push, z1]) fun b o q => Heap.get?_push_of_some _ (Heap.get?_push_of_some _ q)
    show Shared.TypeIs _ (.ref (s.heap.push itO).objs.size) "enumerate" ∧ Q (.ref (s.heap.push itO).objs.size) _
    rw [z1]
    exact ⟨⟨_, he, rfl⟩, fin⟩
  · cases r with
    | error e => exact hr
    | ok fl =>
      cases fl with
      | ret obj =>
        obtain ⟨hT, hq⟩ := hr
        have hli := ft.init.lookup
        have hbi := ft.init.bind obj
        repeat (any_goals (first | assumption | wp_step))
        refine codeAny_mono (codeAny_call_builtin ft.init.plain PySem.F.entry_object_init (ft.init.check _ _ _ _ _ _ _ _ hT (ho obj) (enum1_init prog w A.in1 (wants (fun r s₂ => r = .none ∧ Q obj s₂) E) s₁ ⟨hT, rfl, hq⟩))) fun r₂ s₂ hr₂ => ?_
        cases r₂ with
        | error e => exact hr₂
        | ok fl₂ =>
          cases fl₂ with
          | ret r =>
            obtain ⟨rfl, hq⟩ := hr₂
            repeat (any_goals (first | assumption | wp_step))
          | _ => exact hr₂.elim
      | _ => exact hr.elim
end
theorem draws_up {prog : Program} {w : World} {A : Around} {it : Addr} {fp : List Addr} {n : Nat} {P : Nat → Value → Prop} {St : Nat → Heap → Prop} (D : Draws prog w A it fp n P St) : Draws prog w A it fp (n + 1) (fun i v => ∃ j, i = j + 1 ∧ P j v) (fun i h => ∃ j, i = j + 1 ∧ St j h) where
  live := fun i h ⟨j, _, st⟩ => D.live j h st
  frame := fun i h h' ⟨j, e, st⟩ k => ⟨j, e, D.frame j h h' st k⟩
  item := fun i s Q E hi ⟨j, e, st⟩ hQ => D.item j s Q E (by omega) st fun x h' tk a b c => hQ x h' tk ⟨j, e, a⟩ ⟨j + 1, by omega, b⟩ c
  done := fun s Q E ⟨j, e, st⟩ hE => by
    have : j = n := by omega
    subst this
    exact D.done s Q E st hE
theorem draws_end {prog : Program} {w : World} {A : Around} (hh : A.handled = none) {it l : Addr} {items : Array Value} {i : Nat} (hx : items[i]? = none) (il : l ≠ it) : Draws prog w A it [it, l] i (fun _ _ => False) (fun j h => j = i ∧ (h.IsListIter it l i ∧ h.IsList l items)) where
  live := fun j h ⟨_, st, _⟩ => let ⟨o, ho, _⟩ := st; ⟨o, ho⟩
  frame := fun j h h' ⟨e, st, su⟩ k => ⟨e, st.at fun o q => k it (by simp) o q, su.at fun o q => k l (by simp) o q⟩
  item := fun j s Q E hj ⟨e, _⟩ _ => absurd e (Nat.ne_of_lt hj)
  done := fun s Q E ⟨_, st, su⟩ hE => wpAny_nextOf_list_end hh st su hx hE
/-- the list at l at each turn, each item behind its number, from 1 on -/
def ItE1 (K : PySem.W.Frag) (l : Addr) : It where
  go := fun i H => ∃ (xs : List V) (x : V), SqL K H l xs ∧ xs[i]? = some x
  yld := fun i H v H' => ∃ T x, v = .ref T ∧ H T = none ∧ H' = upd H T (.tup [.int ((i + 1 : Nat) : Int), x]) ∧ ∀ xs, SqL K H l xs → xs[i]? = some x
  stop := fun i H => ∃ xs : List V, SqL K H l xs ∧ xs.length ≤ i
theorem turn_enum1 {P : Program} {w : World} {K : PySem.W.Frag} {elts : List Expr} {kk : Nat} {tpos : Pos} (l e it : Addr) :
    Turn P w K (.Tuple elts kk tpos) (ItE1 K l) [e, it] e (fun i h => (∃ od, IsEnum h e it ((i + 1 : Nat) : Int) od) ∧ (h.IsListIter it l i ∧ e ≠ it)) where
  mem := List.mem_cons_self
  obj := fun i h st b hb => by
    obtain ⟨⟨od, q1⟩, ⟨o, q2, q3, q4⟩, _⟩ := st
    rcases List.mem_cons.mp hb with z | z
    · subst z; exact ⟨_, q1, fun v q => nomatch q⟩
    · rw [List.mem_singleton.mp z]; exact ⟨o, q2, fun v q => by rw [q4] at q; cases q⟩
  keep := fun i h h' st k => by
    obtain ⟨⟨od, q1⟩, q2, q3⟩ := st
    exact ⟨⟨od, k e List.mem_cons_self _ q1⟩, q2.at fun o q => k it (by simp) o q, q3⟩
  item := by
    rintro X rfl rfl rfl hc i pins s σ H E I hf ⟨⟨od, q1⟩, q2, q3⟩ ⟨ys, y, hsq, hy⟩
    obtain ⟨its, rv, pl, hz⟩ := I.list hsq
    obtain ⟨u, hu, ru⟩ := rv.get hy
    have hl := pl.isList
    have le : e < s.heap.objs.size := Heap.lt_size q1
    have li : it < s.heap.objs.size := by obtain ⟨_, q, _⟩ := q2; exact Heap.lt_size q
    have el : e ≠ l := fun z => by
      obtain ⟨o, ho, hcl, _⟩ := hl
      have e1 : s.heap.get? e = some _ := q1
      rw [z, ho] at e1
      have := Option.some.inj e1
      rw [this] at hcl
      exact absurd (Value.type.inj hcl) (by decide)
    have il : l ≠ it := fun z => by
      obtain ⟨o, ho, hcl, _⟩ := hl
      obtain ⟨o2, ho2, hc2, _⟩ := q2
      rw [z, ho2] at ho
      have := Option.some.inj ho
      rw [← this, hc2] at hcl
      exact absurd (Value.type.inj hcl) (by decide)
    have hlen : i < its.toArray.size := by
      have := (List.getElem?_eq_some_iff.mp hu).1
      simpa using this
    refine wpAny_pyNext_enum_itemD (i := i + 1) (draws_up (Draws.list (A := X.A.in1) (I.ok.hd hc) it l il its.toArray)) q1 ⟨i, rfl, q2, hl⟩ (by omega) q3 (by simp [q3, el]) fun x h' tk hP ho hst hT hsz hk => ?_
    obtain ⟨j, ej, hx⟩ := hP
    have ej : j = i := by omega
    subst ej
    have hxu : x = u := by
      have : its[j]? = some x := by simpa using hx
      rw [this] at hu
      exact Option.some.inj hu
    subst hxu
    obtain ⟨j', ej', hit', _⟩ := hst
    have ej' : j' = j + 1 := by omega
    subst ej'
    refine ⟨_, rfl, wpAny_letOwnedTupleGo_enum (s := { s with heap := h', toks := tk + 1 }) ho fun h2 he2 sb => ?_⟩
    have hT2 : h2.get? s.heap.objs.size = some { cls := .type "tuple", data := .seq #[.int ((j + 1 : Nat) : Int) tk, x] } := (sb.2 _ (Nat.ne_of_gt le)).trans hT
    have new : ObjOk X.prog X.w (upd H s.heap.objs.size (.tup [.int ((j + 1 : Nat) : Int), y])) h2 s.heap.objs.size (.tup [.int ((j + 1 : Nat) : Int), y]) :=
      ⟨(by decide : 2 ≤ sizeLine), [.int ((j + 1 : Nat) : Int) tk, x], .cons ⟨_, rfl⟩ (.cons ru .nil), ⟨_, hT2, rfl, _, rfl⟩⟩
    have I1 : Inv X pins σ (upd H s.heap.objs.size (.tup [.int ((j + 1 : Nat) : Int), y])) { s with heap := h2, toks := tk + 1 } :=
      I.turnedNew (ch := [e, it]) (fun b ob hb q => (sb.2 b fun z => hb (by rw [z]; exact List.mem_cons_self)).trans (hk b ob (fun z => hb (by rw [z]; exact List.mem_cons_self)) (fun z => hb (by simp [z])) q)) hf (Nat.le_refl _) new
    refine ⟨.ref s.heap.objs.size, _, I1, rfl, ⟨_, y, rfl, I.hok.fresh (Nat.le_refl _), rfl, fun zs hzs => by rw [I.list_inj hzs hsq]; exact hy⟩, ⟨⟨x, he2⟩, hit'.at fun o q => (sb.2 it q3.symm).trans q, q3⟩, fun b hb => ?_⟩
    have lb : b < s.heap.objs.size := by
      rcases List.mem_cons.mp hb with z | z
      · rw [z]; exact le
      · rw [List.mem_singleton.mp z]; exact li
    rw [upd_ne (Nat.ne_of_lt lb)]
    exact (hf b hb).1
  done := by
    rintro X rfl rfl rfl hc i pins s σ H E I hf ⟨⟨od, q1⟩, q2, q3⟩ ⟨ys, hsq, hy⟩
    obtain ⟨its, rv, pl, hz⟩ := I.list hsq
    obtain ⟨f0, f1, f2, f3, f4, f5⟩ := hf it (by simp)
    have hl := pl.isList
    have il : l ≠ it := fun z => by
      obtain ⟨o, ho, hcl, _⟩ := hl
      obtain ⟨o2, ho2, hc2, _⟩ := q2
      rw [z, ho2] at ho
      have := Option.some.inj ho
      rw [← this, hc2] at hcl
      exact absurd (Value.type.inj hcl) (by decide)
    have hx : its.toArray[i]? = none := by
      have := rv.length
      simp
      omega
    exact wpAny_pyNext_enum_endD (draws_end (A := X.A.in1) (I.ok.hd hc) hx il) q1 ⟨rfl, q2, hl⟩ fun h' eb => ⟨rfl, I.turned (t' := s.toks) (fun b o hb q => eb b o hb q) f0 f1 f3 f4 f5⟩
  self := fun A i s Q E st h => let ⟨⟨_, q⟩, _⟩ := st; wpAny_pyIter_enum q h
def iEnum1 (K : PySem.W.Frag) (ta tk : TA) : TI := fun σ H R => ta σ H fun vs H1 => tk σ H1 fun ks H2 => ∃ a xs, vs = [.ref a] ∧ (ks = [.int 1] ∧ (SqL K H2 a xs ∧ R (ItE1 K a) H2))
theorem callWith_tk {M : Model} {A : Around} {E : Value → Shared → Prop} {s : Shared} {env : Env} {pos : Pos} {T : String} {e : Expr} {rest : List Expr} {kws : List Keyword} {Q : Value → Shared → Prop}
    (h : wpAny M A (spliced (backTo pos (starEach (e :: rest) env))) (fun vs s1 => wpAny M A (evalAll ((backToKw pos (keywordEach kws env)).map (·.2))) (fun ws s2 => wpAny M A (call (.type T) vs (((backToKw pos (keywordEach kws env)).filterMap (·.1)).zip ws)) Q E s2) E s1) E s)
    (he : backTo pos (starEach (e :: rest) env) = (false, eval e env) :: backTo pos (starEach rest env)) (hp : (backTo pos (starEach (e :: rest) env)).any (·.1) = false)
    (ha : (backToKw pos (keywordEach kws env)).all (·.1.isSome) = true) (hn : (backToKw pos (keywordEach kws env)).any (·.1.isNone) = false) :
    wpAny M A (callWith pos (.type T) [] (backTo pos (starEach (e :: rest) env)) (backToKw pos (keywordEach kws env))) Q E s := by
  have h2 : wpAny M A (evalArgs (.type T) true (backTo pos (starEach (e :: rest) env)) (backToKw pos (keywordEach kws env))) (fun r s1 => wpAny M A (call (.type T) r.pos r.kw) Q E s1) E s := by
    rw [he] at h ⊢
    exact PyProof.Rows.evalArgs_kwB ha h
  unfold callWith
  refine wpAny_bind (wpAny_holding (wpAny_mono h2 (fun r s1 h1 => wpAny_bind (wpAny_standAt ?_)) fun _ _ z => z))
  simp only [hp, hn, Bool.or_false]
  refine wpAny_bind (wpAny_pure (wpAny_bind (wpAny_mono h1 (fun r2 s2 hr2 => wpAny_bind (wpAny_holding (wpAny_point (wpAny_pure hr2)))) fun _ _ z => z)))
theorem pi_enum1 {X : Cx} {e kv : Expr} {ta tk : TA} {p pos tpos kp : Pos} {elts : List Expr} {kk : Nat} (hg : Gl X "enumerate") (hm : X.mg "enumerate" = none) (ha : PA X [e] ta) (hk : PK X [⟨some "start", kv, kp⟩] tk)
    (he : backTo pos (starEach [e] X.env) = (false, eval e X.env) :: backTo pos (starEach [] X.env) := by rfl) (hp : (backTo pos (starEach [e] X.env)).any (·.1) = false := by rfl)
    (h1 : (backToKw pos (keywordEach [⟨some "start", kv, kp⟩] X.env)).all (·.1.isSome) = true := by rfl) (h2 : (backToKw pos (keywordEach [⟨some "start", kv, kp⟩] X.env)).any (·.1.isNone) = false := by rfl) :
    PI X (.Tuple elts kk tpos) (.Call (.Name "enumerate" p) [e] [⟨some "start", kv, kp⟩] pos) (iEnum1 X.K ta tk) := by
  refine ⟨fun pins s σ H R I h => ?_⟩
  refine wpAny_Call_Name_kw (ld_blt I hg hm boot_enumerate ?_)
  refine callWith_tk (thn (ha.run pos pins s σ H _ I h) fun us s1 ⟨vs, H1, I1, r1, q1⟩ => thn (hk.run pos pins s1 σ H1 _ I1 q1) fun ws s2 ⟨ks, H2, I2, r2, q2⟩ => ?_) he hp h1 h2
  obtain ⟨a, xs, rfl, rfl, hq, q⟩ := q2
  obtain ⟨u, rfl, ru⟩ := r1.one
  cases ru
  obtain ⟨u2, rfl, t, rfl⟩ := r2.one
  obtain ⟨its, rv, pl, hz⟩ := I2.list hq
  refine enum1_call pl.isList (by kernel_rfl) (by kernel_rfl) (fun obj => by unfold argsOk; kernel_rfl) fun h' he hi hsz hkp => wpAny_pyIter_enum he ?_
  have I3 : Inv X pins σ H2 { s2 with heap := h' } := I2.kept (t' := s2.toks) hkp
  refine ⟨s2.heap.objs.size + 1, [s2.heap.objs.size + 1, s2.heap.objs.size], _, _, H2, rfl, I3, turn_enum1 a (s2.heap.objs.size + 1) s2.heap.objs.size, ⟨⟨.none, he⟩, hi, Nat.succ_ne_self _⟩, fun b hb => ?_, q⟩
  have hle : s2.heap.objs.size ≤ b := by
    rcases List.mem_cons.mp hb with z | z
    · rw [z]; exact Nat.le_succ _
    · rw [List.mem_singleton.mp z]; exact Nat.le_refl _
  exact I2.fpOk hle (I2.hok.fresh hle)
def enu1 (ds : List D) : List D := ds.zipIdx.map fun p => .tup [.int ((p.2 + 1 : Nat) : Int), p.1]
theorem enu1_length (ds : List D) : (enu1 ds).length = ds.length := by simp [enu1]
theorem enu1_get {ds : List D} {i : Nat} {d : D} (h : (enu1 ds)[i]? = some d) : ∃ x, ds[i]? = some x ∧ d = .tup [.int ((i + 1 : Nat) : Int), x] := by
  unfold enu1 at h
  rw [List.getElem?_map, List.getElem?_zipIdx] at h
  cases e : ds[i]? with
  | none => rw [e] at h; cases h
  | some x =>
    rw [e] at h
    have h2 := Option.some.inj h
    refine ⟨x, rfl, ?_⟩
    rw [← h2, Nat.zero_add]
section
variable {K : PySem.W.Frag} {W : WX} {Γ : Gm} {μ : Mu} {X : XD} {E : En}
theorem wi_enum1 {te : TE} {P : List D → Mu → Prop} (h : We K W te Γ μ (fun d μ1 => ∃ ds, (d = .lst ds ∨ d = .sq ds) ∧ P (enu1 ds) μ1) X) : Wi K W (iEnum1 K (tCons te tNil) (tCons (tC (.int 1)) tNil)) Γ μ P X := by
  intro S σ H R a b c e
  refine h S σ H _ a b (fun d1 μ1 x S1 H1 p1 n1 a1 h1 => ?_) e
  obtain ⟨ds, hd, p⟩ := p1
  have : ∃ q xs, x = .ref q ∧ SqL K S1 q xs ∧ HasL K S1 ds xs := by
    rcases hd with rfl | rfl
    · unfold Has at h1
      obtain ⟨q, xs, e1, h2, h3⟩ := h1
      exact ⟨q, xs, e1, SqL.of h2, h3⟩
    · unfold Has at h1
      exact h1
  obtain ⟨q, xs, rfl, h2, h3⟩ := this
  refine ⟨q, xs, rfl, rfl, Same.seq a1.ex h2, c _ μ1 _ S1 H1 p n1 a1 ?_⟩
  intro i S2 H2 μ2 ss a2
  have h2' : SqL K H2 q xs := Same.seq a2.ex (Same.seq ss h2)
  refine ⟨fun d hd => ?_, fun hn => ?_⟩
  · obtain ⟨x, hx, rfl⟩ := enu1_get hd
    obtain ⟨y, hy, hdy⟩ := h3.get hx
    refine ⟨⟨xs, y, h2', hy⟩, fun z H3 yl => ?_⟩
    obtain ⟨T, y2, rfl, hT, rfl, hz⟩ := yl
    have hh := hz xs h2'
    rw [hy] at hh
    cases hh
    obtain ⟨n3, a3⟩ := a2.lay (.tup [.int ((i + 1 : Nat) : Int), y]) hT
    refine ⟨_, n3, a3, ?_⟩
    unfold Has
    refine ⟨T, _, rfl, SqT.of upd_same, .cons ?_ (.cons ((hdy.mono ss).mono n3.ss) .nil)⟩
    unfold Has
    rfl
  · refine ⟨xs, h2', ?_⟩
    rw [h3.length]
    have := List.getElem?_eq_none_iff.mp hn
    rw [enu1_length] at this
    exact this
/-- *e in a display -/
theorem wa_star {te : TE} {t : TA} {P : List D → Mu → Prop} (h : We K W te Γ μ (fun d μ1 => ∃ ds, (d = .lst ds ∨ d = .sq ds) ∧ Wa K W t Γ μ1 (fun es μ2 => P (ds ++ es) μ2) X) X) : Wa K W (StX.tStar K te t) Γ μ P X := by
  intro S σ H Q a b c e
  refine h S σ H _ a b (fun d1 μ1 x S1 H1 p1 n1 a1 h1 => ?_) e
  obtain ⟨ds, hd, p⟩ := p1
  have : ∃ q xs, x = .ref q ∧ SqL K S1 q xs ∧ HasL K S1 ds xs := by
    rcases hd with rfl | rfl
    · unfold Has at h1
      obtain ⟨q, xs, e1, h2, h3⟩ := h1
      exact ⟨q, xs, e1, SqL.of h2, h3⟩
    · unfold Has at h1
      exact h1
  obtain ⟨q, xs, rfl, h2, h3⟩ := this
  refine ⟨q, xs, rfl, .inr (Same.seq a1.ex h2), p S1 σ H1 _ a1 (b.mono n1.ss) (fun es μ2 ys S2 H2 p2 n2 a2 h4 => ?_) (e.nx n1)⟩
  exact c _ μ2 _ S2 H2 p2 (n1.trans n2) a2 ((h3.mono n2.ss).app h4)
end
theorem pa_starK {X : Cx} {K : PySem.W.Frag} (hK : X.K = K) {e : Expr} {es : List Expr} {te : TE} {t : TA} {p : Pos} (he : PE X e te) (hr : PA X es t) (hs : starEach (.Starred e p :: es) X.env = (true, eval e X.env) :: starEach es X.env := by rfl) : PA X (.Starred e p :: es) (StX.tStar K te t) := hK ▸ StX.pa_star he hr hs
theorem pi_enum1K {X : Cx} {K : PySem.W.Frag} (hK : X.K = K) {e kv : Expr} {ta tk : TA} {p pos tpos kp : Pos} {elts : List Expr} {kk : Nat} (hg : Gl X "enumerate") (hm : X.mg "enumerate" = none) (ha : PA X [e] ta) (hk : PK X [⟨some "start", kv, kp⟩] tk)
    (he : backTo pos (starEach [e] X.env) = (false, eval e X.env) :: backTo pos (starEach [] X.env) := by rfl) (hp : (backTo pos (starEach [e] X.env)).any (·.1) = false := by rfl)
    (h1 : (backToKw pos (keywordEach [⟨some "start", kv, kp⟩] X.env)).all (·.1.isSome) = true := by rfl) (h2 : (backToKw pos (keywordEach [⟨some "start", kv, kp⟩] X.env)).any (·.1.isNone) = false := by rfl) :
    PI X (.Tuple elts kk tpos) (.Call (.Name "enumerate" p) [e] [⟨some "start", kv, kp⟩] pos) (iEnum1 K ta tk) := hK ▸ pi_enum1 hg hm ha hk he hp h1 h2
/-! ### a classmethod read off its class; a class held by a local name -/
structure GCM (P : Program) (w : World) (K : PySem.W.Frag) (mg : Str → Option Value) (base : Heap) (C : Addr) (m : Str) (k : Nat) (ps : List Str) (sp : Sp) : Prop where
  rd : ClX.CRead K C (.type "type")
  ex : ∃ p g fd, ClX.CMet K C (.type "type") m p g ∧ L2.Binds K fd ps [] ∧ FnOk P w K mg base (L2.CX P w) k g fd ps sp
def tCMethD (C : Addr) (sp : Sp) (E : L2.St → XK) (ta : TE) (t : TA) : TE := fun σ H Q => ta σ H fun x H1 => x = .ref C ∧ t σ H1 fun vs H2 => sp (.ref C :: vs) H2 Q (E σ)
section
variable {X : Cx} {W : WX} {x m : Str} {C : Addr} {k i : Nat} {ps : List Str} {sp : Sp} {p pos apos : Pos} {e o : Expr} {es : List Expr} {t : TA} {ta : TE}
theorem code_fnS {CX : CXT} {f : Addr} {fd : FuncData} {E : L2.St → XK} {pins : List (Addr × Obj)} {σ : L2.St} {H : Hp} {s : Shared} {Q : VK} {us : List Value} {vs : List V} (F : FnOk X.prog X.w X.K X.mg X.base CX k f fd ps sp) (hr : Room k X.A) (hb : L2.Binds X.K fd ps []) (hx : PassesAt CX X σ (E σ))
    (I : L2.Inv X pins σ H s) (r : Vals vs us) (h : sp vs H Q (E σ)) : codeAny (model X.prog X.w) X.A (.call (.ref f) ⟨us, []⟩) (fun r s' => match r with | .ok (.ret v) => EP X pins σ Q v s' | .ok _ => False | .error e => X.xe e s') s := by
  have hl : us.length = ps.length := by rw [← r.length]; exact F.len _ _ _ _ h
  refine codeAny_mono (F.run X.A X.stack s H ⟨us, []⟩ us vs Q (E σ) hr I.env0 (by have b := hb s us I.kIn (by rw [List.append_nil]; exact hl); rw [List.append_nil] at b; exact b) r h) fun r s' hq => ?_
  cases r with
  | error e => exact hx pins H s e s' I hq
  | ok fl =>
    cases fl with
    | ret u => exact I.after hq
    | next => exact False.elim hq
    | brk => exact False.elim hq
    | cont => exact False.elim hq
theorem pe_gcm {pl : Sem Bool} (G : GCM X.prog X.w X.K X.mg X.base C m k ps sp) (hr : Room k X.A) (tk : Takes X W) (he : PE X o ta) (ha : PA X (e :: es) t)
    (hst : starEach (e :: es) X.env = (false, eval e X.env) :: starEach es X.env := by rfl) (hpl : (backTo pos (starEach es X.env)).any (·.1) = false := by rfl)
    (ht : eval (.Call (.Attribute o m apos) (e :: es) [] pos) X.env = (do
      let ov ← eval o X.env
      standAt apos.atName
      let (f, first) ← holding [ov] (getMethod ov m pl)
      callWith pos f first (backTo pos (starEach (e :: es) X.env)) (backToKw pos (keywordEach [] X.env))) := by rfl) :
    PE X (.Call (.Attribute o m apos) (e :: es) [] pos) (tCMethD C sp (L2.WE W) ta t) := by
  obtain ⟨rd, p, g, fd, c, hb, F⟩ := G
  refine ⟨fun pins s σ H Q I h => ?_⟩
  refine PySem.W.methodCall_KW (pl := pl) (thn (he.run pins s σ H _ I h) fun u s1 ⟨y, H1, I1, rx, ex, q⟩ => ?_) ht
  subst ex
  obtain rfl : u = Value.ref C := rx
  refine ClX.getmethcm_ok I1 rd c fun s2 I2 => ?_
  refine ClX.callwith_cm I2 (ClX.base_none I1 (Nat.le_refl _)) c.fi (thn (ha.run pos _ s2 σ H1 _ I2 q) fun us s3 ⟨vs, H2, I3, rv, q2⟩ => ⟨⟨ClX.pin_at I3, I3.kIn⟩, ?_⟩) hst hpl
  have z := wpAny_call (PySem.W.method_call (ClX.pin_at I3) (code_fnS (E := L2.WE W) (us := .ref C :: us) (vs := .ref C :: vs) F hr hb (passAt tk σ) I3 (.cons rfl rv) q2))
  exact thn z fun _ _ y => ClX.unpinE y
/-- x(..), x a local name that holds the class at C -/
def tMakeV (i : Nat) (C : Addr) (sp : Sp) (E : L2.St → XK) (t : TA) : TE := fun σ H Q => σ[i]? = some (some (.ref C)) ∧ tMakeD C sp [] E t σ H Q
theorem pe_gcv {y : Str} (G : GC X.prog X.w X.K X.mg X.base y C k ps sp) (hr : Room (k + 1) X.A) (tk : Takes X W) (hN : X.N[i]? = some x) (ha : PA X (e :: es) t)
    (hv : Vis X.env.scope x := by first | exact Or.inl rfl | exact Or.inr (Or.inl rfl) | exact Or.inr (Or.inr rfl)) (hdb : (x == ("__debug__" : Str)) = false := by decide) (hcd : (x == ("__classdict__" : Str)) = false := by decide)
    (he : starEach (e :: es) X.env = (false, eval e X.env) :: starEach es X.env := by rfl) (hpl : (backTo pos (starEach es X.env)).any (·.1) = false := by rfl) :
    PE X (.Call (.Name x p) (e :: es) [] pos) (tMakeV i C sp (L2.WE W) t) := by
  obtain ⟨_, f, fd, M, hb, F⟩ := G
  refine ⟨fun pins s σ H Q I h => ?_⟩
  obtain ⟨hs, h⟩ := h
  refine wpAny_Call_Name_kw (thn ((pe_var (pos := p) (i := i) hN hv hdb hcd).run pins s σ H (fun v H1 => v = .ref C ∧ H1 = H) I ⟨.ref C, hs, rfl, rfl⟩) fun u s1 ⟨v, H1, I1, r1, ev, eH⟩ => ?_)
  subst ev
  rw [eH] at I1
  cases r1
  refine PySem.W.callWith_K (h₀ := X.base) I.ok.mod.kin M.kp (thn (ha.run pos pins s1 σ H _ I1 h) fun us s2 ⟨vs, H2, I2, r, q⟩ => ?_) he hpl
  exact ⟨I2.kIn, run_makeD M F hr hb .nil (passAt tk σ) I2 r q⟩
end
section
variable {K : PySem.W.Frag} {W : WX} {Γ : Gm} {μ : Mu} {X : XD} {E : En}
theorem we_cm {C : Addr} {sd : SpD} {ta : TE} {t : TA} {P : PD} (h : We K W ta Γ μ (fun d μ1 => d = .ref C ∧ Wa K W t Γ μ1 (fun ds μ2 => sd (.ref C :: ds) μ2 P X) X) X) : We K W (tCMethD C (toSp K sd) (L2.WE W) ta t) Γ μ P X := by
  intro S σ H Q a b c e
  refine h S σ H _ a b (fun d μ1 x S1 H1 p1 n1 a1 h1 => ?_) e
  obtain ⟨rfl, p1⟩ := p1
  refine ⟨h1.ref_inv, p1 S1 σ H1 _ a1 (b.mono n1.ss) (fun d2 μ2 y S2 H2 p2 n2 a2 h6 => ?_) (e.nx n1)⟩
  exact ⟨S2, _, μ2, P, X, a2, .cons .ref h6, p2, c.nx (n1.trans n2), e.nx (n1.trans n2)⟩
theorem we_makeV {i : Nat} {C : Addr} {sd : SpD} {t : TA} {P : PD} (hi : Γ[i]? = some (some (.ref C))) (h : We K W (tMakeD C (toSp K sd) [] (L2.WE W) t) Γ μ P X) : We K W (tMakeV i C (toSp K sd) (L2.WE W) t) Γ μ P X := by
  intro S σ H Q a b c e
  obtain ⟨v, h1, h2⟩ := b.get hi
  rw [h2.ref_inv] at h1
  exact ⟨h1, h S σ H Q a b c e⟩
end
end Nm
/-! D16: an exception in hand is handed to a function; list.count of bools; list.pop. -/
namespace Nm
open PySem PySem.Spec PyProof.Rows L2
section
variable {X : Cx} {K : PySem.W.Frag} {a : Addr} {oe : Obj} {cls : Value} {d : Option Addr}
theorem pe_xsP (hK : X.K = K) (hp : (a, oe) ∈ X.pn) (hz : Zc cls d oe) (hf : ∃ vs, oe.data = .fields vs) {e : Expr} {te : TE} {pos : Pos} {n : Str} (he : PE X e te)
    (hb : attributeBase e n X.env (eval e X.env) = eval e X.env := by rfl) : PE X (.Attribute e n pos) (tXs K a cls d n te) := by
  subst hK
  constructor
  intro pins s σ H Q I h
  refine attr_of hb (thn (he.run pins s σ H _ I h) fun u s1 hh => ?_)
  obtain ⟨x, H1, I1, rx, C, dd, fs, v, T, hno, rfl, rfl, rfl, ea, l, q⟩ := hh
  cases rx
  have ha := (I1.pin (a, oe) (List.mem_append_left _ hp)).1
  obtain ⟨vs, hd⟩ := hf
  obtain ⟨mA, hns, hr⟩ := (show ObjOk X.prog X.w H1 s1.heap dd (.xd fs) from I1.hok dd _ ea)
  obtain ⟨od, ho, hl⟩ := lookIn_ns hns
  obtain ⟨u, hu, ru⟩ := RelO.some_of (v := v) (o := mA n) (l ▸ hr n)
  exact HandSPX.exc_get I1.kIn (od := od) (ox := oe) ⟨ha, hz.1, by unfold PySem.W.notCls; rw [hd] <;> rfl, hz.2 ▸ ho⟩ T.ga T.gg T.exC (PySem.W.findObj_own T.hdC hno rfl (by rw [hl, hu])) (handed_of ru) ⟨v, H1, I1.tok _, ru, q⟩
theorem call_isXP (hK : X.K = K) (hp : (a, oe) ∈ X.pn) (hz : Zc cls d oe) (hf : ∃ vs, oe.data = .fields vs) : CallR X (.builtin "isinstance") (rIsX K cls d a) := by
  subst hK
  intro pins s σ H xs us Q I r h
  obtain ⟨D, dd, fs, c, cv, b, C, rfl, rfl, hdd, rfl, hcv, e, q⟩ := h
  cases r with
  | cons rx rr =>
    cases rr with
    | cons rt rr =>
      cases rr
      cases rx
      cases hcv _ rt
      have hget := (I.pin (a, oe) (List.mem_append_left _ hp)).1
      obtain ⟨vs, hv⟩ := hf
      obtain ⟨mA, hns, hr⟩ := (show ObjOk X.prog X.w H s.heap dd (.xd fs) from I.hok dd _ hdd)
      obtain ⟨od, ho, hl⟩ := lookIn_ns hns
      exact PySem.W.kia_one (PySem.W.kitx_nm (ox := oe) (od := od) C.hg C.hk C.hs C.hd C.ha C.hn C.ht C.hm) I.kIn ⟨hget, hz.1, by unfold PySem.W.notCls; rw [hv] <;> rfl, hz.2 ▸ ho⟩ e (fun z => nomatch z) fun tk => ⟨.bl b, H, I.kept (t' := tk) fun _ _ z => z, rfl, q⟩
end
theorem roomH_units {k : Nat} {A : Around} (r : L2H.RoomH k A) : A.units + 64 < cLine := by have := r.un; omega
theorem roomH_units5 {k : Nat} {A : Around} (r : L2H.RoomH k A) : A.units + 65 < cLine := by have := r.un; omega
theorem roomH_mark {k : Nat} {A : Around} {v : Option Value} (r : Room k A) : L2H.RoomH k (A.mark v) := ⟨r.dp, r.un⟩
section
variable (P : Program) (w : World) (K : PySem.W.Frag) (mg : Str → Option Value) (base : Heap)
/-- a def that is called while the exception p is in hand -/
structure FnP (k : Nat) (f : Addr) (fd : FuncData) (ps : List Str) (p : Addr × Obj) (sp : Sp) : Prop where
  len : ∀ vs H Q E, sp vs H Q E → vs.length = ps.length
  run : ∀ (A : Around) (outer : List Env) (s : Shared) (H : Hp) (args : Args) (us : List Value) (vs : List V) (Q : VK) (E : XK), L2H.RoomH k A → L2H.PinOk outer H s p → Env0 P w K mg base A outer s H → BindsTo s fd args (ps.zip us) → Vals vs us → sp vs H Q E →
    codeAny (model P w) A (.call (.ref f) args) (CR (L2.CX P w) outer P w H s Q E) s
structure GE (x : Str) (k : Nat) (ps : List Str) (sp : Addr → Value → Option Addr → Sp) : Prop where
  ex : ∃ f fd, mg x = some (.ref f) ∧ PySem.W.keepIn K (.ref f) = true ∧ L2.Binds K fd ps [] ∧ ∀ (a : Addr) (oe : Obj) (cls : Value) (d : Option Addr), Zc cls d oe → (∃ vs, oe.data = .fields vs) → FnP P w K mg base k f fd ps (a, oe) (sp a cls d)
end
section
variable {P : Program} {w : World} {K : PySem.W.Frag} {mg : Str → Option Value} {base : Heap}
theorem fnP_of {k : Nat} {f : Addr} {name qual : Str} {params : Arguments} {body : List Stmt} {scope : Scope} {dvs : List V} {kws : List (Str × V)} {fd : FuncData} {N ps : List Str} {sp : Sp} {p : Addr × Obj} (F : FunD K name qual params body scope dvs kws f fd) (S : FnScope N ps scope)
    (len : ∀ vs H Q E, sp vs H Q E → vs.length = ps.length)
    (hbody : ∀ (cdv : Value) (A : Around) (outer : List Env) (s : Shared) (H : Hp) (vs : List V) (Q : VK) (E : XK), L2H.RoomH k (A.deeper (envOfC qual scope s.heap.objs.size f cdv)) → sp vs H Q E →
      ∃ t, PSs (L2H.cxH (L2.CX P w) P w K mg base N qual scope f cdv A outer s H E p) body t ∧ t { nx := fun _ H' => Q .non H', rt := Q } (L2.start N vs) H) : FnP P w K mg base (k + 1) f fd ps p sp := by
  obtain ⟨oc, od, dV, kV, doc, pm, an, cdv, ct, osl, rfl, lk, hcd, _, _⟩ := F.ex
  constructor
  · exact len
  intro A outer s H args us vs Q E hr hpin e0 hb r hsp
  have KX : K.In s.heap := e0.mod.kin.keeps fun b o e => (e0.bs b o e).1
  have kinds : ∀ y ∈ ps.zip us, scope.names.lookup y.1 = some .local ∨ (scope.names.lookup y.1 = some .cell ∧ ((cellsFrom (s.heap.objs.size + 1) scope.names []).lookup y.1).isSome = true) := by
    rintro ⟨n, v⟩ hy
    exact (S.par n (List.of_mem_zip hy).1).imp id fun q => ⟨q, PySem.W.cellsFrom_some _ _ _ (.inl q)⟩
  refine codeAny_call_function hr.depth (KX _ _ lk) rfl S.co S.gen rfl (PySem.W.codeRec_of KX hcd) (hb _ _ _ _ (wpAny_newFunctionEnv_cells S.kind kinds fun env he s1 x => ?_))
  subst he
  refine ⟨(e0.mod.nolimit.keeps fun b o e => (e0.bs b o e).1).keeps x.toInCall.keep, codeAny_func ?_⟩
  obtain ⟨t, ht, hq⟩ := hbody cdv A outer s H vs Q E (hr.deeper _) hsp
  refine wpAny_mono (ht.run [] s1 (L2.start N vs) H _ (L2H.inv_startH S hpin e0 (len _ _ _ _ hsp) r x) hq) ?_ fun e s' hs => hs
  intro fl s' hs
  cases fl with
  | next =>
    obtain ⟨σ', H', J, q⟩ := hs
    exact ⟨V.non, H', J.os, J.bare, J.base, J.hok, (rfl : Value.none = Value.none), q⟩
  | ret u =>
    obtain ⟨v, σ', H', J, rv, q⟩ := hs
    exact ⟨v, H', J.os, J.bare, J.base, J.hok, rv, q⟩
  | brk =>
    obtain ⟨_, _, _, q⟩ := hs
    exact q.elim
  | cont =>
    obtain ⟨_, _, _, q⟩ := hs
    exact q.elim
/-- THE RULE for such a def -/
theorem fun_okP {x qual : Str} {params : Arguments} {body : List Stmt} {scope : Scope} {dvs : List V} {kws : List (Str × V)} {f : Addr} {fd : FuncData} {N ps : List Str} {k : Nat} {sd : SpD} {p : Addr × Obj}
    (F : FunD K x qual params body scope dvs kws f fd) (S : FnScope N ps scope) (len : ∀ ds μ P X, sd ds μ P X → ds.length = ps.length)
    (h : ∀ (cdv : Value) (A : Around) (outer : List Env) (s : Shared) (H : Hp) (E : XK), L2H.RoomH k (A.deeper (envOfC qual scope s.heap.objs.size f cdv)) → ∃ t, PSs (L2H.cxH (L2.CX P w) P w K mg base N qual scope f cdv A outer s H E p) body t ∧
      ∀ ds μ Pd X, sd ds μ Pd X → Ws K (wOf E) t (ds.map some ++ List.replicate (N.length - ds.length) none) μ (retE Pd X)) : FnP P w K mg base (k + 1) f fd ps p (toSp K sd) :=
  fnP_of F S (toSp_len len) fun cdv A outer s H vs Q E hr q => by
    obtain ⟨t, ht, hw⟩ := h cdv A outer s H E hr
    exact ⟨t, ht, body_ok hw q⟩
theorem ge_of {f : Addr} {fd : FuncData} {x : Str} {k : Nat} {ps : List Str} {sp : Addr → Value → Option Addr → Sp} (hm : mg x = some (.ref f)) (hk : PySem.W.keepIn K (.ref f) = true) (hb : L2.Binds K fd ps [])
    (h : ∀ (a : Addr) (oe : Obj) (cls : Value) (d : Option Addr), Zc cls d oe → (∃ vs, oe.data = .fields vs) → FnP P w K mg base k f fd ps (a, oe) (sp a cls d)) : GE P w K mg base x k ps sp := ⟨f, fd, hm, hk, hb, h⟩
end
section
variable {X : Cx} {K : PySem.W.Frag} {mg : Str → Option Value} {x : Str} {k : Nat} {ps : List Str} {sp : Addr → Value → Option Addr → Sp} {p pos : Pos} {e : Expr} {es : List Expr} {t : TA} {a : Addr} {oe : Obj} {cls : Value} {d : Option Addr} {W : WX}
theorem pe_ge (hK : X.K = K) (hm : X.mg = mg) (hp : (a, oe) ∈ X.pn) (hz : Zc cls d oe) (hf : ∃ vs, oe.data = .fields vs) (G : GE X.prog X.w K mg X.base x k ps sp) (hr : L2H.RoomH k X.A) (tk : Takes X W) (ha : PA X (e :: es) t) (hg : Gl X x := by rfl) (hdb : (x == ("__debug__" : Str)) = false := by decide)
    (he : starEach (e :: es) X.env = (false, eval e X.env) :: starEach es X.env := by rfl) (hpl : (backTo pos (starEach es X.env)).any (·.1) = false := by rfl) :
    PE X (.Call (.Name x p) (e :: es) [] pos) (tCallSD (sp a cls d) [] (L2.WE W) t) := by
  subst hK hm
  obtain ⟨f, fd, hmf, hk, hb, F⟩ := G
  have F := F a oe cls d hz hf
  constructor
  intro pins s σ H Q I h
  refine wpAny_Call_Name_kw (ld_glob I hg hmf ?_ hdb)
  refine PySem.W.callWith_K (h₀ := X.base) I.ok.mod.kin hk (thn (ha.run pos pins s σ H _ I h) fun us s1 ⟨vs, H1, I1, r, q⟩ => ⟨I1.kIn, ?_⟩) he hpl
  replace q : sp a cls d (vs ++ []) H1 Q (L2.WE W σ) := q
  rw [List.append_nil] at q
  have P1 := I1.pin (a, oe) (List.mem_append_left _ hp)
  have hl : us.length = ps.length := by rw [← r.length]; exact F.len _ _ _ _ q
  have b := hb s1 us I1.kIn (by rw [List.append_nil]; exact hl)
  rw [List.append_nil] at b
  refine wpAny_call (codeAny_mono (F.run X.A X.stack s1 H1 ⟨us, []⟩ us vs Q _ hr ⟨P1.1, P1.2.1, fun hm => (List.mem_cons.mp (I1.stkSub a hm)).elim P1.2.2.1 P1.2.2.2.1, P1.2.2.2.2⟩ I1.env0 b r q) fun r s' hq => ?_)
  cases r with
  | error e => exact passAt tk σ pins H1 s1 e s' I1 hq
  | ok fl =>
    cases fl with
    | ret u => exact I1.after hq
    | next => exact hq.elim
    | brk => exact hq.elim
    | cont => exact hq.elim
end
end Nm
namespace Nm
open PySem PySem.Spec PyProof.Rows L2
/-! ### own operators that may raise -/
/-- two own objects are handed to sp -/
def twoO (C : Addr) (sp : Sp) (x y : V) (H : Hp) (Q : VK) (E : XK) : Prop := ∃ a b dx dy fs gs, x = .ref a ∧ y = .ref b ∧ H a = some (.ins C dx fs) ∧ H b = some (.ins C dy gs) ∧ sp [.ref a, .ref b] H Q E
def tBinX (C : Addr) (sp : Sp) (E : L2.St → XK) (ta tb : TE) : TE := fun σ H Q => ta σ H fun x H1 => tb σ H1 fun y H2 => twoO C sp x y H2 Q (E σ)
def blE (Q : VK) : VK := fun v H => ∃ b : Bool, v = .bl b ∧ Q (.bl b) H
def tCmpX (C : Addr) (sp : Sp) (E : L2.St → XK) (ta tb : TE) : TE := fun σ H Q => ta σ H fun x H1 => tb σ H1 fun y H2 => twoO C sp x y H2 (blE Q) (E σ)
def tAugX (i : Nat) (te : TE) (C : Addr) (sp : Sp) (E : L2.St → XK) : TS := fun D σ H => ∃ x, σ[i]? = some (some x) ∧ te σ H fun y H1 => twoO C sp x y H1 (fun z H2 => D.nx (σ.set i (some z)) H2) (E σ)
section
variable {X : Cx} {K : PySem.W.Frag} {mg : Str → Option Value} {C : Addr} {k : Nat} {sp : Sp} {ps : List Str} {W : WX} {a b : Expr} {ta tb : TE} {pos : Pos}
theorem pe_binX {op : Operator} {m : Str} (hm : PySem.dunder op.info.2 = m) (hK : X.K = K) (hg : X.mg = mg) (hc : PySem.W.selfFirst K C = true) (hr : Room k X.A) (tk : Takes X W) (G : GS X.prog X.w K mg X.base C m k ps sp) (ha : PE X a ta) (hb : PE X b tb) :
    PE X (.BinOp a op b pos) (tBinX C sp (L2.WE W) ta tb) := by
  subst hK hg
  refine ⟨fun pins s σ H Q I h => wpAny_BinOp (binT ha hb I h fun v u s2 x y H2 I2 rx ry q => ?_)⟩
  obtain ⟨a, b, dx, dy, fs, gs, rfl, rfl, ea, eb, q⟩ := q
  cases rx
  cases ry
  obtain ⟨f, fd, ⟨hs, hf⟩, hbn, F⟩ := G.ex
  obtain ⟨_, J, _⟩ := ins_get I2.hok ea
  obtain ⟨od, J, _⟩ := J.look
  obtain ⟨_, J', _⟩ := ins_get I2.hok eb
  obtain ⟨od', J', _⟩ := J'.look
  obtain ⟨m0, hF⟩ := I2.fr
  refine PySem.W.binop_K (op := op) hF I2.ok.mod.kin J J'.type hc (by rw [hm]; exact hs) hf (wpAny_mono (own_run (us := [.ref a, .ref b]) (vs := [.ref a, .ref b]) (⟨hr, rfl⟩ : Sub X k X.A) F hbn (passAt tk σ) I2 (.cons rfl (.cons rfl .nil)) q) (fun u s' hq => ?_) fun _ _ z => z)
  obtain ⟨v', H', I', rv, q⟩ := hq
  exact back_ok rv ⟨v', H', I', rv, q⟩
theorem pe_cmpX {op : CmpOp} {m : Str} (hm : (cmpInfo op).2.1 = m) (hop : ∀ u v, compareOp op u v = richCompare op u v) (hK : X.K = K) (hg : X.mg = mg) (hr : Room k X.A) (tk : Takes X W) (G : GS X.prog X.w K mg X.base C m k ps sp) (ha : PE X a ta) (hb : PE X b tb) (hmk : behindInMarks op b = false) :
    PE X (.Compare a [op] [b] pos) (tCmpX C sp (L2.WE W) ta tb) := by
  subst hK hg
  refine ⟨fun pins s σ H Q I h => wpAny_Compare1 (binT ha hb I h fun v u s2 x y H2 I2 rx ry q => ?_) hmk⟩
  obtain ⟨a, b, dx, dy, fs, gs, rfl, rfl, ea, eb, q⟩ := q
  cases rx
  cases ry
  obtain ⟨f, fd, ⟨hs, hf⟩, hbn, F⟩ := G.ex
  obtain ⟨_, J, _⟩ := ins_get I2.hok ea
  obtain ⟨od, J, _⟩ := J.look
  obtain ⟨_, J', _⟩ := ins_get I2.hok eb
  obtain ⟨od', J', _⟩ := J'.look
  obtain ⟨m0, hF⟩ := I2.fr
  rw [hop]
  refine PySem.W.cmp_K (op := op) (tb := .ref C) hr.units0 hF I2.ok.mod.kin J J'.type (by simp [PySem.W.notFirst]) (by rw [hm]; exact hs) hf (wpAny_mono (own_run (us := [.ref a, .ref b]) (vs := [.ref a, .ref b]) (⟨hr, rfl⟩ : Sub X k X.A) F hbn (passAt tk σ) I2 (.cons rfl (.cons rfl .nil)) q) (fun u s' hq => ?_) fun _ _ z => z)
  obtain ⟨v', H', I', rv, b, rfl, q⟩ := hq
  cases rv
  exact ⟨.bl b, H', I', rfl, q⟩
theorem ps_augX {op : Operator} {m : Str} {i : Nat} {x : Str} {e : Expr} {te : TE} {pos' : Pos} (hm : PySem.dunderI op.info.2 = m) (hK : X.K = K) (hg : X.mg = mg) (hc : PySem.W.selfFirst K C = true) (hr : Room k X.A) (tk : Takes X W) (G : GS X.prog X.w K mg X.base C m k ps sp)
    (hN : X.N.Nodup) (hi : X.N[i]? = some x) (hx : Loc X.env.scope x) (he : PE X e te) (hf : X.fn x = true ∨ X.env.scope.names.lookup x = some .local := by first | exact .inl rfl | exact .inr rfl | assumption) :
    PS X (.AugAssign (.Name x pos') op e pos) (tAugX i te C sp (L2.WE W)) := by
  subst hK hg
  constructor
  intro pins s σ H D I ⟨v, e1, h⟩
  obtain ⟨m1, hn, hl⟩ := I.loc
  obtain ⟨u, r, l⟩ := hl i x v hi e1 (hx.elim .inl fun k => .inr (.inl k))
  have go : wpAny (model X.prog X.w) X.A (eval e X.env) (fun z s₂ => wpAny (model X.prog X.w) X.A (inplaceOp op u z) (fun r s₃ => wpAny (model X.prog X.w) X.A (storeName X.env x r) (fun _ => SP X pins D .next) X.xe s₃) X.xe s₂) X.xe s := by
    refine thn (he.run pins s σ H _ I h) fun z s1 ⟨y, H1, I1, r1, q1⟩ => ?_
    obtain ⟨a, b, dx, dy, fs, gs, rfl, rfl, ea, eb, q⟩ := q1
    cases r
    cases r1
    obtain ⟨f, fd, ⟨hs, hf'⟩, hbn, F⟩ := G.ex
    obtain ⟨_, J, _⟩ := ins_get I1.hok ea
    obtain ⟨od, J, _⟩ := J.look
    refine thn (Q := fun r s₃ => EP X pins σ (fun z H2 => D.nx (σ.set i (some z)) H2) r s₃) (inplace_K (op := op) I1.kIn J hc (by rw [hm]; exact hs) hf' (wpAny_mono (own_run (us := [.ref a, .ref b]) (vs := [.ref a, .ref b]) (⟨hr, rfl⟩ : Sub X k X.A) F hbn (passAt tk σ) I1 (.cons rfl (.cons rfl .nil)) q) (fun u s' hq => ?_) fun _ _ z => z)) fun z s2 hz => ?_
    · obtain ⟨v', H', I', rv, q⟩ := hq
      exact back_ok rv ⟨v', H', I', rv, q⟩
    · obtain ⟨zv, H2, I2, r2, q2⟩ := hz
      exact store_ok I2 hN hi hx r2 (fun s3 I3 => ⟨_, H2, I3, q2⟩) hf
  have nofree : X.env.scope.names.lookup x ≠ some .free := fun z => by rcases hx with k | k <;> (rw [k] at z; cases z)
  refine wpAny_AugAssign_Name ?_
  rcases l with ⟨hk, hm⟩ | ⟨hk, c, hc, hcell⟩
  · exact wpAny_loadName_local I.ok.kind hk hn hm go
  · exact hk.elim (fun hk => wpAny_loadName_cell I.ok.kind hk hc hcell go) fun hk => absurd (show X.env.scope.names.lookup x = some .free from hk) nofree
end
section
variable {K : PySem.W.Frag} {W : WX} {Γ : Gm} {μ : Mu} {X : XD} {E : En} {C : Addr} {sd : SpD}
/-- what is asked of two own objects that are handed to sd -/
def dBinX (C : Addr) (sd : SpD) : D → D → Mu → PD → XD → Prop := fun d1 d2 μ P X => ob μ d1 (fun _ k _ _ => k = C) ∧ ob μ d2 (fun _ k _ _ => k = C) ∧ sd [d1, d2] μ P X
theorem twoO_ok {S H : Hp} {x y : V} {d1 d2 : D} {P : PD} {Q : VK} {E : XK} (a : Asr K S H μ) (h1 : Has K S d1 x) (h2 : Has K S d2 y) (h : dBinX C sd d1 d2 μ P X) (c : Post K S H μ P Q) (e : PostXE K S H μ X E) : twoO C (toSp K sd) x y H Q E := by
  obtain ⟨q, k, ns, fs, dx, zs, rfl, e2, e3, e4, rfl⟩ := ob_ok a h1 h.1
  obtain ⟨q', k', ns', fs', dx', zs', rfl, e2', e3', e4', rfl⟩ := ob_ok a h2 h.2.1
  exact ⟨q, q', dx, dx', _, _, rfl, rfl, e2, e2', S, _, μ, P, X, a, .cons h1 (.cons h2 .nil), h.2.2, c, e⟩
theorem we_binX {ta tb : TE} {P : PD} (h : We K W ta Γ μ (fun d1 μ1 => We K W tb Γ μ1 (fun d2 μ2 => dBinX C sd d1 d2 μ2 P X) X) X) : We K W (tBinX C (toSp K sd) (L2.WE W) ta tb) Γ μ P X := by
  intro S σ H Q a b c e
  refine h S σ H _ a b (fun d1 μ1 x S1 H1 p1 n1 a1 h1 => ?_) e
  refine p1 S1 σ H1 _ a1 (b.mono n1.ss) (fun d2 μ2 y S2 H2 p2 n2 a2 h2 => ?_) (e.nx n1)
  exact twoO_ok a2 (h1.mono n2.ss) h2 p2 (c.nx (n1.trans n2)) (e.nx (n1.trans n2))
theorem we_cmpX {ta tb : TE} {P : PD} (h : We K W ta Γ μ (fun d1 μ1 => We K W tb Γ μ1 (fun d2 μ2 => dBinX C sd d1 d2 μ2 (fun z μ3 => ∃ b : Bool, z = .bl b ∧ P (.bl b) μ3) X) X) X) : We K W (tCmpX C (toSp K sd) (L2.WE W) ta tb) Γ μ P X := by
  intro S σ H Q a b c e
  refine h S σ H _ a b (fun d1 μ1 x S1 H1 p1 n1 a1 h1 => ?_) e
  refine p1 S1 σ H1 _ a1 (b.mono n1.ss) (fun d2 μ2 y S2 H2 p2 n2 a2 h2 => ?_) (e.nx n1)
  refine twoO_ok a2 (h1.mono n2.ss) h2 p2 (fun z μ3 zv S3 H3 p3 n3 a3 h3 => ?_) (e.nx (n1.trans n2))
  obtain ⟨k, rfl, p3⟩ := p3
  rw [h3.bl_inv]
  exact ⟨k, rfl, c _ _ _ S3 H3 p3 ((n1.trans n2).trans n3) a3 .bl⟩
theorem ws_augX {te : TE} {i : Nat} {d1 : D} (hx : Γ[i]? = some (some d1)) (h : We K W te Γ μ (fun d2 μ1 => dBinX C sd d1 d2 μ1 (fun z μ2 => E.nx (Γ.set i (some z)) μ2) (fun c s μ1 => E.ex c s Γ μ1)) (fun c s μ1 => E.ex c s Γ μ1)) : Ws K W (tAugX i te C (toSp K sd) (L2.WE W)) Γ μ E := by
  intro S σ H Dn a b c
  obtain ⟨v, h1, h2⟩ := b.get hx
  refine ⟨v, h1, h S σ H _ a b (fun d2 μ1 y S1 H1 p1 n1 a1 h3 => ?_) (c.xx b)⟩
  refine twoO_ok a1 (h2.mono n1.ss) h3 p1 (fun z μ2 zv S2 H2 p2 n2 a2 h4 => ?_) ((c.xx b).nx n1)
  exact c.nx _ _ _ S2 H2 p2 (n1.trans n2) a2 ((b.mono (n1.trans n2).ss).set h4 i)
end
/-! ### list.count of bools -/
def rCntB (K : PySem.W.Frag) : V → List V → Hp → VK → Prop := fun x xs H Q => ∃ (p : Addr) (bs : List Bool) (k : Bool), x = .ref p ∧ xs = [.bl k] ∧ SqL K H p (bs.map V.bl) ∧ Q (.int (bs.count k : Nat)) H
theorem bools_of_vals : ∀ {bs : List Bool} {us : List Value}, Vals (bs.map V.bl) us → us = bs.map Value.bool
  | [], us, h => by cases h; rfl
  | b :: r, us, h => by
    cases h with
    | cons h1 h2 => rw [bools_of_vals h2, show _ = Value.bool b from h1]; rfl
def isB (k : Bool) : Value → Bool
  | .bool b => b == k
  | _ => false
theorem count_bools (k : Bool) : ∀ bs : List Bool, (bs.map Value.bool).countP (isB k) = bs.count k
  | [] => rfl
  | b :: r => by rw [List.map_cons, List.countP_cons, List.count_cons, count_bools k r]; rfl
theorem mt_countB {X : Cx} : MtR X "list.count" (rCntB X.K) := by
  intro pins s σ H x xs v us Q I rx rxs h
  obtain ⟨p, bs, k, rfl, rfl, hs, q⟩ := h
  cases rx
  obtain ⟨u, rfl, ru⟩ := rxs.one
  cases ru
  obtain ⟨its, rv, ⟨⟨cls, dd, data, sl⟩, n, ho, hc, hdn, hd⟩, hlen⟩ := I.list hs
  simp only at hc hd
  subst hc hd
  have hi := bools_of_vals rv
  subst hi
  refine call_meets PySem.F.slot_list_count ⟨_, ho, rfl⟩ PySem.F.entry_list_count (PySem.F.args_list_count_2 _ _) (SeqAt.list_countAt p _ n dd sl (.bool k) (isB k)) ⟨ho, fun y hy => ?_, ?_⟩
  · obtain ⟨b, _, rfl⟩ := List.mem_map.mp (show y ∈ bs.map Value.bool by simpa using hy)
    exact SeqAt.EqAt.bool_bool b k
  · refine ⟨.int (bs.count k : Nat), H, I.tok _, ⟨s.toks, ?_⟩, q⟩
    rw [← count_bools k bs]
theorem mt_countBK {X : Cx} {K : PySem.W.Frag} (hK : X.K = K) : MtR X "list.count" (rCntB K) := by subst hK; exact mt_countB
def dCountB : D → List D → Mu → PD → Prop
  | d, [.bl k], μ, P => items μ d fun ds => ∃ bs : List Bool, ds = bs.map D.bl ∧ P (.int (bs.count k : Nat)) μ
  | _, _, _, _ => False
theorem bls_vals {K : PySem.W.Frag} {S : Hp} : ∀ {bs : List Bool} {xs : List V}, HasL K S (bs.map D.bl) xs → xs = bs.map V.bl
  | [], xs, h => h.nil_inv
  | b :: r, xs, h => by
    obtain ⟨x, t, rfl, h1, h2⟩ := h.cons_inv
    rw [h1.bl_inv, bls_vals h2]; rfl
theorem mS_countB {K : PySem.W.Frag} : MS K (rCntB K) dCountB := by
  intro S H μ x xs d ds P Q a h hl p c
  unfold dCountB at p
  split at p
  · obtain ⟨y, rfl, hy⟩ := has1 hl
    obtain ⟨q, ys, ds', rfl, e1, l1, bs, rfl, p3⟩ := items_ok a h p
    rw [hy.bl_inv]
    have e := bls_vals l1
    subst e
    exact ⟨q, bs, _, rfl, rfl, e1, c _ μ _ S H p3 .refl a .int⟩
  · exact p.elim
/-- list.pop(i) -/
def dPopAt : D → List D → Mu → PD → Prop
  | .ref l, [.int i], μ, P => ∃ ds k y, μ l = some (.lst ds) ∧ -(2 ^ 63) ≤ i ∧ i < 2 ^ 63 ∧ seqIndex? i ds.length = some k ∧ ds[k]? = some y ∧ P y (um μ l (.lst (ds.eraseIdx k)))
  | _, _, _, _ => False
theorem HasL.erase {K : PySem.W.Frag} {S : Hp} : ∀ {ds : List D} {xs : List V} (i : Nat), HasL K S ds xs → HasL K S (ds.eraseIdx i) (xs.eraseIdx i)
  | [], xs, i, h => by rw [h.nil_inv]; exact .nil
  | d0 :: ds, xs, 0, h => by
    obtain ⟨y, r, e1, hy, t⟩ := h.cons_inv
    subst e1
    exact t
  | d0 :: ds, xs, i + 1, h => by
    obtain ⟨y, r, e1, hy, t⟩ := h.cons_inv
    subst e1
    exact .cons hy (HasL.erase i t)
theorem mS_popAt {K : PySem.W.Frag} : MS K rPopAt dPopAt := by
  intro S H μ x xs d ds P Q a h hl p c
  unfold dPopAt at p
  split at p
  · obtain ⟨es, k, y, hz, b1, b2, hk, hy, p3⟩ := p
    obtain ⟨z, rfl, hz'⟩ := has1 hl
    rw [hz'.int_inv, h.ref_inv]
    obtain ⟨_, ws, e1, l1⟩ := a.mu _ _ hz
    obtain ⟨v, hv, hdv⟩ := l1.get hy
    obtain ⟨n3, a3⟩ := a.wr (.lst (ws.eraseIdx k)) (.lst (es.eraseIdx k)) (.lst es) hz ⟨_, upd_same, l1.erase k⟩
    exact ⟨_, ws, _, k, v, rfl, rfl, e1, b1, b2, by rw [l1.length]; exact hk, hv, c _ _ _ _ _ p3 n3 a3 (hdv.mono n3.ss)⟩
  · exact p.elim
end Nm
/-! D17: raise X(..) from Y(..). -/
namespace Nm
open PySem PySem.Spec PyProof.Rows L2
/-- the object of an exception with an own __init__, as it is made -/
abbrev sixO (C : Addr) (d t0 : Addr) : Obj := { cls := .ref C, dict := some d, data := .fields #[.ref t0, .none, .none, .none, .bool false, .none] }
/-- .. with its cause -/
abbrev sixC (C : Addr) (d t0 b : Addr) : Obj := { cls := .ref C, dict := some d, data := .fields #[.ref t0, .none, .none, .ref b, .bool true, .none] }
/-- an expression that makes an exception of the class at C -/
def PMkS (X : Cx) (C : Addr) (e : Expr) (t : L2.St → Hp → XK → Prop) : Prop :=
  ∀ (pins : List (Addr × Obj)) (s : Shared) (σ : L2.St) (H : Hp) (Q : XK), L2.Inv X pins σ H s → t σ H Q → wpAny (model X.prog X.w) X.A (eval e X.env) (fun u s' => ∃ (a t0 d : Addr) (sI : Shared) (H' : Hp), u = .ref a ∧ L2.Inv X pins σ H' sI ∧
    (∀ b o, sI.heap.get? b = some o → s'.heap.get? b = some o) ∧ sI.heap.get? a = none ∧ s'.heap.get? a = some (sixO C d t0) ∧ FpOk X pins H' a ∧ s'.os = sI.os ∧ AllBare s'.gens ∧ Q (.ref C) (some d) H') X.xe s
section
variable {X : Cx} {K : PySem.W.Frag} {mg : Str → Option Value} {W : WX} {x : Str} {C : Addr} {p : Pos} {e : Expr} {ta : TE}
theorem pmkS_gx (hK : X.K = K) (hmg : X.mg = mg) (G : GX X.prog X.w K mg X.base x C) (hr : Room 2 X.A) (ha : PE X e ta) (hg : Gl X x := by rfl) (hdb : (x == ("__debug__" : Str)) = false := by decide)
    (hs : starEach [e] X.env = (false, eval e X.env) :: starEach [] X.env := by rfl) (hpl : (backTo p (starEach [] X.env)).any (·.1) = false := by rfl) {p2 : Pos} : PMkS X C (.Call (.Name x p2) [e] [] p) (tMkO C (spExc K) [] (tCons ta tNil)) := by
  subst hK hmg
  obtain ⟨fI, fd, iC, tI, hb, F⟩ := G.ini
  have T := G.oex
  obtain ⟨_, _, _, _, bm, _, _, _, _, _, _, _, _, _, _, hC, hbm⟩ := T.cls
  intro pins s σ H Q I h
  refine wpAny_Call_Name_kw (ld_glob I hg G.gl (PySem.W.callWith_K (h₀ := X.base) I.ok.mod.kin T.kC (thn ((pa_cons ha pa_nil hs).run p pins s σ H _ I h) fun us s1 hh => ?_) hs hpl) hdb)
  obtain ⟨vs, H1, I1, r1, hz, q1⟩ := hh
  refine ⟨I1.kIn, ?_⟩
  show wpAny _ _ (call (.ref C) us) _ _ _
  obtain ⟨g0, ge, dr, tk, os⟩ := s1
  have le1 : g0.objs.size ≤ g0.objs.size + 1 := Nat.le_succ _
  have hq := q1 _ (I1.hok.fresh le1)
  rw [List.append_nil] at hq
  let g1 : Heap := (g0.push (PySem.W.kdv_tup us)).push (PySem.HandSPX.excO C g0.objs.size)
  have kk : ∀ b o, g0.get? b = some o → g1.get? b = some o := fun b o z => Heap.get?_push_of_some _ (Heap.get?_push_of_some _ z)
  have at1 : g1.get? (g0.objs.size + 1) = some (PySem.HandSPX.excO C g0.objs.size) := by heap_get
  have I2 : L2.Inv X pins σ (upd H1 (g0.objs.size + 1) (exo (g0.objs.size + 1) C none)) ⟨g1, ge, dr, tk, os⟩ := I1.laid (t' := tk) kk le1 (exo_ok at1)
  have r2 : Vals (V.ref (g0.objs.size + 1) :: vs) (Value.ref (g0.objs.size + 1) :: us) := .cons rfl r1
  have hl : (Value.ref (g0.objs.size + 1) :: us).length = 2 := r2.length.symm.trans (F.len _ _ _ _ hq)
  have b2 := hb _ (Value.ref (g0.objs.size + 1) :: us) I2.kIn (by rw [List.append_nil]; exact hl)
  rw [List.append_nil] at b2
  have few : us.length ≤ sizeLine := Nat.le_trans (by rw [← Paired.length r1]; exact hz) (by rw [sizeLine_eq]; decide)
  refine wpAny_call (PySem.HandSPX.call_own PySem.F.excBase_ValueError (fun Y => PySem.HandSPX.refsVE_contains Y bm hbm) (I1.kIn _ _ hC) (PySem.W.looks_findIn I1.kIn iC) (fun self => PySem.W.bind_fn I1.kIn self tI) few
    (codeAny_mono (F.run _ X.stack _ _ ⟨Value.ref (g0.objs.size + 1) :: us, []⟩ _ _ _ (fun _ _ _ => False) (hr.make C us []) (I2.env0.make C us []) b2 r2 hq) fun r s' hq' => ?_))
  match r, hq' with
  | .error er, hq' => exact passL pins σ _ _ er s' I2 hq'
  | .ok (.ret u), hq' =>
    obtain ⟨v, H2, os2, bare2, un2, hok2, rv, ev, d, fs, ea, ed, hd1, q2⟩ := hq'
    subst ev
    obtain ⟨g2, ge2, dr2, tk2, os'⟩ := s'
    obtain ⟨t0, G0, J, kG, gn, hoe, na⟩ := mk_end0 (d2 := dr2) (t2 := tk2) I1 le1 kk un2 hok2 os2 bare2 ea ed hd1
    exact ⟨rv, g0.objs.size + 1, t0, d, ⟨G0, ge2, dr2, tk2, os'⟩, _, rfl, J, kG, gn, hoe, I1.fpOk le1 na, rfl, bare2, q2⟩
  | .ok .next, hq' => exact hq'.elim
  | .ok .brk, hq' => exact hq'.elim
  | .ok .cont, hq' => exact hq'.elim
end
/-- what nothing tracked leans on may be taken away -/
theorem inv_hide {X : Cx} {pins : List (Addr × Obj)} {σ : L2.St} {H : Hp} {s : Shared} {a : Addr} (I : L2.Inv X pins σ H s) (f : FpOk X pins H a) (hn : X.s_0.heap.get? a = none) : L2.Inv X pins σ H { s with heap := s.heap.hide a } := by
  obtain ⟨na, nl, nf, _, nc, np⟩ := f
  have gk : ∀ b, b ≠ a → (s.heap.hide a).get? b = s.heap.get? b := fun b hb => Heap.hide_ne _ hb
  have old : ∀ {b : Addr} {o : Obj}, X.s_0.heap.get? b = some o → b ≠ a := fun {b o} z e => by rw [e, hn] at z; cases z
  have trk : ∀ {b : Addr} {o : HO}, H b = some o → b ≠ a := fun {b o} z e => by rw [e, na] at z; cases z
  obtain ⟨m, hm, lk⟩ := I.loc
  have cl : ∀ {x c v}, X.env.cells.lookup x = some c → s.heap.IsCell c v → (s.heap.hide a).IsCell c v := fun {x c v} e h => by
    obtain ⟨o, h1, h2⟩ := h
    exact ⟨o, (gk c (nc x c e)).trans h1, h2⟩
  constructor
  · exact I.ok
  · exact I.os
  · exact I.bare
  · constructor
    · exact fun b o e n1 n2 n3 => (gk b (old e)).trans (I.base.keep b o e n1 n2 n3)
    · intro b o e n1 n2 n3
      obtain ⟨sl, h⟩ := I.base.slot b o e n1 n2 n3
      exact ⟨sl, (gk b (old e)).trans h⟩
    · exact I.base.free
    · intro b o e n1
      obtain ⟨o', h⟩ := I.base.there b o e n1
      exact ⟨o', (gk b (old e)).trans h⟩
    · exact I.base.tups
    · exact I.base.frzs
    · exact I.base.tbls
  · refine ⟨m, hm.at fun o e => (gk _ (Ne.symm nl)).trans e, fun i x v e1 e2 e3 => ?_⟩
    obtain ⟨u, r, l⟩ := lk i x v e1 e2 e3
    refine ⟨u, r, ?_⟩
    rcases l with l | ⟨h1, c, h2, h3⟩
    · exact .inl l
    · exact .inr ⟨h1, c, h2, cl h2 h3⟩
  · intro x c e
    obtain ⟨v, h⟩ := I.cell x c e
    exact ⟨v, cl e h⟩
  · exact I.free
  · exact I.freeC
  · intro q hq
    obtain ⟨h1, h2⟩ := I.pin q hq
    exact ⟨(gk _ (np q hq)).trans h1, h2⟩
  · intro b o e
    refine (I.hok b o e).stay (fun c u hc z => ?_) (fun _ z => z) (fun _ _ z => z)
    refine (gk c ?_).trans z
    rcases hc with hc | hc
    · rw [hc]; exact trk e
    · exact trk hc
  · exact I.len
/-- the stores of a cause -/
def fromH (h : Heap) (a b : Addr) : Heap := (h.update a (Obj.mapFields (·.setIfInBounds 3 (.ref b)))).update a (Obj.mapFields (·.setIfInBounds 4 (.bool true)))
theorem fromH_at {h : Heap} {a b C d t0 : Addr} (ha : h.get? a = some (sixO C d t0)) : (h.update a (Obj.mapFields (·.setIfInBounds 3 (.ref b)))).get? a = some { cls := .ref C, dict := some d, data := .fields #[.ref t0, .none, .none, .ref b, .bool false, .none] } ∧ (fromH h a b).get? a = some (sixC C d t0 b) := by
  have e1 := Heap.get?_update_self (Obj.mapFields (·.setIfInBounds 3 (.ref b))) ha (Obj.isFreed_of_fields (Obj.data_mapFields (o := sixO C d t0) rfl (·.setIfInBounds 3 (.ref b))))
  have e2 := Heap.get?_update_self (Obj.mapFields (·.setIfInBounds 4 (.bool true))) e1 (Obj.isFreed_of_fields (Obj.data_mapFields (Obj.data_mapFields (o := sixO C d t0) rfl (·.setIfInBounds 3 (.ref b))) (·.setIfInBounds 4 (.bool true))))
  exact ⟨e1, e2⟩
theorem fromH_ne {h : Heap} {a b c : Addr} (hc : a ≠ c) : (fromH h a b).get? c = h.get? c := by
  unfold fromH
  rw [Heap.get?_update_other _ _ hc, Heap.get?_update_other _ _ hc]
/-- raise x from c, both new exceptions of such classes -/
theorem raise_fromS {prog : Program} {w : World} {A : Around} {E : Value → Shared → Prop} {env : Env} {s : Shared} {x c : Sem Value} {Q : Flow → Shared → Prop} (hh : A.handled = none)
    (h : wpAny (model prog w) A x (fun v s1 => wpAny (model prog w) A c (fun u s2 => ∃ a b C C' d d' t0 t1 : Addr, v = .ref a ∧ u = .ref b ∧ a ≠ b ∧ s2.heap.get? a = some (sixO C d t0) ∧ s2.heap.get? b = some (sixO C' d' t1) ∧
      PySem.W.Looks (model prog w) s2.heap (isSubtype (.ref C) (.type "BaseException")) true ∧ PySem.W.Looks (model prog w) s2.heap (isSubtype (.ref C') (.type "BaseException")) true ∧ PySem.W.Looks (model prog w) (fromH s2.heap a b) (typeOf (.ref C)) (.type "type") ∧ E (.ref a) { s2 with heap := fromH s2.heap a b }) E s1) E s) :
    wpAny (model prog w) A (raiseStmt env (some x) (some c)) Q E s := by
  unfold raiseStmt
  dsimp only
  refine wpAny_bind (wpAny_mono h (fun v s1 hv => ?_) fun _ _ z => z)
  refine wpAny_bind (wpAny_holding (wpAny_mono hv (fun u s2 hu => wpAny_bind (wpAny_pure ?_)) fun _ _ z => z))
  obtain ⟨a, b, C, C', d, d', t0, t1, rfl, rfl, nab, ha, hb, B1, B2, T1, fin⟩ := hu
  have noT : ∀ {z : Addr} {o : Obj} {vs : Array Value} {h' : Heap} {Q' : Bool → Shared → Prop}, h'.get? z = some o → o.data = .fields vs → Q' false { s2 with heap := h' } → wpAny (model prog w) A (isType (.ref z)) Q' E { s2 with heap := h' } := by
    intro z o vs h' Q' e1 e2 q
    simp only [isType, loadHead]
    exact wpAny_bind (wpAny_loadPart e1 (by rw [e2]; exact wpAny_pure q))
  have tyA : PySem.W.Looks (model prog w) s2.heap (typeOf (.ref a)) (.ref C) := fun A Q E s k q => wpAny_typeOf_ref (k _ _ ha) q
  have tyB : PySem.W.Looks (model prog w) s2.heap (typeOf (.ref b)) (.ref C') := fun A Q E s k q => wpAny_typeOf_ref (k _ _ hb) q
  have inA : PySem.W.Looks (model prog w) s2.heap (isInstance (.ref a) (.type "BaseException")) true := tyA.andThen B1
  have inB : PySem.W.Looks (model prog w) s2.heap (isInstance (.ref b) (.type "BaseException")) true := tyB.andThen B2
  obtain ⟨a3, a4⟩ := fromH_at (b := b) ha
  have tyF : PySem.W.Looks (model prog w) (fromH s2.heap a b) (typeOf (.ref a)) (.ref C) := fun A Q E s k q => wpAny_typeOf_ref (k _ _ a4) q
  have noTa : ∀ {Q' : Bool → Shared → Prop}, Q' false s2 → wpAny (model prog w) A (isType (.ref a)) Q' E s2 := fun q => noT (h' := s2.heap) ha rfl q
  have noTb : ∀ {Q' : Bool → Shared → Prop}, Q' false s2 → wpAny (model prog w) A (isType (.ref b)) Q' E s2 := fun q => noT (h' := s2.heap) hb rfl q
  dsimp only
  refine wpAny_bind (wpAny_holding ?_)
  unfold excFromValue isExcClass
  refine wpAny_bind (wpAny_bind (noTa ?_))
  simp only [Bool.false_eq_true, if_false]
  refine wpAny_pure ?_
  simp only [Bool.false_eq_true, if_false]
  refine wpAny_bind (inA.here ?_)
  simp only [if_true]
  refine wpAny_pure ?_
  rw [if_neg (show ¬ ((Value.ref b == Value.none) = true) from by simp)]
  refine wpAny_bind (wpAny_holding (wpAny_bind (wpAny_bind (noTb ?_))))
  simp only [Bool.false_eq_true, if_false]
  refine wpAny_pure ?_
  simp only [Bool.false_eq_true, if_false]
  refine wpAny_bind (inB.here ?_)
  simp only [if_true]
  refine wpAny_pure ?_
  refine wpAny_bind (wpAny_setField ha rfl (by show (3 : Nat) < 6; decide) ?_)
  refine wpAny_bind (wpAny_setField a3 rfl (by show (4 : Nat) < 6; decide) ?_)
  show wpAny _ _ _ _ _ { s2 with heap := fromH s2.heap a b }
  refine wpAny_bind (noT (h' := fromH s2.heap a b) a4 rfl ?_)
  simp only [Bool.false_eq_true, if_false]
  unfold raisedInstance
  refine wpAny_bind (wpAny_bind (tyF.here (wpAny_bind (T1.here ?_))))
  rw [if_pos (beq_self_eq_true _)]
  refine wpAny_pure ?_
  unfold setFlight raiseNew
  refine wpAny_bind (wpAny_bind (wpAny_field (i := 1) (x := .none) a4 rfl rfl ?_))
  rw [if_neg (by decide)]
  refine wpAny_pure (wpAny_bind (wpAny_handled ?_))
  rw [hh]
  first
    | exact wpAny_throw fin
    | exact wpAny_bind (wpAny_pure (wpAny_throw fin))
section
variable {X : Cx} {W : WX} {C C' : Addr} {e c : Expr} {t t' : L2.St → Hp → XK → Prop} {pos : Pos}
theorem ps_raiseF (hc : X.calm = true) (hex : X.ex = []) (tk : Takes X W) (r1 : Raises X (.ref C)) (r2 : Raises X (.ref C')) (he : PMkS X C e t) (hf : PMkS X C' c t') : PS X (.Raise (some e) (some c) pos) (fun _ σ H => t σ H fun cls d H1 => t' σ H1 fun _ _ H2 => W cls d σ H2) := by
  constructor
  intro pins s σ H D I h
  show wpAny _ _ (do standAt pos; raiseStmt X.env (some (do let v ← eval e X.env; standAt pos; pure v)) (some (do let v ← eval c X.env; standAt pos; pure v))) _ _ _
  refine wpAny_bind (wpAny_standAt (raise_fromS (I.ok.hd hc) (wpAny_bind (wpAny_mono (he pins s σ H _ I h) (fun u s1 hu => wpAny_bind (wpAny_standAt (wpAny_pure ?_))) fun _ _ z => z))))
  obtain ⟨a, t0, d, sI, H1, rfl, J, kJ, aN, aO, aF, aS, aG, h1⟩ := hu
  -- the first lies in the state while the cause is made
  have J1 : L2.Inv X (pins ++ [(a, sixO C d t0)]) σ H1 s1 := by
    have Jk := J.kept (h' := s1.heap) (t' := s1.toks) kJ
    have Jn : L2.Inv X pins σ H1 s1 := ⟨Jk.ok, aS.trans J.os, aG, Jk.base, Jk.loc, Jk.cell, Jk.free, Jk.freeC, Jk.pin, Jk.hok, Jk.len⟩
    refine Jn.pins_of fun q hq => ?_
    rcases List.mem_append.mp hq with z | z
    · exact Jn.pin q (List.mem_append_right _ z)
    · rw [List.mem_singleton.mp z]
      exact ⟨aO, aF.1, aF.2.1, aF.2.2.1, fun v y => by cases y⟩
  refine wpAny_bind (wpAny_mono (hf _ s1 σ H1 _ J1 h1) (fun u s2 hu => wpAny_bind (wpAny_standAt (wpAny_pure ?_))) fun _ _ z => z)
  obtain ⟨b, t1, d', sK, H2, rfl, J2, kK, bN, bO, bF, bS, bG, h2⟩ := hu
  have a2 := (J2.pin (a, sixO C d t0) (by simp)).1
  have nab : a ≠ b := fun z => by rw [z, bN] at a2; cases a2
  have ha := kK _ _ a2
  have ks2 : X.K.In s2.heap := J2.kIn.keeps kK
  have kF : ∀ b' o, (sK.heap.hide a).get? b' = some o → (fromH s2.heap a b).get? b' = some o := fun b' o z => by
    have nb : a ≠ b' := fun y => by rw [← y, Heap.hide_self] at z; cases z
    rw [fromH_ne nb]
    exact kK _ _ (Heap.of_hide z)
  have fa : FpOk X pins H2 a := by
    obtain ⟨_, f2, f3, f4, f5, f6⟩ := aF
    exact ⟨(J2.pin (a, sixO C d t0) (by simp)).2.1, f2, f3, f4, f5, f6⟩
  have a0 : X.s_0.heap.get? a = none := by
    cases q : X.s_0.heap.get? a with
    | none => rfl
    | some o =>
      rcases aF.2.2.2.1 with z | z
      · rw [hex] at z; cases z
      · exact absurd (Heap.lt_size q) (Nat.not_lt.mpr z)
  have J3 : L2.Inv X pins σ H2 { sK with heap := sK.heap.hide a } := inv_hide J2.unpinned fa a0
  refine ⟨a, b, C, C', d, d', t0, t1, rfl, rfl, nab, ha, bO, (r1 _ _ ks2).1, (r2 _ _ ks2).1, (r1 _ _ (J3.kIn.keeps kF)).2, tk _ _ (XE.new J3 kF (Heap.hide_self _ _) (fromH_at ha).2 ⟨rfl, rfl⟩ rfl rfl fa.1 bS bG h2)⟩
end
section
variable {K : PySem.W.Frag} {W : WX} {Γ : Gm} {μ : Mu} {X : XD} {E : En}
theorem mkO_in {C : Addr} {y : V} {H1 : Hp} {Q : XK} (T : OexC K C) (hs : PySem.W.findIn K (.ref C) "subject" = some none) (h : ∀ dx, H1 dx = none → Q (.ref C) (some dx) (upd H1 dx (.xd [(subj, y)]))) :
    ([y] : List V).length ≤ 1000 ∧ ∀ e, H1 e = none → spExc K (.ref e :: ([y] ++ [])) (upd H1 e (exo e C none)) (fun v H2 => v = .non ∧ ∃ (d : Addr) (fs : List (Str × V)), H2 e = some (exo e C (some d)) ∧ H2 d = some (exd d fs) ∧ H1 d = none ∧ Q (.ref C) (some d) (upd (del H2 e) d (.xd fs))) (fun _ _ _ => False) := by
  refine ⟨by show 1 ≤ 1000; decide, fun e he => ⟨e, C, y, rfl, T, hs, upd_same, fun dx hdx ne => ?_⟩⟩
  have hd : H1 dx = none := by rw [upd_ne ne] at hdx; exact hdx
  refine ⟨rfl, dx, [(subj, y)], upd_same, by rw [upd_ne ne, upd_same], hd, ?_⟩
  have eH : upd (del (upd (upd (upd H1 e (exo e C none)) dx (exd dx [(subj, y)])) e (exo e C (some dx))) e) dx (.xd [(subj, y)]) = upd H1 dx (.xd [(subj, y)]) := by
    funext z
    by_cases q : z = dx
    · rw [q, upd_same, upd_same]
    · rw [upd_ne q, upd_ne q]
      by_cases q2 : z = e
      · rw [q2, del_same, he]
      · rw [del_ne q2, upd_ne q2, upd_ne q, upd_ne q2]
  rw [eH]
  exact h dx hd
def tRzF (W : WX) (t t' : L2.St → Hp → XK → Prop) : TS := fun _ σ H => t σ H fun cls d H1 => t' σ H1 fun _ _ H2 => W cls d σ H2
theorem ws_raiseF {C C' : Addr} {te te' : TE} (T : OexC K C) (hs : PySem.W.findIn K (.ref C) "subject" = some none) (T' : OexC K C') (hs' : PySem.W.findIn K (.ref C') "subject" = some none)
    (h : We K W te Γ μ (fun s μ1 => We K W te' Γ μ1 (fun _ μ2 => E.ex (.ref C) s Γ μ2) (fun c s μ1 => E.ex c s Γ μ1)) (fun c s μ1 => E.ex c s Γ μ1)) : Ws K W (tRzF W (tMkO C (spExc K) [] (tCons te tNil)) (tMkO C' (spExc K) [] (tCons te' tNil))) Γ μ E := by
  intro S σ H Dn a b c
  refine h S σ H _ a b (fun s μ1 y S1 H1 p1 n1 a1 h1 => mkO_in (Q := fun cls d H2 => tMkO C' (spExc K) [] (tCons te' tNil) σ H2 fun _ _ H3 => W cls d σ H3) T hs fun dx hdx => ?_) (c.xx b)
  obtain ⟨n2, a2⟩ := a1.lay (.xd [(subj, y)]) hdx
  have n12 := n1.trans n2
  refine p1 _ σ _ _ a2 (b.mono n12.ss) (fun s' μ2 y' S3 H3 p3 n3 a3 h3 => mkO_in (Q := fun _ _ H3 => W (.ref C) (some dx) σ H3) T' hs' fun dx' hdx' => ?_) ((c.xx b).nx n12)
  obtain ⟨n4, a4⟩ := a3.lay (.xd [(subj, y')]) hdx'
  have n14 := n12.trans (n3.trans n4)
  exact c.ex _ _ _ _ y dx σ _ _ p3 n14 a4 (b.mono n14.ss) ((n3.trans n4).ss _ _ upd_same) (h1.mono (n2.trans (n3.trans n4)).ss)
end
section
variable {X : Cx} {W : WX} {K : PySem.W.Frag} {mg : Str → Option Value} {x y : Str} {C C' : Addr} {p p' pos : Pos} {e e' : Expr} {ta tb : TE}
theorem gx_raises (hK : X.K = K) (hm : X.mg = mg) (G : GX X.prog X.w K mg X.base x C) : Raises X (.ref C) := by subst hK; exact raises_own G.oex.exC G.oex.tyC
theorem ps_gxF (hK : X.K = K) (hm : X.mg = mg) (G : GX X.prog X.w K mg X.base x C) (G' : GX X.prog X.w K mg X.base y C') (hr : Room 2 X.A) (hc : X.calm = true) (hex : X.ex = []) (tk : Takes X W) (ha : PE X e ta) (hb : PE X e' tb) (hg : Gl X x := by rfl) (hdb : (x == ("__debug__" : Str)) = false := by decide)
    (hs : starEach [e] X.env = (false, eval e X.env) :: starEach [] X.env := by rfl) (hpl : (backTo p (starEach [] X.env)).any (·.1) = false := by rfl) (hg' : Gl X y := by rfl) (hdb' : (y == ("__debug__" : Str)) = false := by decide)
    (hs' : starEach [e'] X.env = (false, eval e' X.env) :: starEach [] X.env := by rfl) (hpl' : (backTo p' (starEach [] X.env)).any (·.1) = false := by rfl) {p2 p2' : Pos} :
    PS X (.Raise (some (.Call (.Name x p2) [e] [] p)) (some (.Call (.Name y p2') [e'] [] p')) pos) (tRzF W (tMkO C (spExc K) [] (tCons ta tNil)) (tMkO C' (spExc K) [] (tCons tb tNil))) :=
  ps_raiseF hc hex tk (gx_raises hK hm G) (gx_raises hK hm G') (pmkS_gx hK hm G hr ha hg hdb hs hpl) (pmkS_gx hK hm G' hr hb hg' hdb' hs' hpl')
end
end Nm
/-! D18: methods with a star parameter. -/
namespace Nm
open PySem PySem.Spec PyProof.Rows L2
section
variable (P : Program) (w : World) (K : PySem.W.Frag) (mg : Str → Option Value) (base : Heap)
/-- a method that is told by positions -/
structure GMR (C : Addr) (m : Str) (k : Nat) (sp : Sp) : Prop where
  cl : Cls K C
  ex : ∃ f, Meth K C m f ∧ FnR P w K mg base (L2.CX P w) k f sp
end
section
variable {X : Cx} {W : WX} {m : Str} {C : Addr} {k : Nat} {sp : Sp} {pos apos : Pos} {e o : Expr} {es : List Expr} {t : TA} {ta : TE}
theorem run_R {pins : List (Addr × Obj)} {σ : L2.St} {H : Hp} {s : Shared} {f : Addr} {E : L2.St → XK} {Q : VK} {us : List Value} {vs : List V} (F : FnR X.prog X.w X.K X.mg X.base (L2.CX X.prog X.w) k f sp) (hr : Room k X.A) (hx : PassesAt (L2.CX X.prog X.w) X σ (E σ)) (I : L2.Inv X pins σ H s) (r : Vals vs us) (h : sp vs H Q (E σ)) :
    wpAny (model X.prog X.w) X.A (call (.ref f) us) (EP X pins σ Q) X.xe s := by
  refine wpAny_call (codeAny_mono (F X.A X.stack s H us vs Q (E σ) hr I.env0 r h) fun z s' hq => ?_)
  match z, hq with
  | .error er, hq => exact hx pins H s er s' I hq
  | .ok (.ret u), hq => exact I.after hq
  | .ok .next, hq => exact hq.elim
  | .ok .brk, hq => exact hq.elim
  | .ok .cont, hq => exact hq.elim
theorem pe_gmr {pl : Sem Bool} (G : GMR X.prog X.w X.K X.mg X.base C m k sp) (hr : Room k X.A) (tk : Takes X W) (he : PE X o ta) (ha : PA X (e :: es) t)
    (hst : starEach (e :: es) X.env = (false, eval e X.env) :: starEach es X.env := by rfl) (hpl : (backTo pos (starEach es X.env)).any (·.1) = false := by rfl)
    (ht : eval (.Call (.Attribute o m apos) (e :: es) [] pos) X.env = (do
      let ov ← eval o X.env
      standAt apos.atName
      let (f, first) ← holding [ov] (getMethod ov m pl)
      callWith pos f first (backTo pos (starEach (e :: es) X.env)) (backToKw pos (keywordEach [] X.env))) := by rfl) :
    PE X (.Call (.Attribute o m apos) (e :: es) [] pos) (tMethD C m sp [] (L2.WE W) ta t) := by
  obtain ⟨c, f, hm, F⟩ := G
  constructor
  intro pins s σ H Q I h
  refine PySem.W.methodCall_KW (pl := pl) (thn (he.run pins s σ H _ I h) fun u s1 ⟨x, H1, I1, rx, a, dx, fs, ex, ea, l, q⟩ => ?_) ht
  subst ex
  cases rx
  refine getmeth_ok I1 ea c hm l (PySem.W.callWith_K (first := [.ref a]) (h₀ := X.base) I.ok.mod.kin hm.kp (thn (ha.run pos pins s1 σ H1 _ I1 q) fun us s2 ⟨vs, H2, I2, r, q2⟩ => ⟨I2.kIn, ?_⟩) hst hpl)
  replace q2 : sp (V.ref a :: (vs ++ [])) H2 Q (L2.WE W σ) := q2
  rw [List.append_nil] at q2
  exact run_R F hr (passAt tk σ) I2 (us := .ref a :: us) (vs := .ref a :: vs) (.cons rfl r) q2
theorem pe_gmr0 {pl : Sem Bool} (G : GMR X.prog X.w X.K X.mg X.base C m k sp) (hr : Room k X.A) (tk : Takes X W) (he : PE X o ta)
    (ht : eval (.Call (.Attribute o m apos) [] [] pos) X.env = (do
      let ov ← eval o X.env
      standAt apos.atName
      let (f, first) ← holding [ov] (getMethod ov m pl)
      callWith pos f first (backTo pos (starEach [] X.env)) (backToKw pos (keywordEach [] X.env))) := by rfl) :
    PE X (.Call (.Attribute o m apos) [] [] pos) (tMethD C m sp [] (L2.WE W) ta tNil) := by
  obtain ⟨c, f, hm, F⟩ := G
  constructor
  intro pins s σ H Q I h
  refine PySem.W.methodCall_KW (pl := pl) (thn (he.run pins s σ H _ I h) fun u s1 ⟨x, H1, I1, rx, a, dx, fs, ex, ea, l, q⟩ => ?_) ht
  subst ex
  cases rx
  exact getmeth_ok I1 ea c hm l (PySem.W.callWith_K0 (first := [.ref a]) I1.kIn hm.kp (run_R F hr (passAt tk σ) I1 (us := [.ref a]) (vs := [.ref a]) (.cons rfl .nil) q))
end
section
variable {P : Program} {w : World} {K : PySem.W.Frag} {mg : Str → Option Value} {base : Heap}
theorem HasL.split {S : Hp} : ∀ {ds es : List D} {xs : List V}, HasL K S (ds ++ es) xs → ∃ ys zs, xs = ys ++ zs ∧ HasL K S ds ys ∧ HasL K S es zs
  | [], es, xs, h => ⟨[], xs, rfl, .nil, h⟩
  | d :: ds, es, xs, h => by
    obtain ⟨x, r, rfl, h1, h2⟩ := (show HasL K S (d :: (ds ++ es)) xs from h).cons_inv
    obtain ⟨ys, zs, rfl, h3, h4⟩ := HasL.split h2
    exact ⟨x :: ys, zs, rfl, .cons h1 h3, h4⟩
/-- THE RULE for def f(a, .., *v), by a promise over a, .. and what is left over -/
theorem fun_okS {x qual : Str} {params : Arguments} {body : List Stmt} {scope : Scope} {kws : List (Str × V)} {f : Addr} {fd : FuncData} {N ps : List Str} {pv : Str} {k : Nat} {sd : SpD}
    (F : FunD K x qual params body scope [] kws f fd) (S : FnScope N (ps ++ [pv]) scope)
    (hb : ∀ (kV doc pm : Value) (an : Option Addr) (cdv ct : Value) (us rest : List Value), us.length = ps.length → bindArgs (PySem.W.fnOf x qual params body scope .none kV doc pm an cdv ct) ⟨us ++ rest, []⟩ = (newTuple rest >>= fun t => pure (ps.zip us ++ [(pv, t)])))
    (len : ∀ ds μ P X, sd ds μ P X → ∃ ws rest, ds = ws ++ rest ∧ ws.length = ps.length ∧ rest.length ≤ sizeLine)
    (h : ∀ (cdv : Value) (A : Around) (outer : List Env) (s : Shared) (H : Hp) (E : XK), Room k (A.deeper (envOfC qual scope s.heap.objs.size f cdv)) → ∃ t, PSs (cxOf (L2.CX P w) P w K mg base N qual scope f cdv A outer s H E) body t ∧
      ∀ ws rest μ Pd X, ws.length = ps.length → sd (ws ++ rest) μ Pd X → Ws K (wOf E) t ((ws ++ [Nm.D.tup rest]).map some ++ List.replicate (N.length - (ws ++ [Nm.D.tup rest]).length) none) μ (retE Pd X)) :
    FnR P w K mg base (L2.CX P w) (k + 1) f (toSp K sd) := by
  obtain ⟨oc, od, dV, kV, doc, pm, an, cdv, ct, osl, rfl, lk, hcd, hD, _⟩ := F.ex
  have eD : dV = .none := hD.elim (fun z => z.2) fun z => absurd rfl z.1
  subst eD
  refine FnR.imp (StX.fn_star (sp := toSp K fun ds μ Pd X => ∃ ws rest, ds = ws ++ [Nm.D.tup rest] ∧ ws.length = ps.length ∧ sd (ws ++ rest) μ Pd X) lk hcd S StX.cxUp (hb kV doc pm an cdv ct) fun A outer s H vs Q E hr q => ?_) fun vs H Q E q => ?_
  · obtain ⟨t, ht, hw⟩ := h cdv A outer s H E hr
    refine ⟨t, ht, body_ok (fun ds μ Pd X z => ?_) q⟩
    obtain ⟨ws, rest, rfl, hl, z⟩ := z
    exact hw ws rest μ Pd X hl z
  · obtain ⟨S', ds, μ, Pd, X, a, hl, q, hP, hX⟩ := q
    obtain ⟨ws, rest, rfl, h1, h2⟩ := len _ _ _ _ q
    obtain ⟨ys, zs, rfl, h3, h4⟩ := hl.split
    refine ⟨ys, zs, rfl, by rw [h3.length, h1], by rw [h4.length]; exact h2, fun p hp => ?_⟩
    obtain ⟨n2, a2⟩ := a.lay (.tup zs) hp
    refine ⟨_, ws ++ [Nm.D.tup rest], μ, Pd, X, a2, (h3.mono n2.ss).app (.cons ?_ .nil), ⟨ws, rest, rfl, h1, q⟩, hP.nx n2, fun c s μ' v d S1 H1 e1 n a => hX c s μ' v d S1 H1 e1 (n2.trans n) a⟩
    exact Has.tup (.inl (.inl upd_same)) (h4.mono n2.ss)
end
end Nm
namespace Nm
open PySem PySem.Spec PyProof.Rows L2
/-! ### xs[::-1] -/
theorem pe_revK {X : Cx} {K : PySem.W.Frag} (hK : X.K = K) {e : Expr} {te : TE} {k : Nat} {p1 p2 p3 pos : Pos} (he : PE X e te) : PE X (.Subscript e (.Slice none none (some (.UnaryOp .USub (.Constant (.int 1) k p1) p2)) p3) pos) (tRevL K te) := by subst hK; exact pe_revL he
theorem we_rev {K : PySem.W.Frag} {W : WX} {Γ : Gm} {μ : Mu} {X : XD} {te : TE} {P : PD} (h : We K W te Γ μ (fun d μ1 => items μ1 d fun ds => P (.lst ds.reverse) μ1) X) : We K W (tRevL K te) Γ μ P X := by
  intro S σ H Q a b c e
  refine h S σ H _ a b (fun d μ1 x S1 H1 p1 n1 a1 h1 => ?_) e
  obtain ⟨q, ys, ds, rfl, e1, l1, p⟩ := items_ok a1 h1 p1
  exact ⟨q, ys, rfl, e1, lay_lst a1 l1.rev p (c.nx n1)⟩
/-- a slice as a list that may be changed -/
theorem we_slM {K : PySem.W.Frag} {W : WX} {Γ : Gm} {μ : Mu} {X : XD} {te : TE} {tl th : TO} {P : PD} (h : We K W te Γ μ (fun d μ1 => Wo K W tl Γ μ1 (fun lo μ2 => Wo K W th Γ μ2 (fun hi μ3 => items μ3 d fun ds => ∀ p, μ3 p = none → P (.ref p) (um μ3 p (.lst (cutD ds lo hi)))) X) X) X) : We K W (tSl (rSlU K) te tl th) Γ μ P X := by
  intro S σ H Q a b c e
  refine h S σ H _ a b (fun d1 μ1 x S1 H1 p1 n1 a1 h1 => ?_) e
  refine p1 S1 σ H1 _ a1 (b.mono n1.ss) (fun lo μ2 S2 H2 p2 n2 a2 => ?_) (e.nx n1)
  refine p2 S2 σ H2 _ a2 (b.mono (n1.trans n2).ss) (fun hi μ3 S3 H3 p3 n3 a3 => ?_) (e.nx (n1.trans n2))
  obtain ⟨q, xs, ds, rfl, hs, hl, p4⟩ := items_ok a3 (h1.mono (n2.trans n3).ss) p3
  refine .inl ⟨q, xs, rfl, hs, fun p hp => ?_⟩
  obtain ⟨n4, a4⟩ := a3.layM (.lst (cutV xs lo hi)) (.lst (cutD ds lo hi)) hp ⟨_, upd_same, hl.cut lo hi⟩
  exact c _ _ _ S3 _ (p4 p (a3.unk hp).2) (((n1.trans n2).trans n3).trans n4) a4 (by unfold Has; rfl)
/-- a comprehension that picks and tells, the memory as it was -/
theorem we_lcF {K : PySem.W.Frag} {W : WX} {Γ : Gm} {μ : Mu} {X : XD} {wi : TI} {g : TG} {tt : TT} {te : TE} {vs : List Nat} {P : PD} {α : Type} (ow : Own g vs) (l : List α) (gd : α → D) (p : α → Bool) (f : α → D) (hl : l.length < sizeLine)
    (hi : Wi K W wi Γ μ (fun ds μ1 => ds = l.map gd ∧ μ1 = μ) X)
    (hb : ∀ (i : Nat) (x : α), l[i]? = some x → Wg K g (gd x) (wipeG Γ vs) μ fun Γ2 μ2 => Wt K wZ tt Γ2 μ2 (fun b μ3 => if b = true then We K wZ te Γ2 μ3 (fun e μ4 => e = f x ∧ p x = true ∧ μ4 = μ) X0 else p x = false ∧ μ3 = μ) X0)
    (hp : P (.lst ((l.filter p).map f)) μ) : We K W (tLc wi g tt te vs) Γ μ P X := by
  refine we_lc ow ?_
  have key : ∀ (ds : List D) (μ1 : Mu), ds = l.map gd ∧ μ1 = μ → ∃ I : Nat → List D → Mu → Prop, I 0 [] μ1 ∧ (∀ i acc μ', I i acc μ' → acc.length ≤ i) ∧ ds.length < sizeLine ∧
      (∀ i d acc μ', ds[i]? = some d → I i acc μ' → Wg K g d (wipeG Γ vs) μ' fun Γ2 μ2 => Wt K wZ tt Γ2 μ2 (fun b μ3 =>
        if b = true then We K wZ te Γ2 μ3 (fun e μ4 => I (i + 1) (acc ++ [e]) μ4) X0 else I (i + 1) acc μ3) X0) ∧
      ∀ acc μ', I ds.length acc μ' → P (.lst acc) μ' := by
    rintro ds μ1 ⟨rfl, rfl⟩
    refine ⟨fun i acc μ' => acc = ((l.take i).filter p).map f ∧ μ' = μ1, ⟨rfl, rfl⟩, ?_, by rw [List.length_map]; exact hl, ?_, ?_⟩
    · rintro i acc μ' ⟨rfl, _⟩
      rw [List.length_map]
      exact Nat.le_trans (List.length_filter_le ..) (by rw [List.length_take]; exact Nat.min_le_left _ _)
    · rintro i d acc μ' hd ⟨rfl, rfl⟩
      rw [List.getElem?_map] at hd
      obtain ⟨x, hx, rfl⟩ := Option.map_eq_some_iff.mp hd
      have ht : l.take (i + 1) = l.take i ++ [x] := by
        rw [List.take_succ, hx]; rfl
      have h := hb i x hx
      intro S σ H v R a b hv c
      refine h S σ H v R a b hv ?_
      intro Γ2 μ2 S2 H2 σ2 q n2 a2 b2
      refine c Γ2 μ2 S2 H2 σ2 ?_ n2 a2 b2
      intro S3 σ3 H3 Q3 a3 b3 c3 e3
      refine q S3 σ3 H3 Q3 a3 b3 (fun b4 μ4 S4 H4 p4 n4 a4 => c3 b4 μ4 S4 H4 ?_ n4 a4) e3
      cases b4 with
      | true =>
        rw [if_pos rfl] at p4 ⊢
        intro S5 σ5 H5 Q5 a5 b5 c5 e5
        refine p4 S5 σ5 H5 Q5 a5 b5 (fun e μ6 v6 S6 H6 p6 n6 a6 h6 => c5 e μ6 v6 S6 H6 ?_ n6 a6 h6) e5
        obtain ⟨rfl, hpx, rfl⟩ := p6
        refine ⟨?_, rfl⟩
        rw [ht, List.filter_append, List.map_append, List.filter_cons, hpx]
        rfl
      | false =>
        rw [if_neg Bool.false_ne_true] at p4 ⊢
        obtain ⟨hpx, rfl⟩ := p4
        refine ⟨?_, rfl⟩
        rw [ht, List.filter_append, List.filter_cons, hpx]
        simp
    · rintro acc μ' ⟨rfl, rfl⟩
      rw [List.length_map, List.take_length]
      exact hp
  intro S σ H R a b c e
  exact hi S σ H R a b (fun ds μ' J S' H' p => c ds μ' J S' H' (key ds μ' p)) e
end Nm
/-! D19: str.replace: texts whose tokens are given out. -/
namespace Nm
open PySem PySem.Spec PyProof.Rows L2
/-- behind it one token is out -/
def PE1 (X : Cx) (e : Expr) (t : TE) : Prop :=
  ∀ (pins : List (Addr × Obj)) (s : Shared) (σ : L2.St) (H : Hp) (Q : VK), L2.Inv X pins σ H s → t σ H Q → wpAny (model X.prog X.w) X.A (eval e X.env) (fun v s1 => 1 ≤ s1.toks ∧ EP X pins σ Q v s1) X.xe s
section
variable {X : Cx} {a b e : Expr} {ta tb te : TE} {pos : Pos}
theorem pe1_str {c : Str} {j : Nat} : PE1 X (.Constant (.str c) j pos) (tC (.str c)) := by
  intro pn sh st hp Qv inv hq
  exact Calls.Constant_str ⟨Nat.le_add_left 1 sh.toks, V.str c, hp, inv.tok _, ⟨sh.toks, rfl⟩, hq⟩
theorem pe1_op {op : Operator} {r : R2} (ho : OpR X (binaryOp op) r) (ha : PE X a ta) (hb : PE1 X b tb) : PE1 X (.BinOp a op b pos) (tOp r ta tb) := by
  intro pn sh st hp Qv inv hq
  refine wpAny_BinOp (thn (ha.run pn sh st hp _ inv hq) fun v1 sh1 w1 => ?_)
  obtain ⟨x, hp1, inv1, rx, hq1⟩ := w1
  refine thn (hb pn sh1 st hp1 _ inv1 hq1) fun v2 sh2 w2 => ?_
  obtain ⟨k2, y, hp2, inv2, ry, hq2⟩ := w2
  refine wpAny_mono (PySem.wpAny_toks (ho pn sh2 st hp2 x y v1 v2 Qv inv2 rx ry hq2)) (fun v3 sh3 w3 => ?_) fun _ _ w => w.2
  exact ⟨Nat.le_trans k2 w3.1, w3.2⟩
theorem pss_setT {rest : List Stmt} {u : TS} {i : Nat} {x : Str} {pos' : Pos} (hN : X.N.Nodup) (hi : X.N[i]? = some x) (hx : Loc X.env.scope x) (he : PE1 X e te) (hr : PSsT X rest u)
    (hs : swapsWith e (some (.Name x pos')) pos.line X.env = pure false := by rfl) (hf : X.fn x = true ∨ X.env.scope.names.lookup x = some .local := by first | exact .inl rfl | exact .inr rfl | assumption) :
    PSs X (.Assign [.Name x pos'] e pos :: rest) (tSeq (tAsg te (gName i)) u) := by
  refine ⟨fun pn sh st hp D inv hq => wpAny_execs_cons (wpAny_Assign_Name (thn (he pn sh st hp _ inv hq) fun v sh1 w1 => ?_) hs)⟩
  obtain ⟨k1, y, hp1, inv1, ry, hq1⟩ := w1
  refine wpAny_mono (PySem.wpAny_toks (store_ok (Q := fun _ z => L2.Inv X pn (st.set i (some y)) hp1 z) inv1 hN hi hx ry (fun _ w => w) hf)) (fun _ sh2 w2 => ?_) fun _ _ w => w.2
  exact hr pn sh2 _ hp1 D (Nat.le_trans k1 w2.1) w2.2 hq1
theorem pst_set {i : Nat} {x : Str} {pos' : Pos} (hN : X.N.Nodup) (hi : X.N[i]? = some x) (hx : Loc X.env.scope x) (he : PET X e te)
    (hs : swapsWith e (some (.Name x pos')) pos.line X.env = pure false := by rfl) (hf : X.fn x = true ∨ X.env.scope.names.lookup x = some .local := by first | exact .inl rfl | exact .inr rfl | assumption) :
    PST X (.Assign [.Name x pos'] e pos) (tAsg te (gName i)) := by
  intro pn sh st hp D k inv hq
  refine wpAny_Assign_Name (thn (he pn sh st hp _ k inv hq) fun v sh1 w1 => ?_) hs
  obtain ⟨y, hp1, inv1, ry, hq1⟩ := w1
  exact store_ok inv1 hN hi hx ry (fun _ inv2 => ⟨_, hp1, inv2, hq1⟩) hf
/-- these are written texts -/
inductive ConL : List Expr → List Str → Prop
  | nil : ConL [] []
  | cons {c : Str} {j : Nat} {p : Pos} {es : List Expr} {cs : List Str} (h : ConL es cs) : ConL (.Constant (.str c) j p :: es) (c :: cs)
def valsT : Nat → List Str → List Value
  | _, [] => []
  | t, c :: cs => .str c t :: valsT (t + 1) cs
theorem valsT_get : ∀ {cs : List Str} {t i : Nat} {z : Str}, cs[i]? = some z → (valsT t cs)[i]? = some (.str z (t + i))
  | [], _, _, _, h => by cases h
  | c :: cs, t, 0, z, h => by
    obtain rfl : c = z := Option.some.inj h
    rfl
  | c :: cs, t, i + 1, z, h => by
    show (valsT (t + 1) cs)[i]? = _
    rw [valsT_get (show cs[i]? = some z from h), show t + 1 + i = t + (i + 1) by omega]
theorem valsT_vals : ∀ (cs : List Str) (t : Nat), Vals (cs.map V.str) (valsT t cs)
  | [], _ => .nil
  | c :: cs, t => .cons ⟨t, rfl⟩ (valsT_vals cs (t + 1))
theorem valsT_len : ∀ (cs : List Str) (t : Nat), (valsT t cs).length = cs.length
  | [], _ => rfl
  | c :: cs, t => congrArg (· + 1) (valsT_len cs (t + 1))
theorem conL_run {es : List Expr} {cs : List Str} (h : ConL es cs) : ∀ {sh : Shared} {Q : List Value → Shared → Prop} {E : Value → Shared → Prop} {p : Pos}, (∀ k, Q (valsT sh.toks cs) { sh with toks := k }) → wpAny (model X.prog X.w) X.A (spliced (backTo p (starEach es X.env))) Q E sh := by
  induction h with
  | nil => exact fun hq => Calls.spliced_nil (hq _)
  | @cons c j q es cs _ ih =>
    intro sh Q E p hq
    show wpAny _ _ (spliced ((false, eval (.Constant (.str c) j q) X.env) :: backTo p (starEach es X.env))) _ _ sh
    exact Calls.spliced_cons (Calls.Constant_str (ih fun k => hq k))
/-- o.replace(y, [..][i]) -/
def tReplI (to : TE) (y : Str) (cs : List Str) (ti : TE) : TE := fun σ H Q => to σ H fun v H1 => ∃ x, v = .str x ∧ ∀ p ob, H1 p = none → (∀ o, ob = HO.frz o (.lst (cs.map V.str)) → ti σ (upd H1 p ob) fun w H2 => ∃ (i : Nat) (z : Str), w = .int (i : Int) ∧ cs[i]? = some z ∧ (y == z) = false ∧ H2 p = some ob ∧ x.length + (x.length + 1) * z.length ≤ 16777216 ∧ Q (.str (Txt.replace x y z)) H2)
theorem pet_replI {o idx : Expr} {to ti : TE} {y : Str} {cs : List Str} {es : List Expr} {j : Nat} {c0 lp ip apos : Pos} (ho : PE X o to) (hc : ConL es cs) (hi : PE X idx ti) (hl : cs.length ≤ 1000) (hp : PlainIx idx)
    (hst : starEach [.Constant (.str y) j c0, .Subscript (.List es lp) idx ip] X.env = [(false, eval (.Constant (.str y) j c0) X.env), (false, eval (.Subscript (.List es lp) idx ip) X.env)] := by rfl)
    (hbase : attributeBase o "replace" X.env (eval o X.env) = eval o X.env := by rfl) (hline : (apos.endLine == pos.line) = true := by rfl) :
    PET X (.Call (.Attribute o "replace" apos) [.Constant (.str y) j c0, .Subscript (.List es lp) idx ip] [] pos) (tReplI to y cs ti) := by
  intro pn sh st hp0 Qv k inv hq
  refine PySem.Call_method2 hbase hst hline (wpAny_mono (PySem.wpAny_toks (ho.run pn sh st hp0 _ inv hq)) (fun v sh1 w1 => ?_) fun _ _ w => w.2)
  obtain ⟨k1, v', hp1, inv1, r1, x, e1, hq1⟩ := w1
  subst e1
  obtain ⟨tx, e2⟩ := r1
  subst e2
  refine ⟨"str", _, PySem.F.plainAttrs_str, PySem.F.slot_str_replace, PySem.F.type_str_replace, typeIs_str _ _ _, (fun _ z => nomatch z), Calls.callWith_builtin rfl (Calls.evalArgs_plain (Calls.spliced_cons (Calls.Constant_str (Calls.spliced_cons ?_))))⟩
  refine Subscript_ (wpAny_List_spliced (conL_run hc fun k2 => ?_))
  have hsz : (valsT (sh1.toks + 1) cs).length ≤ sizeLine := by
    rw [valsT_len]
    exact Nat.le_trans hl (by decide)
  refine ⟨hsz, ?_⟩
  let ob : Obj := { cls := .type "list", data := .seq (valsT (sh1.toks + 1) cs).toArray }
  have hn : hp1 sh1.heap.objs.size = none := inv1.hok.fresh (Nat.le_refl _)
  have inv2 : L2.Inv X pn st (upd hp1 sh1.heap.objs.size (.frz ob (.lst (cs.map V.str)))) { sh1 with heap := sh1.heap.push ob, toks := k2 } :=
    inv1.laid (t' := k2) (fun b u w => Heap.get?_push_of_some _ w) (Nat.le_refl _) ⟨Heap.get?_push_size _ rfl, by rw [List.length_map]; exact Nat.le_trans hl (by decide), valsT (sh1.toks + 1) cs, 0, valsT_vals cs _, Heap.get?_push_size _ rfl⟩
  refine thn (hi.run pn _ st _ _ inv2 (hq1 _ _ hn ob rfl)) fun u sh3 w3 => ?_
  obtain ⟨w, hp3, inv3, rw3, i, z, rfl, hz, hyz, hob, hb, hq3⟩ := w3
  obtain ⟨ti', rfl⟩ := (show ∃ t, u = Value.int i t from rw3)
  obtain ⟨hg, _⟩ := inv3.hok _ _ hob
  have hget : (valsT (sh1.toks + 1) cs).toArray[((i : Nat) : Int).toNat]? = some (.str z (sh1.toks + 1 + i)) := by
    rw [Int.toNat_natCast, List.getElem?_toArray]
    exact valsT_get hz
  have hil : i < cs.length := (List.getElem?_eq_some_iff.mp hz).1
  refine item_listR ⟨ob, hg, rfl, _, rfl⟩ (by omega) (by omega) hget ?_ (hp _ _)
  refine Calls.spliced_nil ?_
  exact PySem.SC.replace (by show sh1.toks ≠ 0; omega) (by show sh1.toks + 1 + i ≠ 0; omega) (by show sh1.toks ≠ sh1.toks + 1 + i; omega) hyz hb fun t' k' => ⟨.str (Txt.replace x y z), hp3, inv3.tok k', ⟨t', rfl⟩, hq3⟩
end
section
variable {K : PySem.W.Frag} {W : WX} {Γ : Gm} {μ : Mu} {X : XD} {P : PD}
theorem we_replC {to : TE} {y z : Str} (h : We K W to Γ μ (fun d μ1 => ∃ x, d = .str x ∧ x.length + (x.length + 1) * z.length ≤ 16777216 ∧ P (.str (Txt.replace x y z)) μ1) X) : We K W (CwR.tReplC to y z) Γ μ P X := by
  intro S σ H Q a b c e
  refine h S σ H _ a b (fun d μ1 v S1 H1 p1 n1 a1 h1 => ?_) e
  obtain ⟨x, rfl, hb, p⟩ := p1
  exact ⟨x, h1.str_inv, hb, c _ μ1 _ S1 H1 p n1 a1 .str⟩
theorem we_replI {to ti : TE} {y : Str} {cs : List Str} (h : We K W to Γ μ (fun d μ1 => ∃ x, d = .str x ∧ We K W ti Γ μ1 (fun d2 μ2 => ∃ (i : Nat) (z : Str), d2 = .int (i : Int) ∧ cs[i]? = some z ∧ (y == z) = false ∧ x.length + (x.length + 1) * z.length ≤ 16777216 ∧ P (.str (Txt.replace x y z)) μ2) X) X) : We K W (tReplI to y cs ti) Γ μ P X := by
  intro S σ H Q a b c e
  refine h S σ H _ a b (fun d μ1 v S1 H1 p1 n1 a1 h1 => ?_) e
  obtain ⟨x, rfl, q⟩ := p1
  refine ⟨x, h1.str_inv, fun p ob hp o ho => ?_⟩
  obtain ⟨n2, a2⟩ := a1.lay ob hp
  refine q _ σ _ _ a2 (b.mono (n1.trans n2).ss) (fun d2 μ2 v2 S2 H2 p2 n3 a3 h3 => ?_) (e.nx (n1.trans n2))
  obtain ⟨i, z, rfl, hz, hyz, hb, hP⟩ := p2
  refine ⟨i, z, h3.int_inv, hz, hyz, ?_, hb, c _ μ2 _ S2 H2 hP ((n1.trans n2).trans n3) a3 .str⟩
  exact a3.ex _ _ (n3.ss _ _ upd_same)
end
end Nm
/-! D20: zip of a list and a tuple; a table of the module asked with .get. -/
namespace Nm
open PySem RZ
open PySem.Sem (wp)
section
variable {pg : Program} {w : World} {A : Around} {E : Value → Shared → Prop} {s : Shared}
theorem zipM_next_item {zp Ta To ia ib la lb : Addr} {c1 c2 : Nat} {us vs : Array Value} {x y a b : Value} {Q : Value → Shared → Prop} (Ap : ZipApart zp Ta To ia ib la lb)
    (qz : IsZip s.heap zp Ta To .none) (qTI : IsPair s.heap Ta (.ref ia) (.ref ib)) (qTO : IsPair s.heap To a b)
    (w1 : s.heap.IsListIter ia la c1) (w2 : s.heap.IsTupleIter ib lb c2) (ql : s.heap.IsList la us) (qt : s.heap.IsTuple lb vs) (qx : us[c1]? = some x) (qy : vs[c2]? = some y)
    (kQ : ∀ h', IsZip h' zp Ta To (rawInt s.heap.objs.size) → IsPair h' To x y → h'.IsListIter ia la (c1 + 1) → h'.IsTupleIter ib lb (c2 + 1) → IsPair h' s.heap.objs.size x y → h'.objs.size = s.heap.objs.size + 1 →
      (∀ cc oo, cc ≠ zp → cc ≠ To → cc ≠ ia → cc ≠ ib → s.heap.get? cc = some oo → h'.get? cc = some oo) → Q (.ref s.heap.objs.size) { s with heap := h' }) :
    wpAny (model pg w) A (Builtin.«zip.__next__» ⟨[.ref zp], []⟩) (fun fn s' => ∃ v, fn = .done (.ret v) ∧ Q v s') E s := by
  show wpAny _ _ (field (.ref zp) 2 >>= _) _ _ _
  refine wpAny_bind (wpAny_field qz rfl (x := .bool false) rfl ?_)
  show wpAny _ _ (field (.ref zp) 3 >>= _) _ _ _
  refine wpAny_bind (wpAny_field qz rfl (x := .ref Ta) rfl ?_)
  refine wpAny_bind (wpAny_seqItems qTI rfl ?_)
  show wpAny _ _ (Builtin.SmallTypes.ownedTupleIsFree (.ref zp) >>= _) _ _ _
  refine wpAny_bind ?_
  rw [Builtin.SmallTypes.ownedTupleIsFree]
  refine wpAny_bind (wpAny_field qz rfl (x := .none) rfl (wpAny_pure ?_))
  simp only [if_true]
  refine wpAny_bind ?_
  refine wpAny_rule ?_
  refine wpAny_bind (wpAny_field qz rfl (x := .ref To) rfl ?_)
  refine wpAny_bind (wpAny_setField_rec qz (by simp) fun hp1_1 qz_1 hss_1 => ?_)
  replace qz_1 : IsZip hp1_1 zp Ta To .ellipsis := qz_1
  refine wpAny_bind ?_
  simp only [List.forIn_nil, List.forIn_cons, List.zipIdx_nil, List.zipIdx_cons]

  refine wpAny_bind ?_
  refine wpAny_bind ?_
  refine wpAny_onRaise ?_
  show wpAny _ _ (Builtin.SmallTypes.nextOf (.ref ia) >>= _) _ _ _
  refine wpAny_bind (wpAny_nextOf_list_item (w1.extBut hss_1.extBut Ap.i1z) (ql.extBut hss_1.extBut Ap.l1z) qx fun hp1_2 w1_2 hss_2 => wpAny_pure ?_)
  have qTO_2 : IsPair hp1_2 To a b := hss_2.extBut _ _ Ap.TOi1 (hss_1.extBut _ _ Ap.TOz qTO)
  refine wpAny_bind (wpAny_seqItems qTO_2 rfl ?_)
  refine wpAny_bind (wpAny_updateSeq_pair qTO_2 fun hp1_3 qTO_3 hss_3 => ?_)
  replace qTO_3 : IsPair hp1_3 To x b := qTO_3
  refine wpAny_bind ?_
  refine wpAny_letGo ?_
  refine wpAny_pure ?_

  refine wpAny_bind ?_
  refine wpAny_bind ?_
  refine wpAny_onRaise ?_
  show wpAny _ _ (Builtin.SmallTypes.nextOf (.ref ib) >>= _) _ _ _
  refine wpAny_bind (nextOf_tuple_item (((w2.extBut hss_1.extBut Ap.i2z).extBut hss_2.extBut Ap.i12.symm).extBut hss_3.extBut Ap.TOi2.symm)
    (((qt.extBut hss_1.extBut Ap.l2z).extBut hss_2.extBut Ap.l2i1).extBut hss_3.extBut Ap.l2TO) qy fun hp1_4 w2_4 hss_4 => wpAny_pure ?_)
  have qTO_4 : IsPair hp1_4 To x b := hss_4.extBut _ _ Ap.TOi2 qTO_3
  refine wpAny_bind (wpAny_seqItems qTO_4 rfl ?_)
  refine wpAny_bind (wpAny_updateSeq_pair qTO_4 fun hp1_5 qTO_5 hss_5 => ?_)
  replace qTO_5 : IsPair hp1_5 To x y := qTO_5
  refine wpAny_bind ?_
  refine wpAny_letGo ?_
  refine wpAny_pure ?_
  refine wpAny_pure ?_

  refine wpAny_bind (wpAny_seqItems qTO_5 rfl ?_)
  refine wpAny_bind ?_
  refine wpAny_newTuple ?_
  have esz : hp1_5.objs.size = s.heap.objs.size := by rw [hss_5.1, hss_4.1, hss_3.1, hss_2.1, hss_1.1]
  have qz_5 : IsZip hp1_5 zp Ta To .ellipsis := hss_5.extBut _ _ Ap.TOz.symm (hss_4.extBut _ _ Ap.i2z.symm (hss_3.extBut _ _ Ap.TOz.symm (hss_2.extBut _ _ Ap.i1z.symm qz_1)))
  have ek_5 : ∀ cc oo, cc ≠ zp → cc ≠ To → cc ≠ ia → cc ≠ ib → s.heap.get? cc = some oo → hp1_5.get? cc = some oo := fun cc oo c1 c2 c3 c4 e =>
    hss_5.extBut _ _ c2 (hss_4.extBut _ _ c4 (hss_3.extBut _ _ c2 (hss_2.extBut _ _ c3 (hss_1.extBut _ _ c1 e))))
  have w1_5 : hp1_5.IsListIter ia la (c1 + 1) := ((w1_2.extBut hss_3.extBut Ap.TOi1.symm).extBut hss_4.extBut Ap.i12).extBut hss_5.extBut Ap.TOi1.symm
  have w2_5 : hp1_5.IsTupleIter ib lb (c2 + 1) := w2_4.extBut hss_5.extBut Ap.TOi2.symm
  have lz : zp < hp1_5.objs.size := Heap.lt_size qz_5
  have lTo : To < hp1_5.objs.size := Heap.lt_size qTO_5
  have lia : ia < hp1_5.objs.size := by obtain ⟨_, e, _⟩ := w1_5; exact Heap.lt_size e
  have lib : ib < hp1_5.objs.size := by obtain ⟨_, e, _⟩ := w2_5; exact Heap.lt_size e
  show wpAny _ _ (Builtin.SmallTypes.ownedTupleHandOut (.ref zp) (.ref hp1_5.objs.size) >>= _) _ _ _
  refine wpAny_bind ?_
  rw [Builtin.SmallTypes.ownedTupleHandOut]
  have qz_6 : IsZip (hp1_5.push { cls := .type "tuple", data := .seq #[x, y] }) zp Ta To .ellipsis := Heap.get?_push_of_some _ qz_5
  refine wpAny_bind (wpAny_setField_rec qz_6 (by simp) fun hp1_7 qz_7 hss_7 => ?_)
  replace qz_7 : IsZip hp1_7 zp Ta To (rawInt hp1_5.objs.size) := qz_7
  refine wpAny_setField_rec qz_7 (by simp) fun hp1_8 qz_8 hss_8 => ?_
  replace qz_8 : IsZip hp1_8 zp Ta To (rawInt hp1_5.objs.size) := qz_8
  have lift : ∀ cc oo, cc ≠ zp → hp1_5.get? cc = some oo → hp1_8.get? cc = some oo := fun cc oo c1 e => hss_8.extBut _ _ c1 (hss_7.extBut _ _ c1 (Heap.get?_push_of_some _ e))
  have kT_8 : IsPair hp1_8 hp1_5.objs.size x y := hss_8.extBut _ _ (Nat.ne_of_gt lz) (hss_7.extBut _ _ (Nat.ne_of_gt lz) (Heap.get?_push_size _ rfl))
  have hz8 : hp1_8.objs.size = hp1_5.objs.size + 1 := by rw [hss_8.1, hss_7.1, Heap.size_push]
  rw [esz] at qz_8 kT_8 hz8
  refine wpAny_pure (Exists.intro _ ⟨rfl, ?_⟩)
  show Q (.ref hp1_5.objs.size) _
  rw [esz]
  exact kQ hp1_8 qz_8 (lift _ _ Ap.TOz qTO_5) (w1_5.at fun oo e => lift _ oo Ap.i1z e) (w2_5.at fun oo e => lift _ oo Ap.i2z e) kT_8 hz8 fun cc oo c1 c2 c3 c4 e => lift cc oo c1 (ek_5 cc oo c1 c2 c3 c4 e)

theorem zipM_next_end {zp Ta To ia ib la lb : Addr} {c1 c2 : Nat} {us vs : Array Value} {a b : Value} {Q : Fin → Shared → Prop} (nh : A.handled = none) (Ap : ZipApart zp Ta To ia ib la lb)
    (qz : IsZip s.heap zp Ta To .none) (qTI : IsPair s.heap Ta (.ref ia) (.ref ib)) (qTO : IsPair s.heap To a b)
    (w1 : s.heap.IsListIter ia la c1) (w2 : s.heap.IsTupleIter ib lb c2) (ql : s.heap.IsList la us) (qt : s.heap.IsTuple lb vs) (kend : us[c1]? = none ∨ vs[c2]? = none)
    (kE : ∀ h' e, (∀ cc oo, cc ≠ zp → cc ≠ To → cc ≠ ia → cc ≠ ib → s.heap.get? cc = some oo → h'.get? cc = some oo) → (∃ oo, h'.get? e = some oo ∧ oo.cls = .type "StopIteration") → E (.ref e) { s with heap := h' }) :
    wpAny (model pg w) A (Builtin.«zip.__next__» ⟨[.ref zp], []⟩) Q E s := by
  show wpAny _ _ (field (.ref zp) 2 >>= _) _ _ _
  refine wpAny_bind (wpAny_field qz rfl (x := .bool false) rfl ?_)
  show wpAny _ _ (field (.ref zp) 3 >>= _) _ _ _
  refine wpAny_bind (wpAny_field qz rfl (x := .ref Ta) rfl ?_)
  refine wpAny_bind (wpAny_seqItems qTI rfl ?_)
  show wpAny _ _ (Builtin.SmallTypes.ownedTupleIsFree (.ref zp) >>= _) _ _ _
  refine wpAny_bind ?_
  rw [Builtin.SmallTypes.ownedTupleIsFree]
  refine wpAny_bind (wpAny_field qz rfl (x := .none) rfl (wpAny_pure ?_))
  simp only [if_true]
  refine wpAny_bind ?_
  refine wpAny_rule ?_
  refine wpAny_bind (wpAny_field qz rfl (x := .ref To) rfl ?_)
  refine wpAny_bind (wpAny_setField_rec qz (by simp) fun hp1_1 qz_1 hss_1 => ?_)
  replace qz_1 : IsZip hp1_1 zp Ta To .ellipsis := qz_1
  refine wpAny_bind ?_
  simp only [List.forIn_nil, List.forIn_cons, List.zipIdx_nil, List.zipIdx_cons]
  refine wpAny_bind ?_
  refine wpAny_bind ?_
  refine wpAny_onRaise ?_
  show wpAny _ _ (Builtin.SmallTypes.nextOf (.ref ia) >>= _) _ _ _
  cases qx : us[c1]? with
  | none =>
    refine wpAny_bind (wpAny_nextOf_list_end nh (w1.extBut hss_1.extBut Ap.i1z) (ql.extBut hss_1.extBut Ap.l1z) qx fun hp1_2 e hss_2 he => ?_)
    obtain ⟨oe, koe, kce⟩ := he
    have qz_2 : IsZip hp1_2 zp Ta To .ellipsis := hss_2 _ _ Ap.i1z.symm qz_1
    have nez : e ≠ zp := fun x => by subst x; rw [qz_2] at koe; cases koe; simp at kce
    refine wpAny_setField_rec qz_2 (by simp) fun hp1_3 _ hss_3 => kE hp1_3 e (fun cc oo c1 _ c3 _ x => hss_3.extBut _ _ c1 (hss_2 _ _ c3 (hss_1.extBut _ _ c1 x))) ⟨oe, hss_3.extBut _ _ nez koe, kce⟩
  | some x =>
    have qy : vs[c2]? = none := by rcases kend with hp1 | hp1; rw [qx] at hp1; cases hp1; exact hp1
    refine wpAny_bind (wpAny_nextOf_list_item (w1.extBut hss_1.extBut Ap.i1z) (ql.extBut hss_1.extBut Ap.l1z) qx fun hp1_2 w1_2 hss_2 => wpAny_pure ?_)
    have qTO_2 : IsPair hp1_2 To a b := hss_2.extBut _ _ Ap.TOi1 (hss_1.extBut _ _ Ap.TOz qTO)
    refine wpAny_bind (wpAny_seqItems qTO_2 rfl ?_)
    refine wpAny_bind (wpAny_updateSeq_pair qTO_2 fun hp1_3 qTO_3 hss_3 => ?_)
    refine wpAny_bind ?_
    refine wpAny_letGo ?_
    refine wpAny_pure ?_
    refine wpAny_bind ?_
    refine wpAny_bind ?_
    refine wpAny_onRaise ?_
    show wpAny _ _ (Builtin.SmallTypes.nextOf (.ref ib) >>= _) _ _ _
    refine wpAny_bind (nextOf_tuple_end nh (((w2.extBut hss_1.extBut Ap.i2z).extBut hss_2.extBut Ap.i12.symm).extBut hss_3.extBut Ap.TOi2.symm)
      (((qt.extBut hss_1.extBut Ap.l2z).extBut hss_2.extBut Ap.l2i1).extBut hss_3.extBut Ap.l2TO) qy fun hp1_4 e hss_4 he => ?_)
    obtain ⟨oe, koe, kce⟩ := he
    have qz_4 : IsZip hp1_4 zp Ta To .ellipsis := hss_4 _ _ Ap.i2z.symm (hss_3.extBut _ _ Ap.TOz.symm (hss_2.extBut _ _ Ap.i1z.symm qz_1))
    have nez : e ≠ zp := fun x => by subst x; rw [qz_4] at koe; cases koe; simp at kce
    refine wpAny_setField_rec qz_4 (by simp) fun hp1_5 _ hss_5 => kE hp1_5 e (fun cc oo c1 c2 c3 c4 x => hss_5.extBut _ _ c1 (hss_4 _ _ c4 (hss_3.extBut _ _ c2 (hss_2.extBut _ _ c3 (hss_1.extBut _ _ c1 x))))) ⟨oe, hss_5.extBut _ _ nez koe, kce⟩

theorem pyNext_zipM_item {zp Ta To ia ib la lb : Addr} {c1 c2 : Nat} {us vs : Array Value} {x y a b : Value} {Q : Option Value → Shared → Prop} (Ap : ZipApart zp Ta To ia ib la lb)
    (qz : IsZip s.heap zp Ta To .none) (qTI : IsPair s.heap Ta (.ref ia) (.ref ib)) (qTO : IsPair s.heap To a b)
    (w1 : s.heap.IsListIter ia la c1) (w2 : s.heap.IsTupleIter ib lb c2) (ql : s.heap.IsList la us) (qt : s.heap.IsTuple lb vs) (qx : us[c1]? = some x) (qy : vs[c2]? = some y)
    (kQ : ∀ h', IsZip h' zp Ta To (rawInt s.heap.objs.size) → IsPair h' To x y → h'.IsListIter ia la (c1 + 1) → h'.IsTupleIter ib lb (c2 + 1) → IsPair h' s.heap.objs.size x y → h'.objs.size = s.heap.objs.size + 1 →
      (∀ cc oo, cc ≠ zp → cc ≠ To → cc ≠ ia → cc ≠ ib → s.heap.get? cc = some oo → h'.get? cc = some oo) → Q (some (.ref s.heap.objs.size)) { s with heap := h' }) :
    wpAny (model pg w) A (pyNext (.ref zp)) Q E s := by
  have kT : s.TypeIs (.ref zp) "zip" := ⟨_, qz, rfl⟩
  unfold pyNext
  exact wpAny_bind (wpAny_attempt (wpAny_callSpecial?_slot (name := Str.ofString "__next__") kT F.slot_zip_next
    (wpAny_call_entry F.slot_zip_next kT F.entry_zip_next
      (zipM_next_item Ap qz qTI qTO w1 w2 ql qt qx qy fun h' a1 a2 a3 a4 a5 a6 a7 => wpAny_pure (kQ h' a1 a2 a3 a4 a5 a6 a7)) (F.args_zip_next_1 _))))

theorem pyNext_zipM_end {zp Ta To ia ib la lb : Addr} {c1 c2 : Nat} {us vs : Array Value} {a b : Value} {Q : Option Value → Shared → Prop} (nh : A.handled = none) (Ap : ZipApart zp Ta To ia ib la lb)
    (qz : IsZip s.heap zp Ta To .none) (qTI : IsPair s.heap Ta (.ref ia) (.ref ib)) (qTO : IsPair s.heap To a b)
    (w1 : s.heap.IsListIter ia la c1) (w2 : s.heap.IsTupleIter ib lb c2) (ql : s.heap.IsList la us) (qt : s.heap.IsTuple lb vs) (kend : us[c1]? = none ∨ vs[c2]? = none)
    (kQ : ∀ h', (∀ cc oo, cc ≠ zp → cc ≠ To → cc ≠ ia → cc ≠ ib → s.heap.get? cc = some oo → h'.get? cc = some oo) → Q none { s with heap := h' }) : wpAny (model pg w) A (pyNext (.ref zp)) Q E s := by
  have kT : s.TypeIs (.ref zp) "zip" := ⟨_, qz, rfl⟩
  unfold pyNext
  refine wpAny_bind (wpAny_attempt (wpAny_callSpecial?_slot (name := Str.ofString "__next__") kT F.slot_zip_next
    (wpAny_call_entry F.slot_zip_next kT F.entry_zip_next (zipM_next_end nh Ap qz qTI qTO w1 w2 ql qt kend fun h' e ek he => ?_) (F.args_zip_next_1 _))))
  obtain ⟨oo, ho, nc⟩ := he
  refine wpAny_bind (wpAny_isInstance (T := "StopIteration") (b := true) ⟨oo, ho, nc⟩ isSubtype_stop ?_)
  exact wpAny_pure (kQ _ ek)
end

abbrev zmH1 (hp1 : Heap) (la : Addr) : Heap := hp1.push { cls := .type "list_iterator", data := .fields #[.ref la, .int 0 0] }
abbrev zmH2 (hp1 : Heap) (la lb : Addr) : Heap := (zmH1 hp1 la).push { cls := .type "tuple_iterator", data := .fields #[.ref lb, .int 0 0] }
abbrev zmH3 (hp1 : Heap) (la lb : Addr) : Heap := (zmH2 hp1 la lb).push { cls := .type "tuple", data := .seq #[.ref hp1.objs.size, .ref (zmH1 hp1 la).objs.size] }
abbrev zmH4 (hp1 : Heap) (la lb : Addr) : Heap := (zmH3 hp1 la lb).push { cls := .type "tuple", data := .seq #[.none, .none] }
abbrev zmH5 (hp1 : Heap) (la lb : Addr) : Heap := (zmH4 hp1 la lb).push { cls := .type "zip", data := .fields #[.none, .bool false, .bool false, .ref (zmH2 hp1 la lb).objs.size, .ref (zmH3 hp1 la lb).objs.size] }

theorem meets_zipM_new (la lb : Addr) (us vs : Array Value) :
    Meets (Builtin.«zip.__new__» ⟨[.type "zip", .ref la, .ref lb], []⟩) (fun _ R s => s.heap.IsList la us ∧ s.heap.IsTuple lb vs ∧
      R (.ok (.ret (.ref (zmH4 s.heap la lb).objs.size))) { s with heap := zmH5 s.heap la lb }) :=
  .of_wp fun pg w A R s hp1 => by
    obtain ⟨hp0, g, d, tk, os⟩ := s; obtain ⟨ql, qt, hp1⟩ := hp1
    have ksub := sub_zip
    have kL1 : Heap.IsList (Shared.heap ⟨hp0, g, d, tk, os⟩) la us := ql
    have kL2 : Heap.IsTuple (Shared.heap ⟨hp0.push { cls := .type "list_iterator", data := .fields #[.ref la, .int 0 0] }, g, d, tk, os⟩) lb vs := Heap.IsTuple.push qt _
    wp_walk using wpAny_pyIter_list kL1, wpAny_pyIter_tuple kL2
    exact ⟨_, rfl, hp1⟩

section
variable {pg : Program} {w : World} {A : Around} {E : Value → Shared → Prop} {s : Shared}

theorem call_zipM {la lb : Addr} {us vs : Array Value} {Q : Value → Shared → Prop} (ql : s.heap.IsList la us) (qt : s.heap.IsTuple lb vs)
    (hp1 : ∀ h', IsZip h' (s.heap.objs.size + 4) (s.heap.objs.size + 2) (s.heap.objs.size + 3) .none → IsPair h' (s.heap.objs.size + 2) (.ref s.heap.objs.size) (.ref (s.heap.objs.size + 1)) →
      IsPair h' (s.heap.objs.size + 3) .none .none → h'.IsListIter s.heap.objs.size la 0 → h'.IsTupleIter (s.heap.objs.size + 1) lb 0 → h'.objs.size = s.heap.objs.size + 5 →
      (∀ cc oo, s.heap.get? cc = some oo → h'.get? cc = some oo) → Q (.ref (s.heap.objs.size + 4)) { s with heap := h' }) :
    wpAny (model pg w) A (call (.type "zip") [.ref la, .ref lb]) Q E s := by
  refine callType_new F.called_zip (by decide) (F.typeCall_zip_2 _ _)
    (F.newCall_zip_2 _ _) (fun ob => F.args_object_init_3 ob _ _) F.entry_zip_new
    (meets_zipM_new la lb us vs) ⟨ql, qt, ?_⟩
  have y1 : (zmH1 s.heap la).objs.size = s.heap.objs.size + 1 := Heap.size_push ..
  have y2 : (zmH2 s.heap la lb).objs.size = s.heap.objs.size + 2 := by rw [Heap.size_push, y1]
  have y3 : (zmH3 s.heap la lb).objs.size = s.heap.objs.size + 3 := by rw [Heap.size_push, y2]
  have y4 : (zmH4 s.heap la lb).objs.size = s.heap.objs.size + 4 := by rw [Heap.size_push, y3]
  have y5 : (zmH5 s.heap la lb).objs.size = s.heap.objs.size + 5 := by rw [Heap.size_push, y4]
  have e5 : (zmH5 s.heap la lb).get? (zmH4 s.heap la lb).objs.size = some _ := Heap.get?_push_size _ rfl
  have e4 : (zmH5 s.heap la lb).get? (zmH3 s.heap la lb).objs.size = some _ := Heap.get?_push_of_some _ (Heap.get?_push_size _ rfl)
  have e3 : (zmH5 s.heap la lb).get? (zmH2 s.heap la lb).objs.size = some _ := Heap.get?_push_of_some _ (Heap.get?_push_of_some _ (Heap.get?_push_size _ rfl))
  have e2 : (zmH5 s.heap la lb).get? (zmH1 s.heap la).objs.size = some _ := Heap.get?_push_of_some _ (Heap.get?_push_of_some _ (Heap.get?_push_of_some _ (Heap.get?_push_size _ rfl)))
  have e1 : (zmH5 s.heap la lb).get? s.heap.objs.size = some _ := Heap.get?_push_of_some _ (Heap.get?_push_of_some _ (Heap.get?_push_of_some _ (Heap.get?_push_of_some _ (Heap.get?_push_size _ rfl))))
  show _ ∧ _
  rw [y2, y3, y4] at e5
  rw [y1, y2] at e3
  rw [y3] at e4
  rw [y1] at e2
  rw [y4]
  exact ⟨⟨_, e5, rfl⟩, hp1 _ e5 e3 e4 ⟨_, e1, rfl, rfl⟩ ⟨_, e2, rfl, rfl⟩ y5 fun cc oo x =>
    have p3 := Heap.get?_push_of_some _ (Heap.get?_push_of_some _ (Heap.get?_push_of_some _ x))
    Heap.get?_push_of_some _ (Heap.get?_push_of_some _ p3)⟩
end

end Nm
namespace Nm
open PySem PySem.Spec PyProof.Rows L2 RZ
/-- the tuples at a and b as they stand at each turn, the items in mk pairs -/
def ItzM (K : PySem.W.Frag) (a b : Addr) : It :=
  ⟨fun i H => ∃ (us vs : List V) (x y : V), SqL K H a us ∧ SqT K H b vs ∧ us[i]? = some x ∧ vs[i]? = some y,
    fun i H v H' => ∃ T x y, v = .ref T ∧ H T = none ∧ H' = upd H T (.tup [x, y]) ∧ (∀ us, SqL K H a us → us[i]? = some x) ∧ ∀ vs, SqT K H b vs → vs[i]? = some y,
    fun i H => ∃ us vs : List V, SqL K H a us ∧ SqT K H b vs ∧ (us.length ≤ i ∨ vs.length ≤ i)⟩
theorem turn_zipM {P : Program} {w : World} {K : PySem.W.Frag} {elts : List Expr} {kk : Nat} {tpos : Pos} {a b zp Ta To ia ib : Addr} (Ap : ZipApart zp Ta To ia ib a b) :
    Turn P w K (.Tuple elts kk tpos) (ItzM K a b) [zp, Ta, To, ia, ib] zp (fun i hp1 => IsZip hp1 zp Ta To .none ∧ IsPair hp1 Ta (.ref ia) (.ref ib) ∧ (∃ x y, IsPair hp1 To x y) ∧ hp1.IsListIter ia a i ∧ hp1.IsTupleIter ib b i) where
  mem := by simp
  obj := fun i hp1 sv cc nc => by
    obtain ⟨qz, qTI, ⟨x, y, qTO⟩, ⟨r1, e1, _, f1⟩, ⟨r2, e2, _, f2⟩⟩ := sv
    have e' : cc = zp ∨ cc = Ta ∨ cc = To ∨ cc = ia ∨ cc = ib := by simpa using nc
    rcases e' with w0 | w0 | w0 | w0 | w0
    · rw [w0]; exact ⟨_, qz, fun v w0 => nomatch w0⟩
    · rw [w0]; exact ⟨_, qTI, fun v w0 => nomatch w0⟩
    · rw [w0]; exact ⟨_, qTO, fun v w0 => nomatch w0⟩
    · rw [w0]; exact ⟨r1, e1, fun v w0 => by rw [f1] at w0; cases w0⟩
    · rw [w0]; exact ⟨r2, e2, fun v w0 => by rw [f2] at w0; cases w0⟩
  keep := fun i hp1 h' sv k => by
    obtain ⟨qz, qTI, ⟨x, y, qTO⟩, w1, w2⟩ := sv
    exact ⟨k zp (by simp) _ qz, k Ta (by simp) _ qTI, ⟨x, y, k To (by simp) _ qTO⟩, w1.at fun oo w0 => k ia (by simp) oo w0, w2.at fun oo w0 => k ib (by simp) oo w0⟩
  item := by
    intro X eP ew eK nc i pins s σ H E I kf sv kg
    subst eP ew eK
    obtain ⟨qz, qTI, ⟨x0, y0, qTO⟩, w1, w2⟩ := sv
    obtain ⟨us, vs, x, y, sx, sy, qx, qy⟩ := kg
    obtain ⟨ts, ra, p, _⟩ := I.list sx
    obtain ⟨ts2, rb, p2, _⟩ := I.tuple sy
    obtain ⟨u, eu, pu⟩ := ra.get qx
    obtain ⟨u2, eu2, pu2⟩ := rb.get qy
    have lzs : zp < s.heap.objs.size := Heap.lt_size qz
    refine pyNext_zipM_item Ap qz qTI qTO w1 w2 p.isList p2 (x := u) (y := u2) (by simpa using eu) (by simpa using eu2) fun h' z' TO' h1' h2' kT esz ek => ?_
    refine ⟨_, rfl, wpAny_letOwnedTupleGo_zip (s := { s with heap := h' }) z' fun h'' z'' bt => ?_⟩
    have hT2 : h''.get? s.heap.objs.size = some { cls := .type "tuple", data := .seq #[u, u2] } := (bt.2 _ (Nat.ne_of_gt lzs)).trans kT
    have mk : ObjOk X.prog X.w (upd H s.heap.objs.size (.tup [x, y])) h'' s.heap.objs.size (.tup [x, y]) :=
      ⟨by show 2 ≤ sizeLine; decide, [u, u2], .cons pu (.cons pu2 .nil), ⟨_, hT2, rfl, _, rfl⟩⟩
    have J1 : Inv X pins σ (upd H s.heap.objs.size (.tup [x, y])) { s with heap := h'' } :=
      I.turnedNew (t' := s.toks) (ch := [zp, Ta, To, ia, ib]) (fun cc oo hb w0 => (bt.2 cc (fun q' => hb (by simp [q']))).trans (ek cc oo (fun q' => hb (by simp [q'])) (fun q' => hb (by simp [q'])) (fun q' => hb (by simp [q'])) (fun q' => hb (by simp [q'])) w0)) kf (Nat.le_refl _) mk
    refine ⟨.ref s.heap.objs.size, _, J1, rfl, ⟨_, x, y, rfl, I.hok.fresh (Nat.le_refl _), rfl, fun l hl => by rw [I.list_inj hl sx]; exact qx, fun l hl => by rw [I.tuple_inj hl sy]; exact qy⟩, ⟨z'', ?_, ⟨u, u2, ?_⟩, ?_, ?_⟩, fun cc mc => ?_⟩
    · exact (bt.2 _ Ap.TIz).trans (ek _ _ Ap.TIz Ap.TITO Ap.TIi1 Ap.TIi2 qTI)
    · exact (bt.2 _ Ap.TOz).trans TO'
    · exact h1'.at fun oo w0 => (bt.2 _ Ap.i1z).trans w0
    · exact h2'.at fun oo w0 => (bt.2 _ Ap.i2z).trans w0
    · have ltc : cc < s.heap.objs.size := by
        have e' : cc = zp ∨ cc = Ta ∨ cc = To ∨ cc = ia ∨ cc = ib := by simpa using mc
        rcases e' with w0 | w0 | w0 | w0 | w0
        · rw [w0]; exact lzs
        · rw [w0]; exact Heap.lt_size qTI
        · rw [w0]; exact Heap.lt_size qTO
        · rw [w0]; obtain ⟨_, e1, _⟩ := w1; exact Heap.lt_size e1
        · rw [w0]; obtain ⟨_, e2, _⟩ := w2; exact Heap.lt_size e2
      rw [upd_ne (Nat.ne_of_lt ltc)]
      exact (kf cc mc).1
  done := by
    intro X eP ew eK nc i pins s σ H E I kf sv kg
    subst eP ew eK
    obtain ⟨qz, qTI, ⟨x0, y0, qTO⟩, w1, w2⟩ := sv
    obtain ⟨us, vs, sx, sy, kend⟩ := kg
    obtain ⟨ts, ra, p, _⟩ := I.list sx
    obtain ⟨ts2, rb, p2, _⟩ := I.tuple sy
    have la := ra.length
    have lb := rb.length
    have he : ts.toArray[i]? = none ∨ ts2.toArray[i]? = none := by
      rcases kend with w0 | w0
      · exact .inl (by simp; omega)
      · exact .inr (by simp; omega)
    exact pyNext_zipM_end (I.ok.hd nc) Ap qz qTI qTO w1 w2 p.isList p2 he fun h' ek => ⟨rfl, I.turnedL (t' := s.toks) (ch := [zp, Ta, To, ia, ib]) (fun cc oo hb w0 =>
      ek cc oo (fun q' => hb (by simp [q'])) (fun q' => hb (by simp [q'])) (fun q' => hb (by simp [q'])) (fun q' => hb (by simp [q'])) w0) kf⟩
  self := fun A i s Q E sv hp1 => wpAny_pyIter_zip sv.1 hp1

/-- zip(a list, a tuple) -/
def iZipM (K : PySem.W.Frag) (ta : TA) : TI := fun σ H R => ta σ H fun vs H1 => ∃ la lb us ws, vs = [.ref la, .ref lb] ∧ SqL K H1 la us ∧ SqT K H1 lb ws ∧ R (ItzM K la lb) H1
theorem pi_zipM {X : Cx} {e1 e2 : Expr} {ta : TA} {p0 pos tpos : Pos} {elts : List Expr} {kk : Nat} (hg : Gl X "zip") (hm : X.mg "zip" = none) (ha : PA X [e1, e2] ta)
    (hs : starEach [e1, e2] X.env = (false, eval e1 X.env) :: starEach [e2] X.env := by rfl) (hpl : (backTo pos (starEach [e2] X.env)).any (·.1) = false := by rfl) :
    PI X (.Tuple elts kk tpos) (.Call (.Name "zip" p0) [e1, e2] [] pos) (iZipM X.K ta) := by
  refine ⟨fun pn sh st hp R inv hq => ?_⟩
  refine Call_ (ld_blt inv hg hm PyProof.Rows.boot_zip (PyProof.Rows.callWith_type1 (thn (ha.run pos pn sh st hp _ inv hq) fun args sh1 wd => ?_) hs hpl))
  obtain ⟨vals, hp1, inv1, rel, la, lb, us, ws, rfl, hl, ht, hR⟩ := wd
  obtain ⟨v1, r1, rfl, hv1, rel⟩ : ∃ v1 r1, args = v1 :: r1 ∧ RelV (.ref la) v1 ∧ Vals [.ref lb] r1 := by cases rel with | cons h r => exact ⟨_, _, rfl, h, r⟩
  obtain ⟨v2, r2, rfl, hv2, rel⟩ : ∃ v2 r2, r1 = v2 :: r2 ∧ RelV (.ref lb) v2 ∧ Vals [] r2 := by cases rel with | cons h r => exact ⟨_, _, rfl, h, r⟩
  cases rel
  cases hv1
  cases hv2
  obtain ⟨tl, rl, pl, _⟩ := inv1.list hl
  obtain ⟨tt, rt, pt, _⟩ := inv1.tuple ht
  obtain ⟨ot, hot, _⟩ := id pt
  have far : ∀ j, FpOk X pn hp1 (sh1.heap.objs.size + j) := fun j => inv1.fpOk (Nat.le_add_right _ _) (inv1.hok.fresh (Nat.le_add_right _ _))
  refine call_zipM pl.isList (show sh1.heap.IsTuple lb tt.toArray from pt) fun h' qz qTI qTO i1 i2 _ keep => wpAny_pyIter_zip qz ?_
  have inv2 : L2.Inv X pn st hp1 { sh1 with heap := h' } := inv1.kept (t' := sh1.toks) keep
  refine ⟨sh1.heap.objs.size + 4, [sh1.heap.objs.size + 4, sh1.heap.objs.size + 2, sh1.heap.objs.size + 3, sh1.heap.objs.size, sh1.heap.objs.size + 1], _, _, hp1, rfl, inv2,
    turn_zipM (PySem.W.ktu_apart sh1.heap.objs.size la lb pl.lt (Heap.lt_size hot)), ⟨qz, qTI, ⟨_, _, qTO⟩, i1, i2⟩, fun b hb => ?_, hR⟩
  simp only [List.mem_cons, List.not_mem_nil, or_false] at hb
  rcases hb with rfl | rfl | rfl | rfl | rfl
  · exact far 4
  · exact far 2
  · exact far 3
  · exact far 0
  · exact far 1
section
variable {K : PySem.W.Frag} {W : WX} {Γ : Gm} {μ : Mu} {X : XD}
/-- the pairs -/
def pairZ : List D → List D → List D
  | d :: ds, e :: es => .tup [d, e] :: pairZ ds es
  | _, _ => []
theorem pairZ_get : ∀ {ds es : List D} {i : Nat} {q : D}, (pairZ ds es)[i]? = some q → ∃ d e, q = .tup [d, e] ∧ ds[i]? = some d ∧ es[i]? = some e
  | [], _, i, q, h => by cases h
  | _ :: _, [], i, q, h => by cases h
  | d :: ds, e :: es, 0, q, h => by
    obtain rfl := Option.some.inj h
    exact ⟨d, e, rfl, rfl, rfl⟩
  | d :: ds, e :: es, i + 1, q, h => pairZ_get (ds := ds) (es := es) h
theorem pairZ_len : ∀ {ds es : List D}, (pairZ ds es).length = min ds.length es.length
  | [], _ => by show 0 = min 0 _; omega
  | _ :: _, [] => by show 0 = min _ 0; omega
  | _ :: ds, _ :: es => by
    show (pairZ ds es).length + 1 = min (ds.length + 1) (es.length + 1)
    rw [pairZ_len]; omega
theorem hasL_get {S : Hp} : ∀ {ds : List D} {xs : List V} {i : Nat} {d : D}, HasL K S ds xs → ds[i]? = some d → ∃ x, xs[i]? = some x ∧ Has K S d x
  | [], _, _, _, _, h => by cases h
  | e :: ds, xs, 0, d, hl, h => by
    obtain ⟨x, r, rfl, h1, _⟩ := hl.cons_inv
    obtain rfl := Option.some.inj h
    exact ⟨x, rfl, h1⟩
  | e :: ds, xs, i + 1, d, hl, h => by
    obtain ⟨x, r, rfl, _, h2⟩ := hl.cons_inv
    exact hasL_get (ds := ds) (xs := r) (i := i) h2 h
theorem wi_zipM {ta : TA} {P : List D → Mu → Prop} (h : Wa K W ta Γ μ (fun ds μ1 => ∃ xs ys, ds = [.lst xs, .tup ys] ∧ P (pairZ xs ys) μ1) X) : Wi K W (iZipM K ta) Γ μ P X := by
  intro S σ H R a b c e
  refine h S σ H _ a b (fun ds μ1 vs S1 H1 p1 n1 a1 h1 => ?_) e
  obtain ⟨xs, ys, rfl, p⟩ := p1
  obtain ⟨v1, v2, rfl, hv1, hv2⟩ := has2 h1
  obtain ⟨la, us, rfl, hla, hus⟩ := (show ∃ q us, v1 = .ref q ∧ S1 q = some (.lst us) ∧ HasL K S1 xs us from hv1)
  obtain ⟨lb, ws, rfl, hlb, hws⟩ := (show ∃ q us, v2 = .ref q ∧ SqT K S1 q us ∧ HasL K S1 ys us from hv2)
  refine ⟨la, lb, us, ws, rfl, .inl (.inl (a1.ex _ _ hla)), same_sqt a1.ex hlb, c _ μ1 _ S1 H1 p n1 a1 fun i S2 H2 μ2 ss a2 => ?_⟩
  have kl : SqL K H2 la us := .inl (.inl (a2.ex _ _ (ss _ _ hla)))
  have kt : SqT K H2 lb ws := same_sqt a2.ex (same_sqt ss hlb)
  refine ⟨fun q hq => ?_, fun hn => ?_⟩
  · obtain ⟨d, f, rfl, hd, hf⟩ := pairZ_get hq
    obtain ⟨x, hx, kx⟩ := hasL_get hus hd
    obtain ⟨y, hy, ky⟩ := hasL_get hws hf
    refine ⟨⟨us, ws, x, y, kl, kt, hx, hy⟩, ?_⟩
    rintro z H3 ⟨T, x', y', rfl, hT, rfl, hx', hy'⟩
    obtain rfl : x' = x := Option.some.inj ((hx' us kl).symm.trans hx)
    obtain rfl : y' = y := Option.some.inj ((hy' ws kt).symm.trans hy)
    obtain ⟨n3, a3⟩ := a2.lay (.tup [x', y']) hT
    refine ⟨_, n3, a3, ?_⟩
    exact Has.tup (.inl (.inl upd_same)) (.cons (kx.mono fun b o z => n3.ss _ _ (ss _ _ z)) (.cons (ky.mono fun b o z => n3.ss _ _ (ss _ _ z)) .nil))
  · refine ⟨us, ws, kl, kt, ?_⟩
    have hl := pairZ_len (ds := xs) (es := ys)
    have := List.getElem?_eq_none_iff.mp hn
    have e1 := hus.length
    have e2 := hws.length
    omega
end
/-! ### a table of the module: texts to rows of texts and None -/
abbrev FRow := List (Option Str)
def cellV : Option Str → V
  | some x => .str x
  | none => .non
def cellD : Option Str → D
  | some x => .str x
  | none => .non
def cellB : Option Str → Value → Bool
  | some x, v => Value.isStrOf x v
  | none, .none => true
  | none, _ => false
def cellsB : FRow → List Value → Bool
  | [], [] => true
  | f :: fs, v :: vs => cellB f v && cellsB fs vs
  | _, _ => false
theorem cellsB_ok : ∀ {fs : FRow} {vs : List Value}, cellsB fs vs = true → Vals (fs.map cellV) vs
  | [], [], _ => .nil
  | [], _ :: _, h => by cases h
  | _ :: _, [], h => by cases h
  | f :: fs, v :: vs, h => by
    obtain ⟨h1, h2⟩ := Bool.and_eq_true_iff.mp h
    refine .cons ?_ (cellsB_ok h2)
    cases f with
    | some x =>
      obtain ⟨t, rfl⟩ := Value.isStrOf_shape h1
      exact ⟨t, rfl⟩
    | none => cases v <;> first | rfl | cases h1
def rowB (K : PySem.W.Frag) (fs : FRow) (u : Value) : Bool := match u with
  | .ref t => (match K.lookup t with
    | some ⟨.type c, _, .seq vs _, _⟩ => decide (c = "tuple") && (decide (vs.size ≤ 1000) && cellsB fs vs.toList)
    | _ => false)
  | _ => false
theorem row_has {K : PySem.W.Frag} {S : Hp} : ∀ {fs : FRow}, HasL K S (fs.map cellD) (fs.map cellV)
  | [] => .nil
  | some _ :: _ => .cons .str row_has
  | none :: _ => .cons .non row_has
theorem rowB_ok {K : PySem.W.Frag} {S : Hp} {fs : FRow} {u : Value} (h : rowB K fs u = true) : ∃ t, u = .ref t ∧ Has K S (.tup (fs.map cellD)) (.ref t) := by
  unfold rowB at h
  split at h
  · rename_i t
    split at h
    · rename_i c od vs n sl ho
      obtain ⟨h1, h⟩ := Bool.and_eq_true_iff.mp h
      obtain ⟨h2, h3⟩ := Bool.and_eq_true_iff.mp h
      have e1 : c = "tuple" := of_decide_eq_true h1
      subst e1
      refine ⟨t, rfl, Has.tup (xs := fs.map cellV) (.inr ⟨_, vs, n, ho, rfl, rfl, Nat.le_trans (of_decide_eq_true h2) (by decide), cellsB_ok h3⟩) row_has⟩
    · cases h
  · cases h
def entsB (K : PySem.W.Frag) : List (Str × FRow) → List DictEntry → Bool
  | [], [] => true
  | q :: r, e :: es => (Value.isStrOf q.1 e.key && rowB K q.2 e.val) && entsB K r es
  | _, _ => false
def tabB (K : PySem.W.Frag) (a : Addr) (kvs : List (Str × FRow)) : Bool := match K.lookup a with
  | some ⟨_, _, .dict es _, _⟩ => entsB K kvs es.toList
  | _ => false
theorem entsB_get {K : PySem.W.Frag} (z : Str) : ∀ {kvs : List (Str × FRow)} {es : List DictEntry}, entsB K kvs es = true →
    (match es.find? (·.key.isStr z) with
      | some e => some (some e.val)
      | none => if es.any (·.refKey) then none else some none) = (match kvs.find? fun q => decide (q.1 = z) with
      | some _ => (es.find? (·.key.isStr z)).map fun e => some e.val
      | none => some none) ∧ ∀ q, kvs.find? (fun q => decide (q.1 = z)) = some q → ∃ e, es.find? (·.key.isStr z) = some e ∧ rowB K q.2 e.val = true
  | [], [], _ => ⟨rfl, fun q hq => by cases hq⟩
  | [], _ :: _, h => by cases h
  | _ :: _, [], h => by cases h
  | q :: r, e :: es, h => by
    obtain ⟨h1, h2⟩ := Bool.and_eq_true_iff.mp h
    obtain ⟨h3, h4⟩ := Bool.and_eq_true_iff.mp h1
    obtain ⟨t, hk⟩ := Value.isStrOf_shape h3
    obtain ⟨i1, i2⟩ := entsB_get z h2
    have hs : e.key.isStr z = decide (q.1 = z) := by
      rw [PySem.W.isStr_of, hk, Bool.eq_iff_iff, decide_eq_true_eq]
      exact beq_iff_eq
    have hr : e.refKey = false := by
      unfold DictEntry.refKey
      rw [hk]
    by_cases c : q.1 = z
    · have hs1 : e.key.isStr z = true := by rw [hs, decide_eq_true c]
      rw [List.find?_cons_of_pos (p := fun x : DictEntry => x.key.isStr z) hs1, List.find?_cons_of_pos (p := fun q : Str × FRow => decide (q.1 = z)) (decide_eq_true c)]
      exact ⟨rfl, fun q' hq' => by obtain rfl := Option.some.inj hq'; exact ⟨e, rfl, h4⟩⟩
    · have hs1 : ¬ e.key.isStr z = true := by rw [hs, decide_eq_false c]; exact Bool.false_ne_true
      rw [List.find?_cons_of_neg (p := fun x : DictEntry => x.key.isStr z) hs1, List.find?_cons_of_neg (p := fun q : Str × FRow => decide (q.1 = z)) (by rw [decide_eq_false c]; exact Bool.false_ne_true), List.any_cons, hr, Bool.false_or]
      exact ⟨i1, i2⟩
/-- what is found at z -/
def rowAt (kvs : List (Str × FRow)) (z : Str) : Option FRow := (kvs.find? fun q => decide (q.1 = z)).map (·.2)
theorem tabB_get {K : PySem.W.Frag} {a : Addr} {kvs : List (Str × FRow)} (h : tabB K a kvs = true) (z : Str) :
    (∀ fs, rowAt kvs z = some fs → ∃ u, PySem.W.nsIn K a z = some (some u) ∧ rowB K fs u = true) ∧ (rowAt kvs z = none → PySem.W.nsIn K a z = some none) := by
  unfold tabB at h
  split at h
  · rename_i c od es n sl ho
    obtain ⟨h1, h2⟩ := entsB_get z h
    have e0 : PySem.W.nsIn K a z = (match es.toList.find? (·.key.isStr z) with
      | some e => some (some e.val)
      | none => if es.toList.any (·.refKey) then none else some none) := by
      unfold PySem.W.nsIn
      rw [ho]
      rfl
    rw [e0, h1]
    unfold rowAt
    cases q : kvs.find? fun q => decide (q.1 = z) with
    | none => exact ⟨fun fs hf => (by cases hf), fun _ => rfl⟩
    | some p =>
      obtain ⟨e, he, hr⟩ := h2 p q
      refine ⟨fun fs hf => ?_, fun hf => (by cases hf)⟩
      obtain rfl := Option.some.inj hf
      exact ⟨e.val, (by rw [he]; rfl), hr⟩
  · cases h
/-- the module's name x stands for such a table -/
structure GTab (K : PySem.W.Frag) (w : World) (mg : Str → Option Value) (x : Str) (a : Addr) (kvs : List (Str × FRow)) : Prop where
  gl : mg x = some (.ref a)
  kd : ∃ es n, KDict K w a es n
  tb : tabB K a kvs = true
/-- table.get(k, d) -/
def tKGet (K : PySem.W.Frag) (a : Addr) (to ty tx : TE) : TE := fun σ H Q => to σ H fun o H0 => o = .ref a ∧ ty σ H0 fun y H1 => tx σ H1 fun z H2 => ∃ (k : Str) (r : Option Value), y = .str k ∧ PySem.W.nsIn K a k = some r ∧ (∀ u, r = some u → ∃ v, RelV v u ∧ Q v H2) ∧ (r = none → Q z H2)
theorem pe_kget {X : Cx} {K : PySem.W.Frag} {w : World} {a : Addr} {o e f : Expr} {apos cpos : Pos} {to ty tx : TE} (hK : X.K = K) (hw : X.w = w) (D : ∃ es n, KDict K w a es n) (ho : PE X o to) (he : PE X e ty) (hf : PE X f tx) (m : M2 X o "get" apos e f cpos) : PE X (.Call (.Attribute o "get" apos) [e, f] [] cpos) (tKGet K a to ty tx) := by
  subst hK hw
  obtain ⟨es, n, D⟩ := D
  refine ⟨fun pn sh st hp Qv inv hq => ?_⟩
  refine wpAny_Call_method m.base m.few m.line PySem.F.plainAttrs_dict PySem.F.slot_dict_get PySem.F.type_dict_get (thn (ho.run pn sh st hp _ inv hq) fun v0 sh0 wd => ?_)
  obtain ⟨x0, hp0, inv0, r0, rfl, hq0⟩ := wd
  obtain rfl : v0 = Value.ref a := r0
  have hob := inv0.kIn _ _ D.at_
  refine ⟨kd_type D inv0, fun b z => ?_, ?_⟩
  · cases z
    exact ⟨_, hob, rfl⟩
  rw [m.trees]
  refine Calls.callWith_builtin rfl (Calls.evalArgs_plain (Calls.spliced_cons (thn (he.run pn sh0 st hp0 _ inv0 hq0) fun v1 sh1 wd1 => ?_)))
  obtain ⟨y, hp1, inv1, r1, hq1⟩ := wd1
  refine Calls.spliced_cons (thn (hf.run pn sh1 st hp1 _ inv1 hq1) fun v2 sh2 wd2 => Calls.spliced_nil ?_)
  obtain ⟨z, hp2, inv2, r2, k, r, rfl, hn, h1, h2⟩ := wd2
  obtain ⟨t, rfl⟩ := (show ∃ t, v1 = Value.str k t from r1)
  have hm := PySem.W.mapOf_K (prog := X.prog) (w := X.w) inv2.kIn D.at_ D.lit
  refine call_meetsIn PySem.F.slot_dict_get (kd_type D inv2) PySem.F.entry_dict_get (PySem.F.args_dict_get_3 _ _ _) (meets_dict_get_default (PySem.strKind X.prog X.w) a (PySem.strKind_is X.prog X.w k t) D.low v2) ⟨_, hm, ?_⟩
  rw [PySem.W.find_K D.at_ hn]
  cases r with
  | none => exact ⟨z, hp2, inv2.tok _, r2, h2 rfl⟩
  | some u =>
    obtain ⟨v, rv, hv⟩ := h1 u rfl
    exact ⟨v, hp2, inv2.tok _, rv, hv⟩
theorem we_kget {K : PySem.W.Frag} {W : WX} {Γ : Gm} {μ : Mu} {X : XD} {P : PD} {a : Addr} {to ty tx : TE} {kvs : List (Str × FRow)} (T : tabB K a kvs = true) (h : We K W to Γ μ (fun d0 μ0 => d0 = .ref a ∧ We K W ty Γ μ0 (fun d μ1 => ∃ k, d = .str k ∧ We K W tx Γ μ1 (fun d2 μ2 => P ((rowAt kvs k).elim d2 fun fs => .tup (fs.map cellD)) μ2) X) X) X) : We K W (tKGet K a to ty tx) Γ μ P X := by
  intro S σ H Q a0 b c e
  refine h S σ H _ a0 b (fun d0 μ0 v0 S0 H0 p0 n0 a1 h0 => ?_) e
  obtain ⟨rfl, p0⟩ := p0
  refine ⟨h0.ref_inv, p0 S0 σ H0 _ a1 (b.mono n0.ss) (fun d μ1 v S1 H1 p1 n1 a2 h1 => ?_) (e.nx n0)⟩
  obtain ⟨k, rfl, p1⟩ := p1
  refine p1 S1 σ H1 _ a2 (b.mono (n0.trans n1).ss) (fun d2 μ2 v2 S2 H2 p2 n2 a3 h2 => ?_) (e.nx (n0.trans n1))
  have nn := (n0.trans n1).trans n2
  obtain ⟨g1, g2⟩ := tabB_get T k
  cases q : rowAt kvs k with
  | none =>
    rw [q] at p2
    exact ⟨k, none, h1.str_inv, g2 q, fun u hu => (by cases hu), fun _ => c _ _ _ S2 H2 p2 nn a3 h2⟩
  | some fs =>
    rw [q] at p2
    obtain ⟨u, hu, hr⟩ := g1 fs q
    refine ⟨k, some u, h1.str_inv, hu, fun u' hu' => ?_, fun h => (by cases h)⟩
    obtain rfl := Option.some.inj hu'
    obtain ⟨t, rfl, ht⟩ := rowB_ok (S := S2) hr
    exact ⟨.ref t, rfl, c _ _ _ S2 H2 p2 nn a3 ht⟩
theorem pi_zipMK {X : Cx} {K : PySem.W.Frag} (hK : X.K = K) {e1 e2 : Expr} {ta : TA} {p0 pos tpos : Pos} {elts : List Expr} {kk : Nat} (hg : Gl X "zip") (hm : X.mg "zip" = none) (ha : PA X [e1, e2] ta)
    (hs : starEach [e1, e2] X.env = (false, eval e1 X.env) :: starEach [e2] X.env := by rfl) (hpl : (backTo pos (starEach [e2] X.env)).any (·.1) = false := by rfl) :
    PI X (.Tuple elts kk tpos) (.Call (.Name "zip" p0) [e1, e2] [] pos) (iZipM K ta) := hK ▸ pi_zipM hg hm ha hs hpl
end Nm
/-! D21: staticmethods read off their class. -/
namespace Nm
open PySem PySem.Spec PyProof.Rows L2
structure GSM (P : Program) (w : World) (K : PySem.W.Frag) (mg : Str → Option Value) (base : Heap) (C : Addr) (m : Str) (k : Nat) (ps : List Str) (sp : Sp) : Prop where
  rd : ClX.CRead K C (.type "type")
  ex : ∃ p g rest fd, PySem.W.findCls K (.ref C) (.type "type") m = some (.get (.builtin "staticmethod.__get__") (.ref p) .none (.ref C)) ∧ PySem.W.recIn K p "staticmethod" = some (.ref g :: rest) ∧ PySem.W.keepIn K (.ref g) = true ∧ L2.Binds K fd ps [] ∧ FnOk P w K mg base (L2.CX P w) k g fd ps sp
def tSMethD (C : Addr) (sp : Sp) (E : L2.St → XK) (ta : TE) (t : TA) : TE := fun σ H Q => ta σ H fun x H1 => x = .ref C ∧ t σ H1 fun vs H2 => sp vs H2 Q (E σ)
section
variable {X : Cx} {W : WX} {m : Str} {C : Addr} {k : Nat} {ps : List Str} {sp : Sp} {pos apos : Pos} {e o : Expr} {es : List Expr} {t : TA} {ta : TE}
theorem pe_gsm {pl : Sem Bool} (G : GSM X.prog X.w X.K X.mg X.base C m k ps sp) (hr : Room k X.A) (tk : Takes X W) (ho : PE X o ta) (ha : PA X (e :: es) t)
    (hst : starEach (e :: es) X.env = (false, eval e X.env) :: starEach es X.env := by rfl) (hpl : (backTo pos (starEach es X.env)).any (·.1) = false := by rfl)
    (ht : eval (.Call (.Attribute o m apos) (e :: es) [] pos) X.env = (do
      let ov ← eval o X.env; standAt apos.atName
      let (f, first) ← holding [ov] (getMethod ov m pl); callWith pos f first (backTo pos (starEach (e :: es) X.env)) (backToKw pos (keywordEach [] X.env))) := by rfl) :
    PE X (.Call (.Attribute o m apos) (e :: es) [] pos) (tSMethD C sp (L2.WE W) ta t) := by
  obtain ⟨rd, p, g, rest, fd, hf, hrc, hk, hb, F⟩ := G
  refine ⟨fun pn sh st hp Qv inv hq => ?_⟩
  refine PySem.W.methodCall_KW (pl := pl) (thn (ho.run pn sh st hp _ inv hq) fun v0 sh0 wd => ?_) ht
  obtain ⟨y, hp0, inv0, r0, rfl, hq0⟩ := wd
  obtain rfl : v0 = Value.ref C := r0
  refine PySem.W.method_cls inv0.kIn rd.ga (PySem.W.cls_bind inv0.kIn rd.rd hf ?_)
  refine wpAny_call (PySem.W.sm_get (s := { sh0 with toks := sh0.toks + 1 }) inv0.kIn hrc (PySem.W.handed_on rfl ?_))
  have inv1 : L2.Inv X pn st hp0 { sh0 with toks := sh0.toks + 1 } := inv0.tok _
  refine PySem.W.callWith_K (h₀ := X.base) inv1.ok.mod.kin hk (thn (ha.run pos pn _ st hp0 _ inv1 hq0) fun args sh2 wd2 => ?_) hst hpl
  obtain ⟨vs, hp2, inv2, r2, hq2⟩ := wd2
  exact ⟨inv2.kIn, wpAny_call (code_fnS (E := L2.WE W) F hr hb (passAt tk st) inv2 r2 hq2)⟩
end
theorem we_sm {K : PySem.W.Frag} {W : WX} {Γ : Gm} {μ : Mu} {X : XD} {C : Addr} {sd : SpD} {ta : TE} {t : TA} {P : PD} (h : We K W ta Γ μ (fun d μ1 => d = .ref C ∧ Wa K W t Γ μ1 (fun ds μ2 => sd ds μ2 P X) X) X) : We K W (tSMethD C (toSp K sd) (L2.WE W) ta t) Γ μ P X := by
  intro S σ H Q a b c e
  refine h S σ H _ a b (fun d μ1 x S1 H1 p1 n1 a1 h1 => ?_) e
  obtain ⟨rfl, p1⟩ := p1
  refine ⟨h1.ref_inv, p1 S1 σ H1 _ a1 (b.mono n1.ss) (fun d2 μ2 y S2 H2 p2 n2 a2 h6 => ?_) (e.nx n1)⟩
  have nn := n1.trans n2
  exact ⟨S2, _, μ2, P, X, a2, h6, p2, c.nx nn, e.nx nn⟩
end Nm
namespace Nm
open PySem PySem.Spec PyProof.Rows L2
/-- these targets write own slots alone -/
def OwnS (t : TGs) (vs : List Nat) : Prop := ∀ (xs : List V) (σ : L2.St) (H : Hp) (R : L2.St → Hp → Prop), t xs σ H R → t xs σ H fun σ2 H2 => L2.wipe σ2 vs = L2.wipe σ vs ∧ R σ2 H2
theorem wipe_set2 {σ : L2.St} {j : Nat} {x : V} {vs : List Nat} (h : j ∈ vs) : L2.wipe (σ.set j (some x)) vs = L2.wipe σ vs := by
  apply List.ext_getElem?
  intro i
  by_cases l : i < σ.length
  · by_cases m : i ∈ vs
    · rw [wipe_in m (by rw [List.length_set]; exact l), wipe_in m l]
    · rw [wipe_out' m, wipe_out' m, List.getElem?_set_ne (fun e => m (by rw [← e]; exact h))]
  · rw [List.getElem?_eq_none (by rw [wipe_length, List.length_set]; omega), List.getElem?_eq_none (by rw [wipe_length]; omega)]
theorem wipe_idem {σ : L2.St} {vs : List Nat} : L2.wipe (L2.wipe σ vs) vs = L2.wipe σ vs := by
  apply List.ext_getElem?
  intro i
  by_cases l : i < σ.length
  · by_cases m : i ∈ vs
    · rw [wipe_in m (by rw [wipe_length]; exact l), wipe_in m l]
    · rw [wipe_out' m]
  · rw [List.getElem?_eq_none (by rw [wipe_length, wipe_length]; omega), List.getElem?_eq_none (by rw [wipe_length]; omega)]
theorem owns_nil {vs : List Nat} : OwnS gNil vs := fun xs σ H R q => ⟨q.1, rfl, q.2⟩
theorem owns_cons {j : Nat} {t : TGs} {vs : List Nat} (h : j ∈ vs) (ht : OwnS t vs) : OwnS (gCons (gName j) t) vs := by
  intro xs σ H R q
  obtain ⟨v, r, rfl, q⟩ := q
  refine ⟨v, r, rfl, ?_⟩
  have z := ht r _ _ _ (show t r (σ.set j (some v)) H R from q)
  rw [wipe_set2 h] at z
  exact z
theorem own_tup {K : PySem.W.Frag} {n : Nat} {t : TGs} {vs : List Nat} (ht : OwnS t vs) : Own (gTup K n t) vs := by
  intro v σ H R q
  obtain ⟨a, xs, rfl, h1, h2, q⟩ := q
  refine ⟨a, xs, rfl, h1, h2, ?_⟩
  have z := ht xs _ _ _ q
  rw [wipe_idem] at z
  exact z
end Nm
namespace Nm
open PySem PySem.Spec PyProof.Rows L2
/-! ### a, b = a list -/
theorem pg_unlK {X : Cx} {K : PySem.W.Frag} (hK : X.K = K) {es : List Expr} {k : Nat} {t : TGs} {n : Nat} {pos : Pos} (hc : X.calm = true) (h : PGs X es t) (hn : (assignEach es X.env).length = n := by rfl) (hst : (assignEach es X.env).findIdx? (·.1) = none := by rfl) : PG X (.Tuple es k pos) (gUnl K n t) := hK ▸ pg_unl hc h hn hst
theorem wg_unl {K : PySem.W.Frag} {Γ : Gm} {μ : Mu} {n : Nat} {t : TGs} {d : D} {P : Gm → Mu → Prop} (h : items μ d fun ds => ds.length = n ∧ Wgs K t ds Γ μ P) : Wg K (gUnl K n t) d Γ μ P := by
  intro S σ H v R a b hv c
  obtain ⟨q, xs, ds, rfl, h1, h2, h3, h4⟩ := items_ok a hv h
  exact ⟨q, xs, rfl, h1, by rw [h2.length]; exact h3, h4 S σ H xs R a b h2 c⟩
end Nm
/-! D22: str.upper. -/
namespace Nm
open PySem PySem.Spec PyProof.Rows L2
def rUpperT : V → List V → Hp → VK → Prop := fun x xs H Q => ∃ a, x = .str a ∧ xs = [] ∧ a.length ≤ 5592405 ∧ Q (.str (Txt.upper a)) H
theorem mt_upperU {X : Cx} : MtR X "str.upper" rUpperT := mt_upper
def dUpper : D → List D → Mu → PD → Prop
  | .str x, [], μ, P => x.length ≤ 5592405 ∧ P (.str (Txt.upper x)) μ
  | _, _, _, _ => False
theorem mS_upper {K : PySem.W.Frag} : MS K rUpperT dUpper := by
  intro S H μ x xs d ds P Q a h hl p c
  unfold dUpper at p
  split at p
  · rw [h.str_inv, hl.nil_inv]
    exact ⟨_, rfl, rfl, p.1, c _ _ _ _ _ p.2 .refl a .str⟩
  · exact p.elim
/-! comprehensions over lists that may change -/
theorem we_lcML {K : PySem.W.Frag} {W : WX} {Γ : Gm} {μ : Mu} {X : XD} {tl : TE} {g : TG} {tt : TT} {te : TE} {vs : List Nat} {P : PD} (ow : Own g vs)
    (h : We K W tl Γ μ (fun d μ1 => ∃ ds, IsL μ1 d ds ∧ ∃ I : Nat → List D → Mu → Prop, I 0 [] μ1 ∧ (∀ i acc μ', I i acc μ' → IsL μ' d ds) ∧ (∀ i acc μ', I i acc μ' → acc.length ≤ i) ∧ ds.length < sizeLine ∧
      (∀ i d acc μ', ds[i]? = some d → I i acc μ' → Wg K g d (wipeG Γ vs) μ' fun Γ2 μ2 => Wt K wZ tt Γ2 μ2 (fun b μ3 =>
        if b = true then We K wZ te Γ2 μ3 (fun e μ4 => I (i + 1) (acc ++ [e]) μ4) X0 else I (i + 1) acc μ3) X0) ∧
      ∀ acc μ', I ds.length acc μ' → ∀ p, μ' p = none → P (.ref p) (um μ' p (.lst acc))) X) : We K W (tLc (iList K tl) g tt te vs) Γ μ P X := by
  intro S σ H Q a b c e
  refine h S σ H _ a b (fun dd μ1 v S1 H1 p1 n1 a1 hv => ?_) e
  obtain ⟨ds, hL, I, i0, hk, hl, hz, hs, hd⟩ := p1
  obtain ⟨q0, xs0, rfl, hq0, _⟩ := isL_ok a1 hv hL
  refine ⟨q0, rfl, ⟨xs0, hq0⟩, ?_⟩
  intro D hD
  have b1 : HasE K S1 Γ σ := b.mono n1.ss
  -- the list at D: known to the comprehension alone
  have start : Nx S1 H1 μ1 S1 (upd H1 D (.lst [])) μ1 ∧ Asr K S1 (upd H1 D (.lst [])) μ1 := by
    obtain ⟨n, as⟩ := a1.layM (.lst []) (.lst []) hD ⟨[], upd_same, .nil⟩
    have sm : SubM μ1 (um μ1 D (.lst [])) := SubM.um (a1.unk hD).2
    exact ⟨n.trans (Nx.sub sm), as.sub sm⟩
  obtain ⟨hS1, hm1⟩ := a1.unk hD
  let In : Nat → List Nm.D → Mu → Hp → Hp → Prop := fun i acc μ' S' H' => I i acc μ' ∧ Nx S1 H1 μ1 S' H' μ' ∧ Asr K S' H' μ' ∧ S' D = none ∧ μ' D = none ∧ ∃ xs, H' D = some (.lst xs) ∧ HasL K S' acc xs
  refine ⟨fun i m H' => m + i = ds.length ∧ ∃ acc μ' S', In i acc μ' S' H', ⟨ds.length, rfl, [], μ1, S1, i0, start.1, start.2, hS1, hm1, [], upd_same, .nil⟩, ?_⟩
  rintro i m H' ⟨hm, acc, μ', S', pI, n2, a2, sD, mD, xs, hDx, hacc⟩
  obtain ⟨q', xs', e', hq', hx'⟩ := isL_ok a2 (hv.mono n2.ss) (hk i acc μ' pI)
  cases e'
  have hHD : H' D ≠ none := by rw [hDx]; exact Option.some_ne_none _
  rcases Nat.lt_or_ge i ds.length with q | q
  · have ed : ds[i]? = some ds[i] := List.getElem?_eq_getElem q
    obtain ⟨x0, hx0, hd0⟩ := hx'.get ed
    refine .inr ⟨⟨xs', x0, hq', hx0⟩, fun H3 => ∃ acc3 μ3 S3, In (i + 1) acc3 μ3 S3 H3, ?_, fun x H2 yl => ?_⟩
    · rintro H3 ⟨acc3, μ3, S3, z⟩
      exact ⟨m - 1, by omega, by omega, acc3, μ3, S3, z⟩
    · obtain ⟨rfl, hz0⟩ := yl
      have ex := hz0 xs' hq'
      rw [hx0] at ex
      cases ex
      have n3 : Nx S' H2 μ' S' H2 μ' := .refl
      have a3 := a2
      have hx := hd0
      have fr : ∀ {Sa Ha : Hp} {μa : Mu}, Nx S' H2 μ' Sa Ha μa → Sa D = none ∧ μa D = none ∧ Ha D = some (.lst xs) := fun {Sa Ha μa} n => by
        refine ⟨n.nost D hHD sD mD, ?_, n.keep D _ hDx mD⟩
        cases eq : μa D with
        | none => rfl
        | some cc => exact absurd (n.fr D mD (by rw [eq]; exact Option.some_ne_none _)) hHD
      refine ow x0 σ H2 _ ?_
      refine hs i _ acc μ' ed pI S' _ H2 x0 _ a3 ((b1.mono (n2.ss.trans n3.ss)).wipe vs) hx ?_
      intro Γ4 μ4 σ4 S4 H4 p4 n4 a4 b4
      have m4 := n3.trans n4
      refine p4 S4 σ4 H4 _ a4 b4 (fun k μ5 S5 H5 p5 n5 a5 => ?_) (fun _ _ _ _ _ _ _ z => z.elim)
      have m5 := m4.trans n5
      cases k with
      | false =>
        refine iteF ⟨acc, μ5, S5, p5, n2.trans m5, a5, (fr m5).1, (fr m5).2.1, xs, (fr m5).2.2, hacc.mono m5.ss⟩
      | true =>
        refine iteT ?_
        refine (show We K wZ te Γ4 μ5 (fun e μ4 => I (i + 1) (acc ++ [e]) μ4) X0 from p5) S5 σ4 H5 _ a5 (b4.mono n5.ss) (fun d6 μ6 y S6 H6 p6 n6 a6 h6 => ?_) (fun _ _ _ _ _ _ _ z => z.elim)
        have m6 := m5.trans n6
        obtain ⟨f1, f2, f3⟩ := fr m6
        refine ⟨xs, f3, ?_, ?_⟩
        · have := hl i acc μ' pI
          rw [hacc.length]
          omega
        · have hh : HasL K S6 (acc ++ [d6]) (xs ++ [y]) := (hacc.mono m6.ss).app (.cons h6 .nil)
          have a7 : Asr K S6 H6 (um μ6 D (.lst acc)) := ⟨a6.ex, fun b cc e => by
            by_cases z : b = D
            · subst z
              rw [um_same] at e
              cases e
              exact ⟨f1, xs, f3, hacc.mono m6.ss⟩
            · rw [um_ne z] at e
              exact a6.mu b cc e⟩
          obtain ⟨n8, a8⟩ := a7.wr (.lst (xs ++ [y])) (.lst (acc ++ [d6])) (.lst acc) um_same ⟨xs ++ [y], upd_same, hh⟩
          rw [um_um] at n8 a8
          have sm : SubM μ6 (um μ6 D (.lst (acc ++ [d6]))) := SubM.um f2
          refine ⟨acc ++ [d6], μ6, S6, p6, ⟨(n2.trans m6).ss, fun b o e z => ?_, (n2.trans m6).nost, (n2.trans m6).fr, fun b z => ?_⟩, a8.sub sm, f1, f2, xs ++ [y], upd_same, hh⟩
          · have : b ≠ D := fun q => by rw [q, hD] at e; cases e
            rw [upd_ne this]
            exact (n2.trans m6).keep b o e z
          · by_cases q : b = D
            · rw [q, upd_same]; exact Option.some_ne_none _
            · rw [upd_ne q]; exact (n2.trans m6).dom b z
  · refine .inl ⟨⟨xs', hq', by rw [hx'.length]; exact q⟩, ?_⟩
    have ei : i = ds.length := by omega
    subst ei
    have a7 : Asr K S' H' (um μ' D (.lst acc)) := ⟨a2.ex, fun b cc e => by
      by_cases z : b = D
      · subst z
        rw [um_same] at e
        cases e
        exact ⟨sD, xs, hDx, hacc⟩
      · rw [um_ne z] at e
        exact a2.mu b cc e⟩
    refine c _ _ _ S' H' (hd acc μ' pI D mD) (n1.trans ⟨n2.ss, n2.keep, n2.nost, fun b z z' => ?_, n2.dom⟩) a7 (by unfold Has; rfl)
    by_cases q : b = D
    · rw [q]; exact hD
    · rw [um_ne q] at z'; exact n2.fr b z z'
/-- .. that picks and tells, the memory as it was -/
theorem we_lcFL {K : PySem.W.Frag} {W : WX} {Γ : Gm} {μ : Mu} {X : XD} {tl : TE} {g : TG} {tt : TT} {te : TE} {vs : List Nat} {P : PD} {α : Type} (ow : Own g vs) (l : List α) (gd : α → D) (p : α → Bool) (f : α → D) (hl : l.length < sizeLine)
    (hi : We K W tl Γ μ (fun d μ1 => IsL μ d (l.map gd) ∧ μ1 = μ) X)
    (hb : ∀ (i : Nat) (x : α), l[i]? = some x → Wg K g (gd x) (wipeG Γ vs) μ fun Γ2 μ2 => Wt K wZ tt Γ2 μ2 (fun b μ3 => if b = true then We K wZ te Γ2 μ3 (fun e μ4 => e = f x ∧ p x = true ∧ μ4 = μ) X0 else p x = false ∧ μ3 = μ) X0)
    (hp : P (.lst ((l.filter p).map f)) μ) : We K W (tLc (iList K tl) g tt te vs) Γ μ P X := by
  refine we_frz (we_lcML ow ?_)
  intro S σ H R a b c e
  refine hi S σ H R a b (fun d μ1 v S' H' q => ?_) e
  obtain ⟨hL, rfl⟩ := q
  refine c d μ1 v S' H' ⟨_, hL, fun i acc μ' => acc = ((l.take i).filter p).map f ∧ μ' = μ1, ⟨rfl, rfl⟩, ?_, ?_, by rw [List.length_map]; exact hl, ?_, ?_⟩
  · rintro i acc μ' ⟨_, rfl⟩
    exact hL
  · rintro i acc μ' ⟨rfl, _⟩
    rw [List.length_map]
    exact Nat.le_trans (List.length_filter_le ..) (by rw [List.length_take]; exact Nat.min_le_left _ _)
  · rintro i d acc μ' hd ⟨rfl, rfl⟩
    rw [List.getElem?_map] at hd
    obtain ⟨x, hx, rfl⟩ := Option.map_eq_some_iff.mp hd
    have ht : l.take (i + 1) = l.take i ++ [x] := by
      rw [List.take_succ, hx]; rfl
    have h := hb i x hx
    intro S σ H v R a b hv c
    refine h S σ H v R a b hv ?_
    intro Γ2 μ2 S2 H2 σ2 q n2 a2 b2
    refine c Γ2 μ2 S2 H2 σ2 ?_ n2 a2 b2
    intro S3 σ3 H3 Q3 a3 b3 c3 e3
    refine q S3 σ3 H3 Q3 a3 b3 (fun b4 μ4 S4 H4 p4 n4 a4 => c3 b4 μ4 S4 H4 ?_ n4 a4) e3
    cases b4 with
    | true =>
      refine iteT ?_
      have p4 : We K wZ te Γ2 μ4 (fun e μ5 => e = f x ∧ p x = true ∧ μ5 = μ') X0 := p4
      refine p4.imp fun e μ5 z => ?_
      obtain ⟨rfl, hpx, rfl⟩ := z
      refine ⟨?_, rfl⟩
      rw [ht, List.filter_append, List.map_append]
      simp [hpx]
    | false =>
      refine iteF ?_
      have p4 : p x = false ∧ μ4 = μ' := p4
      obtain ⟨hpx, rfl⟩ := p4
      refine ⟨?_, rfl⟩
      rw [ht, List.filter_append, List.map_append]
      simp [hpx]
  · rintro acc μ' ⟨rfl, rfl⟩ q hq
    refine ⟨q, .lst _, rfl, um_same, ?_⟩
    rw [dm_um hq]
    show P (.lst _) _
    rw [List.length_map, List.take_length]
    exact hp
end Nm
/-! the text by places; what the top has made -/
namespace Nm
open PySem PySem.Spec PyProof.Rows L2
def top (i : Nat) : Stmt := PySem.Challenge.pw_needmerge_k12_script_made_or_refused.main.body.getD i (.Pass ⟨0, 0, 0, 0⟩)
abbrev cA (K : PySem.W.Frag) (x : Str) : Addr := He.ga K x
structure Zs (mg : Str → Option Value) : Prop where
  z_len : mg "len" = none
  z_range : mg "range" = none
  z_int : mg "int" = none
  z_bool : mg "bool" = none
  z_list : mg "list" = none
  z_str : mg "str" = none
  z_tuple : mg "tuple" = none
  z_max : mg "max" = none
  z_min : mg "min" = none
  z_isinstance : mg "isinstance" = none
  z_sum : mg "sum" = none
  z_zip : mg "zip" = none
  z_enumerate : mg "enumerate" = none
  z_ValueError : mg "ValueError" = none
  z_sorted : mg "sorted" = none
  z_abs : mg "abs" = none
  z_any : mg "any" = none
  z_all : mg "all" = none
  z_reversed : mg "reversed" = none
  z_dict : mg "dict" = none
  z_iter : mg "iter" = none
  z_repr : mg "repr" = none
  z_print : mg "print" = none
  z_type : mg "type" = none
  z_NotImplemented : mg "NotImplemented" = none
structure DF (K : PySem.W.Frag) (mg : Str → Option Value) (x : Str) (st : Stmt) : Prop where
  ex : ∃ f fd, mg x = some (.ref f) ∧ FunD K x x (defArgs st) (defBody st) (defScope st) [] [] f fd
structure DM (K : PySem.W.Frag) (C : Addr) (m qual : Str) (st : Stmt) : Prop where
  ex : ∃ f fd, Meth K C m f ∧ FunD K m qual (defArgs st) (defBody st) (defScope st) [] [] f fd
end Nm
namespace Nm
open PySem PySem.Spec PyProof.Rows L2
/-! ### what is an instance of what -/
structure XF (K : PySem.W.Frag) (cs : List Str) : Prop where
  kit : ∀ c ∈ cs, ∀ t ∈ cs, PySem.W.kitOne K (.ref (cA K c)) (.ref (cA K t)) = some (decide (c = t))
  mrg : ∀ c ∈ cs, PySem.W.kitOne K (.ref (cA K c)) (.ref (cA K "MergeError")) = some true
  val : ∀ c ∈ cs, PySem.W.kitOne K (.ref (cA K c)) (.type "ValueError") = some true
  exm : ∀ c ∈ cs, ∀ t ∈ cs, PySem.W.exmOne K (.ref (cA K c)) (.ref (cA K t)) = some (decide (c = t))
theorem XF.kb {K : PySem.W.Frag} {cs : List Str} (F : XF K cs) (c t : Str) (b : Bool) (h : (decide (c ∈ cs) && (decide (t ∈ cs) && (decide (c = t) == b))) = true := by decide +kernel) : PySem.W.kitOne K (.ref (cA K c)) (.ref (cA K t)) = some b := by
  obtain ⟨h1, h⟩ := Bool.and_eq_true_iff.mp h
  obtain ⟨h2, h3⟩ := Bool.and_eq_true_iff.mp h
  rw [← beq_iff_eq.mp h3]
  exact F.kit c (of_decide_eq_true h1) t (of_decide_eq_true h2)
theorem XF.eb {K : PySem.W.Frag} {cs : List Str} (F : XF K cs) (c t : Str) (b : Bool) (h : (decide (c ∈ cs) && (decide (t ∈ cs) && (decide (c = t) == b))) = true := by decide +kernel) : PySem.W.exmOne K (.ref (cA K c)) (.ref (cA K t)) = some b := by
  obtain ⟨h1, h⟩ := Bool.and_eq_true_iff.mp h
  obtain ⟨h2, h3⟩ := Bool.and_eq_true_iff.mp h
  rw [← beq_iff_eq.mp h3]
  exact F.exm c (of_decide_eq_true h1) t (of_decide_eq_true h2)
theorem XF.mb {K : PySem.W.Frag} {cs : List Str} (F : XF K cs) (c : Str) (h : decide (c ∈ cs) = true := by decide +kernel) : PySem.W.kitOne K (.ref (cA K c)) (.ref (cA K "MergeError")) = some true := F.mrg c (of_decide_eq_true h)
theorem XF.vb {K : PySem.W.Frag} {cs : List Str} (F : XF K cs) (c : Str) (h : decide (c ∈ cs) = true := by decide +kernel) : PySem.W.kitOne K (.ref (cA K c)) (.type "ValueError") = some true := F.val c (of_decide_eq_true h)
def kindsL : List Str := ["BadName", "Taken", "Unknown", "BadStep", "BadLine", "Lacking", "Unclosed", "Foreign", "TooWide", "NoLine", "BadHeight", "InUse", "NoFact"]
/-- x's instances are of x alone among ts -/
structure XR (K : PySem.W.Frag) (x : Str) (ts : List Str) : Prop where
  kit : ∀ t ∈ ts, PySem.W.kitOne K (.ref (cA K x)) (.ref (cA K t)) = some (decide (x = t))
  mrg : PySem.W.kitOne K (.ref (cA K x)) (.ref (cA K "MergeError")) = some true
  val : PySem.W.kitOne K (.ref (cA K x)) (.type "ValueError") = some true
/-- the name x of a class -/
structure GLo (K : PySem.W.Frag) (mg : Str → Option Value) (x : Str) : Prop where
  gl : mg x = some (.ref (cA K x))
abbrev tLETTERS : Str := "abcdefghijklmnopqrstuvwxyz"
abbrev tSIGNS : Str := "abcdefghijklmnopqrstuvwxyz0123456789"
abbrev tNONE : Str := "none"
/-- the forms of the steps -/
def tFORMS : List (Str × FRow) := [("join", [some "join", none, none]), ("cut", [some "cut", none, none]), ("gain", [some "gain", none, some "over", none]), ("merge", [some "merge", none, none, some "over", none]),
  ("pick", [some "pick", none, some "over", none, some "onto", none]), ("undo", [some "undo", none, some "over", none, some "in", none])]
/-! ### what the head looks at -/
def oexB (K : PySem.W.Frag) (C : Addr) : Bool := (match K.lookup C with
  | some ⟨.type "type", _, .cls cd, sl⟩ => (match cd.mro, sl.toList with
    | .ref C' :: bm, [_, _, _, _, some (.builtin n), _] => C' == C && (n == "ValueError.__new__" && (!cd.hasDel && (cd.hasDict && PySem.HandSPX.refsVE bm)))
    | _, _ => false)
  | _ => false) && (decide (PySem.W.findIn K (.ref C) "__setattr__" = some (some (.builtin "object.__setattr__"))) && (decide (PySem.W.subIn K (.ref C) (.type "BaseException") = some true) && (decide (PySem.W.typeIn K (.ref C) = some (.type "type")) && PySem.W.keepIn K (.ref C))))
theorem oexB_ok {K : PySem.W.Frag} {C : Addr} (q : oexB K C = true) : OexC K C := by
  obtain ⟨q, h⟩ := Bool.and_eq_true_iff.mp q
  obtain ⟨h1, h⟩ := Bool.and_eq_true_iff.mp h
  obtain ⟨h2, h⟩ := Bool.and_eq_true_iff.mp h
  obtain ⟨h3, h4⟩ := Bool.and_eq_true_iff.mp h
  refine ⟨?_, of_decide_eq_true h1, of_decide_eq_true h2, of_decide_eq_true h3, h4⟩
  split at q
  · rename_i dd cd sl ho
    split at q
    · rename_i C' bm k0 k1 k2 k3 n k5 hm hs
      simp only [Bool.and_eq_true, beq_iff_eq, Bool.not_eq_true'] at q
      obtain ⟨rfl, rfl, hdel, hdict, ht⟩ := q
      obtain ⟨nm, bs, mro, ns, qn, hd, sn, sub, ab, col, del⟩ := cd
      dsimp only at hm hdel hdict
      subst hm hdel hdict
      have hsl : sl = #[k0, k1, k2, k3, some (.builtin "ValueError.__new__"), k5] := by
        obtain ⟨l⟩ := sl
        simp only at hs
        rw [hs]
      subst hsl
      exact ⟨nm, qn, ns, bs, bm, sn, sub, ab, col, dd, k0, k1, k2, k3, k5, ho, ht⟩
    · cases q
  · cases q
def excB (K : PySem.W.Frag) (D : Addr) : Bool := decide (PySem.W.findIn K (.ref D) "__getattribute__" = some (some (.builtin "BaseException.__getattribute__"))) && (decide (PySem.W.findIn K (.ref D) "__getattr__" = some none) && (decide (PySem.W.subIn K (.ref D) (.type "BaseException") = some true) && (PySem.W.hasDictIn K D &&
  (decide (PySem.W.findIn K (.ref D) "__class__" = some (some (.builtin "object.__class__"))) && (decide (PySem.W.specialIn K (.builtin "object.__class__") "__get__" = some (some (.builtin "getset_descriptor.__get__"))) && (decide (PySem.W.takesIn K (.builtin "object.__class__") = some true) && decide (PySem.W.mroIn K D (.type "object") = some true)))))))
theorem excB_ok {K : PySem.W.Frag} {D : Addr} (h : excB K D = true) : ExcC K D := by
  obtain ⟨h1, h⟩ := Bool.and_eq_true_iff.mp h
  obtain ⟨h2, h⟩ := Bool.and_eq_true_iff.mp h
  obtain ⟨h3, h⟩ := Bool.and_eq_true_iff.mp h
  obtain ⟨h4, h⟩ := Bool.and_eq_true_iff.mp h
  obtain ⟨h5, h⟩ := Bool.and_eq_true_iff.mp h
  obtain ⟨h6, h⟩ := Bool.and_eq_true_iff.mp h
  obtain ⟨h7, h8⟩ := Bool.and_eq_true_iff.mp h
  exact ⟨of_decide_eq_true h1, of_decide_eq_true h2, of_decide_eq_true h3, h4, of_decide_eq_true h5, of_decide_eq_true h6, of_decide_eq_true h7, of_decide_eq_true h8⟩
/-- one exception class: its init is MergeError's -/
def xcB (K : PySem.W.Frag) (x : Str) : Bool := oexB K (cA K x) && (xfB K (cA K x) && (excB K (cA K x) && (decide (PySem.W.findIn K (.ref (cA K x)) "subject" = some none) &&
  (decide (PySem.W.findIn K (.ref (cA K x)) "__init__" = some (some (.ref (He.ma K (cA K "MergeError") "__init__")))) && decide (PySem.W.typeIn K (.ref (He.ma K (cA K "MergeError") "__init__")) = some (.type "function"))))))
theorem xcB_ok {P : Program} {w : World} {K : PySem.W.Frag} {mg : Str → Option Value} {base : Heap} {x : Str} (h : xcB K x = true) (gl : mg x = some (.ref (cA K x)))
    (ini : ∃ f fd, Meth K (cA K "MergeError") "__init__" f ∧ L2.Binds K fd ["self", "subject"] [] ∧ FnOk P w K mg base (L2.CX P w) 1 f fd ["self", "subject"] (spExc K)) (hm : PySem.W.findIn K (.ref (cA K "MergeError")) "__init__" = some (some (.ref (He.ma K (cA K "MergeError") "__init__")))) : GX P w K mg base x (cA K x) := by
  obtain ⟨h1, h⟩ := Bool.and_eq_true_iff.mp h
  obtain ⟨h2, h⟩ := Bool.and_eq_true_iff.mp h
  obtain ⟨h3, h⟩ := Bool.and_eq_true_iff.mp h
  obtain ⟨h4, h⟩ := Bool.and_eq_true_iff.mp h
  obtain ⟨h5, h6⟩ := Bool.and_eq_true_iff.mp h
  obtain ⟨f, fd, M, b, F⟩ := ini
  have e : f = He.ma K (cA K "MergeError") "__init__" := by
    have := M.at_.symm.trans hm
    simpa using this
  subst e
  exact ⟨gl, oexB_ok h1, of_decide_eq_true h4, xfB_ok h2, excB_ok h3, _, fd, of_decide_eq_true h5, of_decide_eq_true h6, b, F⟩
def vvB (K : PySem.W.Frag) : Bool := match PySem.W.findCls K (.type "ValueError") (.type "type") "__init__" with
  | some (.val (.builtin n)) => n == "ValueError.__init__"
  | _ => false
theorem vvB_ok {K : PySem.W.Frag} (h : vvB K = true) : PySem.W.findCls K (.type "ValueError") (.type "type") "__init__" = some (.val (.builtin "ValueError.__init__")) := by
  unfold vvB at h
  split at h
  · rename_i n e
    rw [e, beq_iff_eq.mp h]
  · cases h
/-- which exceptions are instances of which -/
def xfaB (K : PySem.W.Frag) (cs : List Str) : Bool := cs.all fun c => decide (PySem.W.kitOne K (.ref (cA K c)) (.ref (cA K "MergeError")) = some true) && (decide (PySem.W.kitOne K (.ref (cA K c)) (.type "ValueError") = some true) &&
  cs.all fun t => decide (PySem.W.kitOne K (.ref (cA K c)) (.ref (cA K t)) = some (decide (c = t))) && decide (PySem.W.exmOne K (.ref (cA K c)) (.ref (cA K t)) = some (decide (c = t))))
theorem xfaB_ok {K : PySem.W.Frag} {cs : List Str} (h : xfaB K cs = true) : XF K cs := by
  have h0 : ∀ c ∈ cs, _ := fun c hc => Bool.and_eq_true_iff.mp (List.all_eq_true.mp h c hc)
  refine ⟨fun c hc t ht => ?_, fun c hc => of_decide_eq_true (h0 c hc).1, fun c hc => of_decide_eq_true (Bool.and_eq_true_iff.mp (h0 c hc).2).1, fun c hc t ht => ?_⟩
  · exact of_decide_eq_true (Bool.and_eq_true_iff.mp (List.all_eq_true.mp (Bool.and_eq_true_iff.mp (h0 c hc).2).2 t ht)).1
  · exact of_decide_eq_true (Bool.and_eq_true_iff.mp (List.all_eq_true.mp (Bool.and_eq_true_iff.mp (h0 c hc).2).2 t ht)).2
def xrB (K : PySem.W.Frag) (x : Str) (ts : List Str) : Bool := decide (PySem.W.kitOne K (.ref (cA K x)) (.ref (cA K "MergeError")) = some true) && (decide (PySem.W.kitOne K (.ref (cA K x)) (.type "ValueError") = some true) && ts.all fun t => decide (PySem.W.kitOne K (.ref (cA K x)) (.ref (cA K t)) = some (decide (x = t))))
theorem xrB_ok {K : PySem.W.Frag} {x : Str} {ts : List Str} (h : xrB K x ts = true) : XR K x ts := by
  obtain ⟨h1, h⟩ := Bool.and_eq_true_iff.mp h
  obtain ⟨h2, h3⟩ := Bool.and_eq_true_iff.mp h
  exact ⟨fun t ht => of_decide_eq_true (List.all_eq_true.mp h3 t ht), of_decide_eq_true h1, of_decide_eq_true h2⟩
theorem gc_of {P : Program} {w : World} {K : PySem.W.Frag} {mg : Str → Option Value} {base : Heap} {x : Str} {C : Addr} {k : Nat} {ps : List Str} {sp : Sp} {f' : Addr} (G : GM P w K mg base C "__init__" k ps sp) (gl : mg x = some (.ref C)) (mk : Mk K C f') : GC P w K mg base x C k ps sp := by
  obtain ⟨_, f, fd, M, b, F⟩ := G
  have e : f = f' := by
    have := M.at_.symm.trans mk.init
    simpa using this
  subst e
  exact ⟨gl, f, fd, mk, b, F⟩
/-! ### a property's getter -/
structure PrD where
  cls : Str
  m : Str
  d : He.DefD
  kd : Nat
def PrD.tag (p : PrD) : String := match p.kd with | 0 => "property" | 1 => "classmethod" | _ => "staticmethod"
def pAd (K : PySem.W.Frag) (p : PrD) : Addr := match PySem.W.recIn K (He.ma K (He.ga K p.cls) p.m) p.tag with
  | some (.ref g :: _) => g
  | _ => 0
def fnWa (K : PySem.W.Frag) (a : Addr) : He.FnW := match K.lookup a with
  | some ⟨_, _, .func fd, _⟩ => some (fd.name, fd.qualname, fd.params, fd.body, fd.scope, fd.globals, fd.closure, fd.builtins)
  | _ => none
def okA (K : PySem.W.Frag) (d : He.DefD) (a : Addr) : Bool := PySem.W.keepIn K (.ref a) && (match K.lookup a with
  | some ⟨_, _, .func fd, _⟩ => PySem.W.codeIn K fd.code d.qual && (He.dflB K fd.defaults (d.dvs K) && He.kwdB K fd.kwdefaults (d.kws K))
  | _ => false)
theorem funDa {K : PySem.W.Frag} {d : He.DefD} {a : Addr} (e : fnWa K a = d.val) (c : okA K d a = true) : ∃ fd, FunD K d.name d.qual d.params d.body d.scope (d.dvs K) (d.kws K) a fd := by
  obtain ⟨kp, c2⟩ := He.ba c
  unfold fnWa at e
  cases q : K.lookup a with
  | none =>
    rw [q] at c2
    cases c2
  | some o =>
    obtain ⟨oc, od, dt, osl⟩ := o
    rw [q] at c2 e
    cases dt with
    | func fd =>
      obtain ⟨n1, n2, n3, n4, n5, n6, n7, n8, n9, n10, n11, n12, n13, n14, n15⟩ := fd
      have e2 : (some (n1, n2, n3, n4, n5, n6, n7, n15) : He.FnW) = some (d.name, d.qual, d.params, .stmts d.body, d.scope, mainGlobals, [], builtinsNs) := e
      simp only [Option.some.injEq, Prod.mk.injEq] at e2
      obtain ⟨h1, h2, h3, h4, h5, h6, h7, h8⟩ := e2
      subst h1 h2 h3 h4 h5 h6 h7 h8
      have c3 : (PySem.W.codeIn K n13 d.qual && (He.dflB K n8 (d.dvs K) && He.kwdB K n9 (d.kws K))) = true := c2
      obtain ⟨k1, k2⟩ := He.ba c3
      obtain ⟨k3, k4⟩ := He.ba k2
      exact ⟨_, ⟨oc, od, n8, n9, n10, n11, n12, n13, n14, osl, rfl, q, k1, He.dflB_ok k3, He.kwdB_ok k4⟩, kp⟩
    | _ => cases c2
def PrD.pok (K : PySem.W.Frag) (p : PrD) : Bool := decide (PySem.W.findIn K (.ref (He.ga K p.cls)) p.m = some (some (.ref (He.ma K (He.ga K p.cls) p.m)))) && (decide (PySem.W.specialIn K (.ref (He.ma K (He.ga K p.cls) p.m)) "__get__" = some (some (.builtin "property.__get__"))) &&
  (decide (PySem.W.takesIn K (.ref (He.ma K (He.ga K p.cls) p.m)) = some true) && (match PySem.W.recIn K (He.ma K (He.ga K p.cls) p.m) "property" with
    | some (.ref _ :: _) => true
    | _ => false)))
def PrD.cok (K : PySem.W.Frag) (p : PrD) : Bool := PySem.W.fnIn K (pAd K p) && (PySem.W.readsIn K (He.ga K p.cls) (.type "type") && (decide (PySem.W.specialIn K (.ref (He.ga K p.cls)) "__getattribute__" = some (some (.builtin "type.__getattribute__"))) &&
  ((match PySem.W.findCls K (.ref (He.ga K p.cls)) (.type "type") p.m with
    | some (.get (.builtin g) (.ref q) .none (.ref D)) => decide (g = "classmethod.__get__" ∧ (q = He.ma K (He.ga K p.cls) p.m ∧ D = He.ga K p.cls))
    | _ => false) && (match PySem.W.recIn K (He.ma K (He.ga K p.cls) p.m) "classmethod" with
    | some (.ref _ :: _) => true
    | _ => false))))
def PrD.sok (K : PySem.W.Frag) (p : PrD) : Bool := PySem.W.keepIn K (.ref (pAd K p)) && (PySem.W.readsIn K (He.ga K p.cls) (.type "type") && (decide (PySem.W.specialIn K (.ref (He.ga K p.cls)) "__getattribute__" = some (some (.builtin "type.__getattribute__"))) &&
  ((match PySem.W.findCls K (.ref (He.ga K p.cls)) (.type "type") p.m with
    | some (.get (.builtin g) (.ref q) .none (.ref D)) => decide (g = "staticmethod.__get__" ∧ (q = He.ma K (He.ga K p.cls) p.m ∧ D = He.ga K p.cls))
    | _ => false) && (match PySem.W.recIn K (He.ma K (He.ga K p.cls) p.m) "staticmethod" with
    | some (.ref _ :: _) => true
    | _ => false))))
def PrD.ok (K : PySem.W.Frag) (p : PrD) : Bool := okA K p.d (pAd K p) && (match p.kd with | 0 => p.pok K | 1 => p.cok K | _ => p.sok K)
theorem prop_ok {K : PySem.W.Frag} {p : PrD} (hp : p.kd = 0) (e : fnWa K (pAd K p) = p.d.val) (c : p.ok K = true) : PropOf K (He.ga K p.cls) p.m (He.ma K (He.ga K p.cls) p.m) (pAd K p) ∧ ∃ fd, FunD K p.d.name p.d.qual p.d.params p.d.body p.d.scope (p.d.dvs K) (p.d.kws K) (pAd K p) fd := by
  obtain ⟨c1, c⟩ := He.ba c
  rw [hp] at c
  obtain ⟨c2, c⟩ := He.ba c
  obtain ⟨c3, c⟩ := He.ba c
  obtain ⟨c4, c5⟩ := He.ba c
  refine ⟨⟨of_decide_eq_true c2, of_decide_eq_true c3, of_decide_eq_true c4, ?_⟩, funDa e c1⟩
  have et : p.tag = "property" := by unfold PrD.tag; rw [hp]; rfl
  unfold pAd
  rw [et]
  split at c5
  · rename_i g rest hr
    rw [hr]
    exact ⟨rest, rfl⟩
  · cases c5
theorem cmet_ok {K : PySem.W.Frag} {p : PrD} (hp : p.kd = 1) (e : fnWa K (pAd K p) = p.d.val) (c : p.ok K = true) : ClX.CRead K (He.ga K p.cls) (.type "type") ∧ (ClX.CMet K (He.ga K p.cls) (.type "type") p.m (He.ma K (He.ga K p.cls) p.m) (pAd K p) ∧ ∃ fd, FunD K p.d.name p.d.qual p.d.params p.d.body p.d.scope (p.d.dvs K) (p.d.kws K) (pAd K p) fd) := by
  obtain ⟨c1, c⟩ := He.ba c
  rw [hp] at c
  obtain ⟨c2, c⟩ := He.ba c
  obtain ⟨c3, c⟩ := He.ba c
  obtain ⟨c4, c⟩ := He.ba c
  obtain ⟨c5, c6⟩ := He.ba c
  refine ⟨⟨c3, of_decide_eq_true c4⟩, ⟨?_, ?_, c2⟩, funDa e c1⟩
  · clear c6
    split at c5
    · rename_i g q D hf
      obtain ⟨rfl, rfl, rfl⟩ := of_decide_eq_true c5
      exact hf
    · cases c5
  · have et : p.tag = "classmethod" := by unfold PrD.tag; rw [hp]; rfl
    unfold pAd
    rw [et]
    split at c6
    · rename_i g rest hr
      rw [hr]
      exact ⟨rest, rfl⟩
    · cases c6
theorem smet_ok {K : PySem.W.Frag} {p : PrD} (hp : p.kd = 2) (e : fnWa K (pAd K p) = p.d.val) (c : p.ok K = true) : ClX.CRead K (He.ga K p.cls) (.type "type") ∧ (PySem.W.findCls K (.ref (He.ga K p.cls)) (.type "type") p.m = some (.get (.builtin "staticmethod.__get__") (.ref (He.ma K (He.ga K p.cls) p.m)) .none (.ref (He.ga K p.cls))) ∧ ((∃ rest, PySem.W.recIn K (He.ma K (He.ga K p.cls) p.m) "staticmethod" = some (.ref (pAd K p) :: rest)) ∧ (PySem.W.keepIn K (.ref (pAd K p)) = true ∧ ∃ fd, FunD K p.d.name p.d.qual p.d.params p.d.body p.d.scope (p.d.dvs K) (p.d.kws K) (pAd K p) fd))) := by
  obtain ⟨c1, c⟩ := He.ba c
  rw [hp] at c
  obtain ⟨c2, c⟩ := He.ba c
  obtain ⟨c3, c⟩ := He.ba c
  obtain ⟨c4, c⟩ := He.ba c
  obtain ⟨c5, c6⟩ := He.ba c
  refine ⟨⟨c3, of_decide_eq_true c4⟩, ?_, ?_, c2, funDa e c1⟩
  · clear c6
    split at c5
    · rename_i g q D hf
      obtain ⟨rfl, rfl, rfl⟩ := of_decide_eq_true c5
      exact hf
    · cases c5
  · have et : p.tag = "staticmethod" := by unfold PrD.tag; rw [hp]; rfl
    unfold pAd
    rw [et]
    split at c6
    · rename_i g rest hr
      rw [hr]
      exact ⟨rest, rfl⟩
    · cases c6
theorem gsm_of {P : Program} {w : World} {K : PySem.W.Frag} {mg : Str → Option Value} {base : Heap} {C : Addr} {m name qual : Str} {params : Arguments} {body : List Stmt} {scope : Scope} {p f : Addr} {fd : FuncData} {k : Nat} {ps : List Str} {sp : Sp} (rd : ClX.CRead K C (.type "type")) (h1 : PySem.W.findCls K (.ref C) (.type "type") m = some (.get (.builtin "staticmethod.__get__") (.ref p) .none (.ref C))) (h2 : ∃ rest, PySem.W.recIn K p "staticmethod" = some (.ref f :: rest)) (h3 : PySem.W.keepIn K (.ref f) = true) (F : FunD K name qual params body scope [] [] f fd)
    (hb : L2.Binds K fd ps []) (h : FnOk P w K mg base (L2.CX P w) k f fd ps sp) : GSM P w K mg base C m k ps sp := by
  obtain ⟨rest, h2⟩ := h2
  exact ⟨rd, p, f, rest, fd, h1, h2, h3, hb, h⟩
theorem gcm_of {P : Program} {w : World} {K : PySem.W.Frag} {mg : Str → Option Value} {base : Heap} {C : Addr} {m name qual : Str} {params : Arguments} {body : List Stmt} {scope : Scope} {p f : Addr} {fd : FuncData} {k : Nat} {ps : List Str} {sp : Sp} (rd : ClX.CRead K C (.type "type")) (cm : ClX.CMet K C (.type "type") m p f) (F : FunD K name qual params body scope [] [] f fd)
    (hb : L2.Binds K fd ps []) (h : FnOk P w K mg base (L2.CX P w) k f fd ps sp) : GCM P w K mg base C m k ps sp := ⟨rd, p, f, fd, cm, hb, h⟩
theorem gp_of {P : Program} {w : World} {K : PySem.W.Frag} {mg : Str → Option Value} {base : Heap} {C : Addr} {m name qual : Str} {params : Arguments} {body : List Stmt} {scope : Scope} {p f : Addr} {fd : FuncData} {k : Nat} {sp : Sp} (cl : Cls K C) (pr : PropOf K C m p f) (F : FunD K name qual params body scope [] [] f fd)
    (hb : L2.Binds K fd ["self"] []) (h : FnOk P w K mg base (L2.CX P w) k f fd ["self"] sp) : GP P w K mg base C m k sp := ⟨cl, p, f, fd, pr, hb, h⟩
/-! ### the Hook -/
/-- a table: its name, its keys and rows -/
abbrev TabD : Type := Str × List (Str × FRow)
/-- what is looked at: what the names reach in n steps, and the statics' table (readsIn asks it) -/
def asC (g : Addr → Option Obj) (n : Nat) : List Addr := He.asD g n ++ [PySem.cStatics]
abbrev AlX : Type := (He.AlD × (List He.FnW × Bool)) × List (Option (List (Option (Str × Int))))
def obsX (fa : List He.Fa) (fn : List He.DefD) (pr : List PrD) (ts : List TabD) (ex : PySem.W.Frag → Bool) (K : PySem.W.Frag) : AlX := ((He.obsD fa fn K, (pr.map fun p => fnWa K (pAd K p), (pr.all fun p => p.ok K) && ((ts.all fun t => tabB K (He.ga K t.1) t.2) && ex K))), ts.map fun t => He.dicW K (He.ga K t.1))
def valX (fn : List He.DefD) (pr : List PrD) (ts : List TabD) (w : World) : AlX := ((He.valD fn, (pr.map fun p => p.d.val, true)), ts.map fun t => some (He.keysIn w.params (t.2.map (·.1))))
structure SaysX (fa : List He.Fa) (fn : List He.DefD) (pr : List PrD) (ts : List TabD) (ex : PySem.W.Frag → Bool) (w : World) (K : PySem.W.Frag) : Prop where
  d : He.SaysD fa fn K
  p : (pr.map fun p => fnWa K (pAd K p)) = pr.map fun p => p.d.val
  ok : ((pr.all fun p => p.ok K) && ((ts.all fun t => tabB K (He.ga K t.1) t.2) && ex K)) = true
  t : (ts.map fun t => He.dicW K (He.ga K t.1)) = ts.map fun t => some (He.keysIn w.params (t.2.map (·.1)))
def hookX (n : Nat) (fa : List He.Fa) (fn : List He.DefD) (pr : List PrD) (ts : List TabD) (ex : PySem.W.Frag → Bool) : PySem.W.Hook where
  α := AlX
  obs := fun s => obsX fa fn pr ts ex (He.frG s.heap.get? (asC s.heap.get? n))
  val := fun w => valX fn pr ts w
  says := fun w h => ∃ K : PySem.W.Frag, K.In h ∧ SaysX fa fn pr ts ex w K
  of := fun _ _ e => ⟨_, He.frG_in, congrArg (fun z : AlX => z.1.1) e, congrArg (fun z : AlX => z.1.2.1) e, congrArg (fun z : AlX => z.1.2.2) e, congrArg (fun z : AlX => z.2) e⟩
  keeps := fun _ _ _ ⟨K, hK, c⟩ k => ⟨K, PySem.W.Frag.In.keeps hK k, c⟩
section
variable {fa : List He.Fa} {fn : List He.DefD} {pr : List PrD} {ts : List TabD} {ex : PySem.W.Frag → Bool} {w : World} {K : PySem.W.Frag}
theorem SaysX.ex_ (s : SaysX fa fn pr ts ex w K) : ex K = true := (He.ba (He.ba s.ok).2).2
theorem SaysX.val (s : SaysX fa fn pr ts ex w K) {i : Nat} {p : PrD} (h : pr[i]? = some p) : fnWa K (pAd K p) = p.d.val ∧ p.ok K = true := by
  refine ⟨?_, List.all_eq_true.mp (He.ba s.ok).1 p (List.mem_of_getElem? h)⟩
  have e2 : (pr.map fun p => fnWa K (pAd K p))[i]? = (pr.map fun p => p.d.val)[i]? := by rw [s.p]
  rw [List.getElem?_map, List.getElem?_map, h] at e2
  exact Option.some.inj e2
theorem SaysX.prop (s : SaysX fa fn pr ts ex w K) (i : Nat) {p : PrD} (h : pr[i]? = some p := by rfl) (hp : p.kd = 0 := by rfl) :
    PropOf K (He.ga K p.cls) p.m (He.ma K (He.ga K p.cls) p.m) (pAd K p) ∧ ∃ fd, FunD K p.d.name p.d.qual p.d.params p.d.body p.d.scope (p.d.dvs K) (p.d.kws K) (pAd K p) fd := prop_ok hp (s.val h).1 (s.val h).2
theorem SaysX.cmet (s : SaysX fa fn pr ts ex w K) (i : Nat) {p : PrD} (h : pr[i]? = some p := by rfl) (hp : p.kd = 1 := by rfl) :
    ClX.CRead K (He.ga K p.cls) (.type "type") ∧ (ClX.CMet K (He.ga K p.cls) (.type "type") p.m (He.ma K (He.ga K p.cls) p.m) (pAd K p) ∧ ∃ fd, FunD K p.d.name p.d.qual p.d.params p.d.body p.d.scope (p.d.dvs K) (p.d.kws K) (pAd K p) fd) := cmet_ok hp (s.val h).1 (s.val h).2
theorem SaysX.smet (s : SaysX fa fn pr ts ex w K) (i : Nat) {p : PrD} (h : pr[i]? = some p := by rfl) (hp : p.kd = 2 := by rfl) :
    ClX.CRead K (He.ga K p.cls) (.type "type") ∧ (PySem.W.findCls K (.ref (He.ga K p.cls)) (.type "type") p.m = some (.get (.builtin "staticmethod.__get__") (.ref (He.ma K (He.ga K p.cls) p.m)) .none (.ref (He.ga K p.cls))) ∧ ((∃ rest, PySem.W.recIn K (He.ma K (He.ga K p.cls) p.m) "staticmethod" = some (.ref (pAd K p) :: rest)) ∧ (PySem.W.keepIn K (.ref (pAd K p)) = true ∧ ∃ fd, FunD K p.d.name p.d.qual p.d.params p.d.body p.d.scope (p.d.dvs K) (p.d.kws K) (pAd K p) fd))) := smet_ok hp (s.val h).1 (s.val h).2
theorem SaysX.tab (s : SaysX fa fn pr ts ex w K) {mg : Str → Option Value} (i : Nat) {t : TabD} (h : ts[i]? = some t := by rfl) (g : mg t.1 = some (.ref (He.ga K t.1))) : GTab K w mg t.1 (He.ga K t.1) t.2 := by
  refine ⟨g, ?_, List.all_eq_true.mp (He.ba (He.ba s.ok).2).1 t (List.mem_of_getElem? h)⟩
  have e2 : (ts.map fun t => He.dicW K (He.ga K t.1))[i]? = (ts.map fun t => some (He.keysIn w.params (t.2.map (·.1))))[i]? := by rw [s.t]
  rw [List.getElem?_map, List.getElem?_map, h] at e2
  exact He.dicW_ok (Option.some.inj e2)
end
def obX (n : Nat) (fa : List He.Fa) (fn : List He.DefD) (pr : List PrD) (ts : List TabD) (ex : PySem.W.Frag → Bool) (g : Addr → Option Obj) : AlX := obsX fa fn pr ts ex (He.frG g (asC g n))
theorem obX_eq {n : Nat} {fa : List He.Fa} {fn : List He.DefD} {pr : List PrD} {ts : List TabD} {ex : PySem.W.Frag → Bool} {g : Addr → Option Obj} {s : Shared} (h : ∀ a, g a = s.heap.get? a) : obX n fa fn pr ts ex g = (hookX n fa fn pr ts ex).obs s := by
  have e : g = s.heap.get? := funext h
  rw [e] <;> rfl
end Nm
namespace Nm
open PySem PySem.Spec PyProof.Rows L2
abbrev s_is_name : Stmt := top 13
abbrev s_step_parts : Stmt := top 17
abbrev s_merged : Stmt := top 18
abbrev s_step_gains : Stmt := top 19
abbrev s_check_new : Stmt := top 21
abbrev s_step_row : Stmt := top 22
abbrev s_law_mixed : Stmt := top 25
abbrev s_law_pool : Stmt := top 26
abbrev s_law_take : Stmt := top 27
abbrev s_law_names : Stmt := top 28
abbrev s_law_pairs : Stmt := top 29
abbrev s_law_gains : Stmt := top 30
abbrev s_law_steps : Stmt := top 31
abbrev s_law_words : Stmt := top 32
abbrev s_law_texts : Stmt := top 33
abbrev s_law_bad_name : Stmt := top 34
abbrev s_law_is_name : Stmt := top 35
abbrev s_law_operands : Stmt := top 36
abbrev s_law_due : Stmt := top 37
abbrev s_law_spoil : Stmt := top 38
abbrev s_law_refused : Stmt := top 39
abbrev s_law_shows : Stmt := top 40
abbrev s_law_parts_right : Stmt := top 41
abbrev s_law_form_names : Stmt := top 42
abbrev s_law : Stmt := top 43
abbrev s_MergeErroru_initu : Stmt := inClass (top 2) 0
abbrev s_Scriptu_initu : Stmt := inClass (top 23) 0
abbrev s_Script_gains : Stmt := inClass (top 23) 6
abbrev s_Script_names : Stmt := inClass (top 23) 3
abbrev s_Script_steps : Stmt := inClass (top 23) 4
abbrev s_Script_operands : Stmt := inClass (top 23) 2
def prH : List PrD := [⟨"Script", "names", ⟨("names", none), "names", "Script.names", defArgs s_Script_names, defBody s_Script_names, defScope s_Script_names, [], []⟩, 0⟩, ⟨"Script", "steps", ⟨("steps", none), "steps", "Script.steps", defArgs s_Script_steps, defBody s_Script_steps, defScope s_Script_steps, [], []⟩, 0⟩, ⟨"Script", "operands", ⟨("operands", none), "operands", "Script.operands", defArgs s_Script_operands, defBody s_Script_operands, defScope s_Script_operands, [], []⟩, 2⟩]
def faH : List He.Fa := [.free "len", .free "range", .free "int", .free "bool", .free "list", .free "str", .free "tuple", .free "max", .free "min", .free "isinstance", .free "sum", .free "zip", .free "enumerate", .free "ValueError", .free "sorted", .free "abs", .free "any", .free "all", .free "reversed", .free "dict", .free "iter", .free "repr", .free "print", .free "type", .free "NotImplemented", .glo "is_name", .glo "step_parts", .glo "merged", .glo "step_gains", .glo "check_new", .glo "step_row", .glo "_law_mixed", .glo "_law_pool", .glo "_law_take", .glo "_law_names", .glo "_law_pairs", .glo "_law_gains", .glo "_law_steps", .glo "_law_words", .glo "_law_texts", .glo "_law_bad_name", .glo "_law_is_name", .glo "_law_operands", .glo "_law_due", .glo "_law_spoil", .glo "_law_refused", .glo "_law_shows", .glo "_law_parts_right", .glo "_law_form_names", .glo "law", .meth "MergeError" "__init__", .meth "Script" "__init__", .meth "Script" "gains", .cls "Script", .glo "Script", .mkr "Script", .noat "Script" "inputs", .noat "Script" "rows", .noat "Script" "known", .str "LETTERS" tLETTERS, .str "SIGNS" tSIGNS, .int "LONGEST" 8, .str "NONE" tNONE, .glo "FORMS", .glo "MergeError", .glo "BadName", .glo "Taken", .glo "Unknown", .glo "BadStep"]
def fnH : List He.DefD := [⟨("is_name", none), "is_name", "is_name", defArgs s_is_name, defBody s_is_name, defScope s_is_name, [], []⟩,
  ⟨("step_parts", none), "step_parts", "step_parts", defArgs s_step_parts, defBody s_step_parts, defScope s_step_parts, [], []⟩,
  ⟨("merged", none), "merged", "merged", defArgs s_merged, defBody s_merged, defScope s_merged, [], []⟩,
  ⟨("step_gains", none), "step_gains", "step_gains", defArgs s_step_gains, defBody s_step_gains, defScope s_step_gains, [], []⟩,
  ⟨("check_new", none), "check_new", "check_new", defArgs s_check_new, defBody s_check_new, defScope s_check_new, [], []⟩,
  ⟨("step_row", none), "step_row", "step_row", defArgs s_step_row, defBody s_step_row, defScope s_step_row, [], []⟩,
  ⟨("_law_mixed", none), "_law_mixed", "_law_mixed", defArgs s_law_mixed, defBody s_law_mixed, defScope s_law_mixed, [], []⟩,
  ⟨("_law_pool", none), "_law_pool", "_law_pool", defArgs s_law_pool, defBody s_law_pool, defScope s_law_pool, [], []⟩,
  ⟨("_law_take", none), "_law_take", "_law_take", defArgs s_law_take, defBody s_law_take, defScope s_law_take, [], []⟩,
  ⟨("_law_names", none), "_law_names", "_law_names", defArgs s_law_names, defBody s_law_names, defScope s_law_names, [], []⟩,
  ⟨("_law_pairs", none), "_law_pairs", "_law_pairs", defArgs s_law_pairs, defBody s_law_pairs, defScope s_law_pairs, [], []⟩,
  ⟨("_law_gains", none), "_law_gains", "_law_gains", defArgs s_law_gains, defBody s_law_gains, defScope s_law_gains, [], []⟩,
  ⟨("_law_steps", none), "_law_steps", "_law_steps", defArgs s_law_steps, defBody s_law_steps, defScope s_law_steps, [], []⟩,
  ⟨("_law_words", none), "_law_words", "_law_words", defArgs s_law_words, defBody s_law_words, defScope s_law_words, [], []⟩,
  ⟨("_law_texts", none), "_law_texts", "_law_texts", defArgs s_law_texts, defBody s_law_texts, defScope s_law_texts, [], []⟩,
  ⟨("_law_bad_name", none), "_law_bad_name", "_law_bad_name", defArgs s_law_bad_name, defBody s_law_bad_name, defScope s_law_bad_name, [], []⟩,
  ⟨("_law_is_name", none), "_law_is_name", "_law_is_name", defArgs s_law_is_name, defBody s_law_is_name, defScope s_law_is_name, [], []⟩,
  ⟨("_law_operands", none), "_law_operands", "_law_operands", defArgs s_law_operands, defBody s_law_operands, defScope s_law_operands, [], []⟩,
  ⟨("_law_due", none), "_law_due", "_law_due", defArgs s_law_due, defBody s_law_due, defScope s_law_due, [], []⟩,
  ⟨("_law_spoil", none), "_law_spoil", "_law_spoil", defArgs s_law_spoil, defBody s_law_spoil, defScope s_law_spoil, [], []⟩,
  ⟨("_law_refused", none), "_law_refused", "_law_refused", defArgs s_law_refused, defBody s_law_refused, defScope s_law_refused, [], []⟩,
  ⟨("_law_shows", none), "_law_shows", "_law_shows", defArgs s_law_shows, defBody s_law_shows, defScope s_law_shows, [], []⟩,
  ⟨("_law_parts_right", none), "_law_parts_right", "_law_parts_right", defArgs s_law_parts_right, defBody s_law_parts_right, defScope s_law_parts_right, [], []⟩,
  ⟨("_law_form_names", none), "_law_form_names", "_law_form_names", defArgs s_law_form_names, defBody s_law_form_names, defScope s_law_form_names, [], []⟩,
  ⟨("law", none), "law", "law", defArgs s_law, defBody s_law, defScope s_law, [], []⟩,
  ⟨("MergeError", some "__init__"), "__init__", "MergeError.__init__", defArgs s_MergeErroru_initu, defBody s_MergeErroru_initu, defScope s_MergeErroru_initu, [], []⟩,
  ⟨("Script", some "__init__"), "__init__", "Script.__init__", defArgs s_Scriptu_initu, defBody s_Scriptu_initu, defScope s_Scriptu_initu, [], []⟩,
  ⟨("Script", some "gains"), "gains", "Script.gains", defArgs s_Script_gains, defBody s_Script_gains, defScope s_Script_gains, [], []⟩]
def exH (K : PySem.W.Frag) : Bool := (xcB K "MergeError" && (xcB K "BadName" && (xcB K "Taken" && (xcB K "Unknown" && (xcB K "BadStep" && (vvB K && (xfaB K ["BadName", "Taken", "Unknown", "BadStep"] && (ownB K (cA K "Script") && true))))))))
def tsH : List TabD := [("FORMS", tFORMS)]
abbrev RR : PySem.W.OpenRow := PySem.W.OpenLaw.row PySem.Challenge.rw_needmerge_k12_script_made_or_refused
abbrev hkH : PySem.W.Hook := hookX 6 faH fnH prH tsH exH
def obH (s : PySem.W.SharedT) : AlX := obX 6 faH fnH prH tsH exH (HandSHeadRun.getT s)
theorem obH_eq (s : PySem.W.SharedT) : obH s = hkH.obs s.abs := obX_eq (HandSHeadRun.getT_eq s)
def looseH : List Str := [("_wall" : Str), ("MergeError" : Str), ("BadName" : Str), ("Taken" : Str), ("Unknown" : Str), ("BadStep" : Str), ("BadLine" : Str), ("Foreign" : Str), ("is_name" : Str), ("step_parts" : Str), ("merged" : Str), ("step_gains" : Str), ("step_result" : Str), ("check_new" : Str), ("step_row" : Str), ("Script" : Str), ("_law_mixed" : Str), ("_law_pool" : Str), ("_law_take" : Str), ("_law_names" : Str), ("_law_pairs" : Str), ("_law_gains" : Str), ("_law_steps" : Str), ("_law_words" : Str), ("_law_texts" : Str), ("_law_bad_name" : Str), ("_law_is_name" : Str), ("_law_operands" : Str), ("_law_due" : Str), ("_law_spoil" : Str), ("_law_refused" : Str), ("_law_shows" : Str), ("_law_parts_right" : Str), ("_law_form_names" : Str), ("LETTERS" : Str), ("SIGNS" : Str), ("LONGEST" : Str), ("NONE" : Str), ("FORMS" : Str)]
theorem runHf (w : World) : HandSHeadRun.RunEq RR (PySem.W.view RR.prog [43]) hkH obH 20000 looseH (w.withFollow "special-get-raises" false) := by
  intro os
  kernel_rfl
theorem runHt (w : World) : HandSHeadRun.RunEq RR (PySem.W.view RR.prog [43]) hkH obH 20000 looseH (w.withFollow "special-get-raises" true) := by
  intro os
  kernel_rfl
theorem runH (w : World) : HandSHeadRun.RunEq RR (PySem.W.view RR.prog [43]) hkH obH 20000 looseH w := PySem.W.byRow2 "special-get-raises" (P := fun w => HandSHeadRun.RunEq RR (PySem.W.view RR.prog [43]) hkH obH 20000 looseH w) runHf runHt w

end Nm
namespace Nm
open PySem PySem.Spec PyProof.Rows L2
local macro_rules | `(tactic| walk_at "s") => `(tactic| first
  | (guard_target =~ Ws _ _ _ _ _ _; first | with_reducible refine ws_seq ?_ | with_reducible refine ws_set ?_ | with_reducible refine ws_if ?_ | with_reducible refine ws_ret ?_ | with_reducible refine ws_asg ?_ | with_reducible refine ws_drop ?_ | with_reducible refine ws_next ?_ | with_reducible refine ws_for ?_ | with_reducible refine ws_brk ?_ | with_reducible refine ws_cont ?_ | with_reducible refine ws_retN ?_ | with_reducible refine ws_fld ?_)
  | (guard_target =~ Wa _ _ _ _ _ _ _; first | with_reducible refine wa_cons ?_ | with_reducible refine wa_nil ?_)
  | (guard_target =~ We _ _ _ _ _ _ _; first | (guard_target =~ We _ _ (tOp _ _ _) _ _ _ _; first | with_reducible refine we_op opS_add ?_ | with_reducible refine we_op opS_sub ?_ | with_reducible refine we_op opS_mul ?_ | with_reducible refine we_op opS_mod ?_ | with_reducible refine we_op opS_div ?_ | with_reducible refine we_op opS_ix ?_ | with_reducible refine we_op opS_eq ?_ | with_reducible refine we_op opS_ne ?_ | with_reducible refine we_op opS_lt ?_ | with_reducible refine we_op opS_le ?_ | with_reducible refine we_op opS_gt ?_ | with_reducible refine we_op opS_ge ?_ | with_reducible refine we_op opS_in ?_ | with_reducible refine we_op opS_notIn ?_ | with_reducible refine we_op opS_and ?_ | with_reducible refine we_op opS_or ?_ | with_reducible refine we_op opS_shr ?_ | with_reducible refine we_op opS_shl ?_ | with_reducible refine we_op opS_pow ?_ | with_reducible refine we_op opS_isN ?_ | with_reducible refine we_op opS_notN ?_ | with_reducible refine we_op opS_xor ?_) | (guard_target =~ We _ _ (tCB _ _) _ _ _ _; first | with_reducible refine we_cb cbS_len ?_ | with_reducible refine we_cb cbS_int ?_ | with_reducible refine we_cb cbS_bool ?_ | with_reducible refine we_cb cbS_max ?_ | with_reducible refine we_cb cbS_min ?_ | with_reducible refine we_cb cbS_isi ?_) | with_reducible refine we_var rfl ?_ | with_reducible refine we_int ?_ | with_reducible refine we_str ?_ | with_reducible refine we_bl ?_ | with_reducible refine we_non ?_ | with_reducible refine we_ty ?_ | with_reducible refine we_ref ?_ | with_reducible refine we_sl ?_ | with_reducible refine we_orT ?_ | with_reducible refine we_andT ?_ | with_reducible refine we_notT ?_ | with_reducible refine we_if ?_ | with_reducible refine we_tup ⟨?_, ?_⟩ | with_reducible refine we_tup ?_ | with_reducible refine we_fld ?_ | with_reducible refine we_call (dds := []) (fun _ => HasL.nil) ?_ | with_reducible refine we_call0 (dds := []) (fun _ => HasL.nil) ?_ | with_reducible refine we_meth (dds := []) (fun _ => HasL.nil) ?_ | with_reducible refine we_bm mS_append ?_ | with_reducible refine we_bm mS_extend ?_ | with_reducible refine we_bm0 mS_clear ?_ | with_reducible refine we_bm mS_indexS ?_ | with_reducible refine we_bm mS_join ?_ | with_reducible refine we_bm mS_split ?_ | with_reducible refine we_bm mS_part ?_ | with_reducible refine we_un unS_neg ?_ | with_reducible refine we_un unS_inv ?_)
  | (guard_target =~ Wt _ _ _ _ _ _ _; first | with_reducible refine wt_test ?_ | with_reducible refine wt_tr ?_ | with_reducible refine wt_not ?_ | with_reducible refine wt_and ?_ | with_reducible refine wt_or ?_ | with_reducible refine wt_val ?_ | with_reducible refine wt_yes ?_)
  | (guard_target =~ Wg _ _ _ _ _ _; first | with_reducible refine wg_name ?_)
  | (guard_target =~ Wgs _ _ _ _ _ _; first | with_reducible refine wgs_cons ?_ | with_reducible refine wgs_nil ?_)
  | (guard_target =~ Wi _ _ _ _ _ _ _; first | with_reducible refine wi_str ?_ | with_reducible refine wi_list ?_ | with_reducible refine wi_rngN ?_ | with_reducible refine wi_rng2 ?_)
  | (guard_target =~ Wo _ _ _ _ _ _ _; first | with_reducible refine wo_none ?_ | with_reducible refine wo_some ?_)
  | with_reducible refine dAdd_ii ?_
  | with_reducible refine dI_ii ?_
  | with_reducible refine dU_i ?_
  | with_reducible refine dEq_fi ?_
  | with_reducible refine dEq_ti ?_
  | with_reducible refine dEq_fs ?_
  | with_reducible refine dEq_ts ?_
  | with_reducible refine dEq_fb ?_
  | with_reducible refine dEq_tb ?_
  | with_reducible refine dEq_sn ?_
  | with_reducible refine dEq_ns ?_
  | with_reducible refine dEq_nn ?_
  | with_reducible refine dIn_fs ?_
  | with_reducible refine dIn_ts ?_
  | with_reducible refine dIn_fi ?_
  | with_reducible refine dIn_ti ?_
  | with_reducible refine dIn_tc ?_
  | with_reducible refine dIn_fc ?_
  | with_reducible refine dSl_l ?_
  | with_reducible refine dSl_q ?_
  | with_reducible refine dLen_l ?_
  | with_reducible refine dLen_q ?_
  | (guard_target =~ dLen [.ref _] _ _; with_reducible refine dLen_r (by first | exact um_same | assumption) ?_)
  | with_reducible refine ty_l ?_
  | with_reducible refine ty_s ?_
  | (guard_target =~ tyD _ "list" (.ref _) ∧ _; with_reducible refine ty_r (by first | exact um_same | assumption) ?_)
  | with_reducible refine dLen_t ?_
  | with_reducible refine dInt_i ?_
  | with_reducible refine dInt_b ?_
  | with_reducible refine dBool_i ?_
  | with_reducible refine dMax_ii ?_
  | with_reducible refine dMin_ii ?_
  | with_reducible refine dList_l ?_
  | with_reducible refine dIsN_s ?_
  | with_reducible refine dIsN_n ?_
  | with_reducible refine dIsN_i ?_
  | with_reducible refine bl_ex ?_
  | with_reducible refine tru_b ?_
  | with_reducible refine tru_i ?_
  | with_reducible refine tru_l ?_
  | with_reducible refine iteT ?_
  | with_reducible refine iteF ?_
  | with_reducible refine iteNT ?_
  | with_reducible refine iteNF ?_
  | with_reducible refine ⟨_, rfl, ?_⟩)
local macro_rules | `(tactic| walk_at "w") => `(tactic| repeat walk_at "s")

/-! ### is_name -/
def letter (c : Nat) : Bool := decide (97 ≤ c ∧ c ≤ 122)
def sign (c : Nat) : Bool := decide (97 ≤ c ∧ c ≤ 122) || decide (48 ≤ c ∧ c ≤ 57)
theorem letters_list : tLETTERS.cps.toList = [97, 98, 99, 100, 101, 102, 103, 104, 105, 106, 107, 108, 109, 110, 111, 112, 113, 114, 115, 116, 117, 118, 119, 120, 121, 122] := by decide +kernel
theorem signs_list : tSIGNS.cps.toList = [97, 98, 99, 100, 101, 102, 103, 104, 105, 106, 107, 108, 109, 110, 111, 112, 113, 114, 115, 116, 117, 118, 119, 120, 121, 122, 48, 49, 50, 51, 52, 53, 54, 55, 56, 57] := by decide +kernel
theorem in_letters (c : Nat) : decide (c ∈ tLETTERS.cps.toList) = letter c := by
  rw [letters_list]
  unfold letter
  apply decide_eq_decide.mpr
  simp only [List.mem_cons, List.not_mem_nil, or_false]
  omega
theorem in_signs (c : Nat) : decide (c ∈ tSIGNS.cps.toList) = sign c := by
  rw [signs_list]
  unfold sign
  rw [← Bool.decide_or]
  apply decide_eq_decide.mpr
  simp only [List.mem_cons, List.not_mem_nil, or_false]
  omega
/-- a name -/
def isName (x : Str) : Bool := match x.cps.toList with
  | [] => false
  | c :: r => decide ((c :: r).length ≤ 8) && letter c && (c :: r).all sign
def sd_is_name : SpD := fun ds μ P _ => ∃ x : Str, ds = [.str x] ∧ x.length ≤ sizeLine ∧ P (.bl (isName x)) μ
theorem len_cps (x : Str) : x.length = x.cps.toList.length := by
  show x.cps.size = _
  simp
abbrev N_is_name : List Str := ["word", "sign"]
theorem sc_is_name : FnScope N_is_name ["word"] (defScope s_is_name) := ⟨rfl, rfl, rfl, by decide +kernel, rfl, by decide +kernel, by decide +kernel⟩
abbrev D_is_name (K : PySem.W.Frag) (mg : Str → Option Value) : Prop := DF K mg "is_name" s_is_name
theorem gf_is_name {P : Program} {w : World} {K : PySem.W.Frag} {mg : Str → Option Value} {base : Heap} {k : Nat} {sp : Sp} (D : D_is_name K mg) (h : ∀ {f : Addr} {fd : FuncData}, FunD K "is_name" "is_name" (defArgs s_is_name) (defBody s_is_name) (defScope s_is_name) [] [] f fd → FnOk P w K mg base (L2.CX P w) k f fd ["word"] sp) : GF P w K mg base "is_name" k ["word"] sp := by
  obtain ⟨f, fd, h1, h2⟩ := D.ex
  exact ⟨f, fd, h1, h2.kp, FunD.bindsN h2 fun _ _ _ _ _ _ us hl => match us, hl with | [_], _ => rfl, h h2⟩

section
variable {P : Program} {w : World} {K : PySem.W.Frag} {mg : Str → Option Value} {base : Heap}
theorem ok_is_name (D : D_is_name K mg) (Z : Zs mg) (c1 : ∃ t, mg "LETTERS" = some (.str tLETTERS t)) (c2 : ∃ t, mg "SIGNS" = some (.str tSIGNS t)) (c3 : ∃ t, mg "LONGEST" = some (.int 8 t)) : GF P w K mg base "is_name" 1 ["word"] (toSp K sd_is_name) := by
  obtain ⟨_, c_LETTERS⟩ := c1
  obtain ⟨_, c_SIGNS⟩ := c2
  obtain ⟨_, c_LONGEST⟩ := c3
  refine gf_is_name D fun F => fun_ok F sc_is_name (fun ds μ P X h => ?_) fun cdv A outer s H E hr => ⟨_, (pss_cons (ps_if (PW.pt (pw_or (pt_cmpR op_lt (pe_callB (call_lenK (K := K) rfl) (by rfl) Z.z_len (by decide +kernel) (pa_cons (pv 0) pa_nil)) pe_int (nomark _)) (pw_or (pt_cmpR op_gt (pe_callB (call_lenK (K := K) rfl) (by rfl) Z.z_len (by decide +kernel) (pa_cons (pv 0) pa_nil)) (pe_globI c_LONGEST) (nomark _)) (pw_or1 (pt_cmpR (op_notInK (K := K) rfl (room65 hr)) (pe_ix (ix_seqK (K := K) rfl) (pv 0) pe_int (fun _ _ => rfl)) (pe_globS c_LETTERS) (by rfl))))))
      (pss_one (ps_ret pe_bl))
      pss_nil)
    (pss_cons (ps_for po_def rfl (pi_str (pv 0)) (pg_name (i := 1) sc_is_name.nd rfl (by first | exact Or.inl rfl | exact Or.inr rfl))
      (pss_one (ps_if (pt_cmpR (op_notInK (K := K) rfl (room65 hr)) (pv 1) (pe_globS c_SIGNS) (by rfl))
          (pss_one (ps_ret pe_bl))
          pss_nil)))
    (pss_one (ps_ret pe_bl)))), fun ds μ Pd X h => ?_⟩
  · obtain ⟨x, rfl, _⟩ := h; rfl
  · obtain ⟨x, rfl, hl, hp⟩ := h
    show Ws K (wOf E) _ [some (.str x), none] μ _
    have h8 : (8 : Nat) ≤ sizeLine := by rw [sizeLine_eq]; omega
    walk_at "w"
    refine dLen_s hl ?_
    walk_at "w"
    have ecs := len_cps x
    cases hc : x.cps.toList with
    | nil =>
      have e : isName x = false := by unfold isName; rw [hc]
      rw [hc] at ecs
      rw [e] at hp
      refine iteD (fun h => ?_) (fun h => absurd (show (x.length : Int) < 1 by rw [ecs]; decide) h)
      walk_at "w"
      exact ret_of hp
    | cons c r =>
      have en : isName x = (decide ((c :: r).length ≤ 8) && letter c && (c :: r).all sign) := by unfold isName; rw [hc]
      rw [hc] at ecs
      rw [en] at hp
      refine iteD (fun h => absurd h (by rw [ecs, List.length_cons]; omega)) (fun _ => ?_)
      walk_at "w"
      refine dLen_s hl ?_
      walk_at "w"
      refine iteD (fun h => ?_) (fun h => ?_)
      · rw [decide_eq_false (show ¬ (c :: r).length ≤ 8 by rw [← ecs]; omega)] at hp
        walk_at "w"
        exact ret_of hp
      · rw [decide_eq_true (show (c :: r).length ≤ 8 by rw [← ecs]; omega)] at hp
        walk_at "w"
        refine dIx_s (c := c) hl (by rw [hc]; exact atI_nat (j := 0) rfl) ?_
        walk_at "w"
        rw [in_letters]
        refine iteB (fun h => ?_) (fun h => ?_)
        · have hl' : letter c = false := by simpa using h
          rw [hl'] at hp
          walk_at "w"
          exact ret_of hp
        · have hl' : letter c = true := by simpa using h
          rw [hl'] at hp
          walk_at "w"
          refine ⟨fun i Γ' μ' => μ' = μ ∧ (∃ g, Γ' = [some (.str x), g]) ∧ ∀ j k, j < i → x.cps.toList[j]? = some k → sign k = true, ⟨rfl, ⟨_, rfl⟩, fun j k hj => absurd hj (Nat.not_lt_zero j)⟩, ?_, ?_⟩
          · rintro i d Γ' μ' hd ⟨rfl, ⟨g, rfl⟩, hs⟩
            rw [List.getElem?_map] at hd
            cases ek : x.cps.toList[i]? with
            | none => rw [ek] at hd; cases hd
            | some k =>
              rw [ek] at hd
              obtain rfl : Nm.D.str ⟨#[k]⟩ = d := Option.some.inj hd
              walk_at "w"
              rw [in_signs]
              refine iteB (fun h => ?_) (fun h => ?_)
              · have hk : sign k = false := by simpa using h
                have ef : (c :: r).all sign = false := by
                  rw [hc] at ek
                  rw [← Bool.not_eq_true, List.all_eq_true]
                  intro z
                  have := z k (List.mem_of_getElem? ek)
                  rw [hk] at this; cases this
                rw [ef] at hp
                walk_at "w"
                exact ret_of hp
              · walk_at "w"
                refine Fo.of ⟨rfl, ⟨_, rfl⟩, fun j k' hj ej => ?_⟩
                rcases Nat.lt_succ_iff_lt_or_eq.mp hj with z | z
                · exact hs j k' z ej
                · subst z
                  rw [ek] at ej
                  cases ej
                  simpa using h
          · rintro Γ' μ' ⟨rfl, ⟨g, rfl⟩, hs⟩
            have et : (c :: r).all sign = true := by
              rw [← hc, List.all_eq_true]
              intro k hk
              obtain ⟨j, hj⟩ := List.getElem?_of_mem hk
              refine hs j k ?_ hj
              rw [List.length_map]
              rcases Nat.lt_or_ge j x.cps.toList.length with z | z
              · exact z
              · rw [List.getElem?_eq_none z] at hj; cases hj
            rw [et] at hp
            walk_at "w"
            exact ret_of hp
end
end Nm
namespace Nm
open PySem PySem.Spec PyProof.Rows L2
local macro_rules | `(tactic| walk_at "s") => `(tactic| first
  | (guard_target =~ Ws _ _ _ _ _ _; first | with_reducible refine ws_seq ?_ | with_reducible refine ws_set ?_ | with_reducible refine ws_if ?_ | with_reducible refine ws_ret ?_ | with_reducible refine ws_asg ?_ | with_reducible refine ws_drop ?_ | with_reducible refine ws_next ?_ | with_reducible refine ws_for ?_ | with_reducible refine ws_brk ?_ | with_reducible refine ws_cont ?_ | with_reducible refine ws_retN ?_ | with_reducible refine ws_fld ?_)
  | (guard_target =~ Wa _ _ _ _ _ _ _; first | with_reducible refine wa_cons ?_ | with_reducible refine wa_nil ?_)
  | (guard_target =~ We _ _ _ _ _ _ _; first | (guard_target =~ We _ _ (tOp _ _ _) _ _ _ _; first | with_reducible refine we_op opS_add ?_ | with_reducible refine we_op opS_sub ?_ | with_reducible refine we_op opS_mul ?_ | with_reducible refine we_op opS_mod ?_ | with_reducible refine we_op opS_div ?_ | with_reducible refine we_op opS_ix ?_ | with_reducible refine we_op opS_eq ?_ | with_reducible refine we_op opS_ne ?_ | with_reducible refine we_op opS_lt ?_ | with_reducible refine we_op opS_le ?_ | with_reducible refine we_op opS_gt ?_ | with_reducible refine we_op opS_ge ?_ | with_reducible refine we_op opS_in ?_ | with_reducible refine we_op opS_notIn ?_ | with_reducible refine we_op opS_and ?_ | with_reducible refine we_op opS_or ?_ | with_reducible refine we_op opS_shr ?_ | with_reducible refine we_op opS_shl ?_ | with_reducible refine we_op opS_pow ?_ | with_reducible refine we_op opS_isN ?_ | with_reducible refine we_op opS_notN ?_ | with_reducible refine we_op opS_xor ?_) | (guard_target =~ We _ _ (tCB _ _) _ _ _ _; first | with_reducible refine we_cb cbS_len ?_ | with_reducible refine we_cb cbS_int ?_ | with_reducible refine we_cb cbS_bool ?_ | with_reducible refine we_cb cbS_max ?_ | with_reducible refine we_cb cbS_min ?_ | with_reducible refine we_cb cbS_isi ?_) | with_reducible refine we_var rfl ?_ | with_reducible refine we_int ?_ | with_reducible refine we_str ?_ | with_reducible refine we_bl ?_ | with_reducible refine we_non ?_ | with_reducible refine we_ty ?_ | with_reducible refine we_ref ?_ | with_reducible refine we_sl ?_ | with_reducible refine we_orT ?_ | with_reducible refine we_andT ?_ | with_reducible refine we_notT ?_ | with_reducible refine we_if ?_ | with_reducible refine we_tup ⟨?_, ?_⟩ | with_reducible refine we_tup ?_ | with_reducible refine we_fld ?_ | with_reducible refine we_call (dds := []) (fun _ => HasL.nil) ?_ | with_reducible refine we_call0 (dds := []) (fun _ => HasL.nil) ?_ | with_reducible refine we_meth (dds := []) (fun _ => HasL.nil) ?_ | with_reducible refine we_bm mS_append ?_ | with_reducible refine we_bm mS_extend ?_ | with_reducible refine we_bm0 mS_clear ?_ | with_reducible refine we_bm mS_indexS ?_ | with_reducible refine we_bm mS_join ?_ | with_reducible refine we_bm mS_split ?_ | with_reducible refine we_bm mS_part ?_ | with_reducible refine we_un unS_neg ?_ | with_reducible refine we_un unS_inv ?_)
  | (guard_target =~ Wt _ _ _ _ _ _ _; first | with_reducible refine wt_test ?_ | with_reducible refine wt_tr ?_ | with_reducible refine wt_not ?_ | with_reducible refine wt_and ?_ | with_reducible refine wt_or ?_ | with_reducible refine wt_val ?_ | with_reducible refine wt_yes ?_)
  | (guard_target =~ Wg _ _ _ _ _ _; first | with_reducible refine wg_name ?_)
  | (guard_target =~ Wgs _ _ _ _ _ _; first | with_reducible refine wgs_cons ?_ | with_reducible refine wgs_nil ?_)
  | (guard_target =~ Wi _ _ _ _ _ _ _; first | with_reducible refine wi_str ?_ | with_reducible refine wi_list ?_ | with_reducible refine wi_rngN ?_ | with_reducible refine wi_rng2 ?_)
  | (guard_target =~ Wo _ _ _ _ _ _ _; first | with_reducible refine wo_none ?_ | with_reducible refine wo_some ?_)
  | with_reducible refine dAdd_ii ?_
  | with_reducible refine dI_ii ?_
  | with_reducible refine dU_i ?_
  | with_reducible refine dEq_fi ?_
  | with_reducible refine dEq_ti ?_
  | with_reducible refine dEq_fs ?_
  | with_reducible refine dEq_ts ?_
  | with_reducible refine dEq_fb ?_
  | with_reducible refine dEq_tb ?_
  | with_reducible refine dEq_sn ?_
  | with_reducible refine dEq_ns ?_
  | with_reducible refine dEq_nn ?_
  | with_reducible refine dIn_fs ?_
  | with_reducible refine dIn_ts ?_
  | with_reducible refine dIn_fi ?_
  | with_reducible refine dIn_ti ?_
  | with_reducible refine dIn_tc ?_
  | with_reducible refine dIn_fc ?_
  | with_reducible refine dSl_l ?_
  | with_reducible refine dSl_q ?_
  | with_reducible refine dLen_l ?_
  | with_reducible refine dLen_q ?_
  | (guard_target =~ dLen [.ref _] _ _; with_reducible refine dLen_r (by first | exact um_same | assumption) ?_)
  | with_reducible refine ty_l ?_
  | with_reducible refine ty_s ?_
  | (guard_target =~ tyD _ "list" (.ref _) ∧ _; with_reducible refine ty_r (by first | exact um_same | assumption) ?_)
  | with_reducible refine dLen_t ?_
  | with_reducible refine dInt_i ?_
  | with_reducible refine dInt_b ?_
  | with_reducible refine dBool_i ?_
  | with_reducible refine dMax_ii ?_
  | with_reducible refine dMin_ii ?_
  | with_reducible refine dList_l ?_
  | with_reducible refine dIsN_s ?_
  | with_reducible refine dIsN_n ?_
  | with_reducible refine dIsN_i ?_
  | with_reducible refine bl_ex ?_
  | with_reducible refine tru_b ?_
  | with_reducible refine tru_i ?_
  | with_reducible refine tru_l ?_
  | with_reducible refine iteT ?_
  | with_reducible refine iteF ?_
  | with_reducible refine iteNT ?_
  | with_reducible refine iteNF ?_
  | with_reducible refine ⟨_, rfl, ?_⟩)
local macro_rules | `(tactic| walk_at "w") => `(tactic| repeat walk_at "s")

/-! ### masked -/
/-- the items whose places p takes -/
def pickP {α : Type} (p : Nat → Bool) : Nat → List α → List α
  | _, [] => []
  | i, x :: r => if p i then x :: pickP p (i + 1) r else pickP p (i + 1) r
theorem pickP_app {α : Type} (p : Nat → Bool) (y : α) : ∀ (i : Nat) (l : List α), pickP p i (l ++ [y]) = if p (i + l.length) then pickP p i l ++ [y] else pickP p i l
  | i, [] => by simp [pickP]
  | i, x :: r => by
    show (if p i then x :: pickP p (i + 1) (r ++ [y]) else pickP p (i + 1) (r ++ [y])) = _
    rw [pickP_app p y (i + 1) r]
    have e : i + 1 + r.length = i + (x :: r).length := by rw [List.length_cons]; omega
    rw [e]
    show _ = if p (i + (x :: r).length) then (if p i then x :: pickP p (i + 1) r else pickP p (i + 1) r) ++ [y] else (if p i then x :: pickP p (i + 1) r else pickP p (i + 1) r)
    cases p (i + (x :: r).length) <;> cases p i <;> simp
theorem pickP_le {α : Type} (p : Nat → Bool) : ∀ (i : Nat) (l : List α), (pickP p i l).length ≤ l.length
  | i, [] => Nat.le_refl _
  | i, x :: r => by
    have := pickP_le p (i + 1) r
    show (if p i then x :: pickP p (i + 1) r else pickP p (i + 1) r).length ≤ _
    split <;> simp <;> omega
theorem take_succ {α : Type} {l : List α} {i : Nat} {x : α} (h : l[i]? = some x) : l.take (i + 1) = l.take i ++ [x] := by
  rw [List.take_add_one, h]
  rfl
def sd_masked : SpD := fun ds μ P _ => ∃ (l : List D) (m : Nat), ds = [.lst l, .int (m : Int)] ∧ l.length < sizeLine ∧ (∀ p, μ p = none → P (.ref p) (um μ p (.lst (pickP m.testBit 0 l))))
theorem line62 : sizeLine < 2 ^ 62 := by rw [sizeLine_eq]; decide
end Nm
namespace Nm
open PySem PySem.Spec PyProof.Rows L2
local macro_rules | `(tactic| walk_at "s") => `(tactic| first
  | (guard_target =~ Ws _ _ _ _ _ _; first | with_reducible refine ws_seq ?_ | with_reducible refine ws_set ?_ | with_reducible refine ws_if ?_ | with_reducible refine ws_ret ?_ | with_reducible refine ws_asg ?_ | with_reducible refine ws_drop ?_ | with_reducible refine ws_next ?_ | with_reducible refine ws_for ?_ | with_reducible refine ws_brk ?_ | with_reducible refine ws_cont ?_ | with_reducible refine ws_retN ?_ | with_reducible refine ws_fld ?_)
  | (guard_target =~ Wa _ _ _ _ _ _ _; first | with_reducible refine wa_cons ?_ | with_reducible refine wa_nil ?_)
  | (guard_target =~ We _ _ _ _ _ _ _; first | (guard_target =~ We _ _ (tOp _ _ _) _ _ _ _; first | with_reducible refine we_op opS_add ?_ | with_reducible refine we_op opS_sub ?_ | with_reducible refine we_op opS_mul ?_ | with_reducible refine we_op opS_mod ?_ | with_reducible refine we_op opS_div ?_ | with_reducible refine we_op opS_ix ?_ | with_reducible refine we_op opS_eq ?_ | with_reducible refine we_op opS_ne ?_ | with_reducible refine we_op opS_lt ?_ | with_reducible refine we_op opS_le ?_ | with_reducible refine we_op opS_gt ?_ | with_reducible refine we_op opS_ge ?_ | with_reducible refine we_op opS_in ?_ | with_reducible refine we_op opS_notIn ?_ | with_reducible refine we_op opS_and ?_ | with_reducible refine we_op opS_or ?_ | with_reducible refine we_op opS_shr ?_ | with_reducible refine we_op opS_shl ?_ | with_reducible refine we_op opS_pow ?_ | with_reducible refine we_op opS_isN ?_ | with_reducible refine we_op opS_notN ?_ | with_reducible refine we_op opS_xor ?_) | (guard_target =~ We _ _ (tCB _ _) _ _ _ _; first | with_reducible refine we_cb cbS_len ?_ | with_reducible refine we_cb cbS_int ?_ | with_reducible refine we_cb cbS_bool ?_ | with_reducible refine we_cb cbS_max ?_ | with_reducible refine we_cb cbS_min ?_ | with_reducible refine we_cb cbS_isi ?_) | with_reducible refine we_var rfl ?_ | with_reducible refine we_int ?_ | with_reducible refine we_str ?_ | with_reducible refine we_bl ?_ | with_reducible refine we_non ?_ | with_reducible refine we_ty ?_ | with_reducible refine we_ref ?_ | with_reducible refine we_sl ?_ | with_reducible refine we_orT ?_ | with_reducible refine we_andT ?_ | with_reducible refine we_notT ?_ | with_reducible refine we_if ?_ | with_reducible refine we_tup ⟨?_, ?_⟩ | with_reducible refine we_tup ?_ | with_reducible refine we_fld ?_ | with_reducible refine we_call (dds := []) (fun _ => HasL.nil) ?_ | with_reducible refine we_call0 (dds := []) (fun _ => HasL.nil) ?_ | with_reducible refine we_meth (dds := []) (fun _ => HasL.nil) ?_ | with_reducible refine we_bm mS_append ?_ | with_reducible refine we_bm mS_extend ?_ | with_reducible refine we_bm0 mS_clear ?_ | with_reducible refine we_bm mS_indexS ?_ | with_reducible refine we_bm mS_join ?_ | with_reducible refine we_bm mS_split ?_ | with_reducible refine we_bm mS_part ?_ | with_reducible refine we_un unS_neg ?_ | with_reducible refine we_un unS_inv ?_)
  | (guard_target =~ Wt _ _ _ _ _ _ _; first | with_reducible refine wt_test ?_ | with_reducible refine wt_tr ?_ | with_reducible refine wt_not ?_ | with_reducible refine wt_and ?_ | with_reducible refine wt_or ?_ | with_reducible refine wt_val ?_ | with_reducible refine wt_yes ?_)
  | (guard_target =~ Wg _ _ _ _ _ _; first | with_reducible refine wg_name ?_)
  | (guard_target =~ Wgs _ _ _ _ _ _; first | with_reducible refine wgs_cons ?_ | with_reducible refine wgs_nil ?_)
  | (guard_target =~ Wi _ _ _ _ _ _ _; first | with_reducible refine wi_str ?_ | with_reducible refine wi_list ?_ | with_reducible refine wi_rngN ?_ | with_reducible refine wi_rng2 ?_)
  | (guard_target =~ Wo _ _ _ _ _ _ _; first | with_reducible refine wo_none ?_ | with_reducible refine wo_some ?_)
  | with_reducible refine dAdd_ii ?_
  | with_reducible refine dI_ii ?_
  | with_reducible refine dU_i ?_
  | with_reducible refine dEq_fi ?_
  | with_reducible refine dEq_ti ?_
  | with_reducible refine dEq_fs ?_
  | with_reducible refine dEq_ts ?_
  | with_reducible refine dEq_fb ?_
  | with_reducible refine dEq_tb ?_
  | with_reducible refine dEq_sn ?_
  | with_reducible refine dEq_ns ?_
  | with_reducible refine dEq_nn ?_
  | with_reducible refine dIn_fs ?_
  | with_reducible refine dIn_ts ?_
  | with_reducible refine dIn_fi ?_
  | with_reducible refine dIn_ti ?_
  | with_reducible refine dIn_tc ?_
  | with_reducible refine dIn_fc ?_
  | with_reducible refine dSl_l ?_
  | with_reducible refine dSl_q ?_
  | with_reducible refine dLen_l ?_
  | with_reducible refine dLen_q ?_
  | (guard_target =~ dLen [.ref _] _ _; with_reducible refine dLen_r (by first | exact um_same | assumption) ?_)
  | with_reducible refine ty_l ?_
  | with_reducible refine ty_s ?_
  | (guard_target =~ tyD _ "list" (.ref _) ∧ _; with_reducible refine ty_r (by first | exact um_same | assumption) ?_)
  | with_reducible refine dLen_t ?_
  | with_reducible refine dInt_i ?_
  | with_reducible refine dInt_b ?_
  | with_reducible refine dBool_i ?_
  | with_reducible refine dMax_ii ?_
  | with_reducible refine dMin_ii ?_
  | with_reducible refine dList_l ?_
  | with_reducible refine dIsN_s ?_
  | with_reducible refine dIsN_n ?_
  | with_reducible refine dIsN_i ?_
  | with_reducible refine bl_ex ?_
  | with_reducible refine tru_b ?_
  | with_reducible refine tru_i ?_
  | with_reducible refine tru_l ?_
  | with_reducible refine iteT ?_
  | with_reducible refine iteF ?_
  | with_reducible refine iteNT ?_
  | with_reducible refine iteNF ?_
  | with_reducible refine ⟨_, rfl, ?_⟩)
local macro_rules | `(tactic| walk_at "w") => `(tactic| repeat walk_at "s")

/-! ### reach_masks -/
/-- after the middles below m: the bit j of k -/
def Rm (d : Nat → Nat → Bool) : Nat → Nat → Nat → Bool
  | 0, k, j => d k j || decide (k = j)
  | m + 1, k, j => Rm d m k j || (Rm d m k m && Rm d m m j)
theorem Rm_mid (d : Nat → Nat → Bool) (m j : Nat) : Rm d (m + 1) m j = Rm d m m j := by
  show (Rm d m m j || (Rm d m m m && Rm d m m j)) = _
  cases Rm d m m j <;> simp
/-- the numbers r are the rows of f -/
def Rows (f : Nat → Nat → Bool) (r : List Nat) : Prop := ∀ (k j : Nat) (z : Nat), r[k]? = some z → z.testBit j = f k j
def numsD (r : List Nat) : List D := r.map fun (m : Nat) => D.int (m : Int)
theorem numsD_length (r : List Nat) : (numsD r).length = r.length := by simp [numsD]
theorem numsD_get {r : List Nat} {k z : Nat} (h : r[k]? = some z) : (numsD r)[k]? = some (.int (z : Int)) := by simp [numsD, h]
theorem numsD_set (r : List Nat) (k z : Nat) : (numsD r).set k (.int (z : Int)) = numsD (r.set k z) := by
  unfold numsD
  rw [List.map_set]
theorem numsD_app (r : List Nat) (z : Nat) : numsD r ++ [.int (z : Int)] = numsD (r ++ [z]) := by simp [numsD]
/-- where k stands on j by the numbers d: told by the rows after all middles -/
def reachF (d : List Nat) : Nat → Nat → Bool := Rm (fun k j => (d.getD k 0).testBit j) d.length
def sd_reach_masks : SpD := fun ds μ P _ => ∃ d : List Nat, (ds = [.lst (numsD d)]) ∧ d.length ≤ 100000 ∧ ∀ r : List Nat, r.length = d.length → Rows (reachF d) r → P (.lst (numsD r)) μ
theorem ixN_set {n k : Nat} (h : k < n) : ixN n (k : Int) = some k := by
  unfold ixN
  rw [if_pos (Int.natCast_nonneg _), if_pos (by omega), Int.toNat_natCast]
theorem some_of_lt {α : Type} {l : List α} {i : Nat} (h : i < l.length) : ∃ x, l[i]? = some x := ⟨_, List.getElem?_eq_getElem h⟩
theorem l1000 {n : Nat} (h : n ≤ 100000) : n < sizeLine := by rw [sizeLine_eq]; omega
end Nm
namespace Nm
open PySem PySem.Spec PyProof.Rows L2
local macro_rules | `(tactic| walk_at "s") => `(tactic| first
  | (guard_target =~ Ws _ _ _ _ _ _; first | with_reducible refine ws_seq ?_ | with_reducible refine ws_set ?_ | with_reducible refine ws_if ?_ | with_reducible refine ws_ret ?_ | with_reducible refine ws_asg ?_ | with_reducible refine ws_drop ?_ | with_reducible refine ws_next ?_ | with_reducible refine ws_for ?_ | with_reducible refine ws_brk ?_ | with_reducible refine ws_cont ?_ | with_reducible refine ws_retN ?_ | with_reducible refine ws_fld ?_)
  | (guard_target =~ Wa _ _ _ _ _ _ _; first | with_reducible refine wa_cons ?_ | with_reducible refine wa_nil ?_)
  | (guard_target =~ We _ _ _ _ _ _ _; first | (guard_target =~ We _ _ (tOp _ _ _) _ _ _ _; first | with_reducible refine we_op opS_add ?_ | with_reducible refine we_op opS_sub ?_ | with_reducible refine we_op opS_mul ?_ | with_reducible refine we_op opS_mod ?_ | with_reducible refine we_op opS_div ?_ | with_reducible refine we_op opS_ix ?_ | with_reducible refine we_op opS_eq ?_ | with_reducible refine we_op opS_ne ?_ | with_reducible refine we_op opS_lt ?_ | with_reducible refine we_op opS_le ?_ | with_reducible refine we_op opS_gt ?_ | with_reducible refine we_op opS_ge ?_ | with_reducible refine we_op opS_in ?_ | with_reducible refine we_op opS_notIn ?_ | with_reducible refine we_op opS_and ?_ | with_reducible refine we_op opS_or ?_ | with_reducible refine we_op opS_shr ?_ | with_reducible refine we_op opS_shl ?_ | with_reducible refine we_op opS_pow ?_ | with_reducible refine we_op opS_isN ?_ | with_reducible refine we_op opS_notN ?_ | with_reducible refine we_op opS_xor ?_) | (guard_target =~ We _ _ (tCB _ _) _ _ _ _; first | with_reducible refine we_cb cbS_len ?_ | with_reducible refine we_cb cbS_int ?_ | with_reducible refine we_cb cbS_bool ?_ | with_reducible refine we_cb cbS_max ?_ | with_reducible refine we_cb cbS_min ?_ | with_reducible refine we_cb cbS_isi ?_) | with_reducible refine we_var rfl ?_ | with_reducible refine we_int ?_ | with_reducible refine we_str ?_ | with_reducible refine we_bl ?_ | with_reducible refine we_non ?_ | with_reducible refine we_ty ?_ | with_reducible refine we_ref ?_ | with_reducible refine we_sl ?_ | with_reducible refine we_orT ?_ | with_reducible refine we_andT ?_ | with_reducible refine we_notT ?_ | with_reducible refine we_if ?_ | with_reducible refine we_tup ⟨?_, ?_⟩ | with_reducible refine we_tup ?_ | with_reducible refine we_fld ?_ | with_reducible refine we_call (dds := []) (fun _ => HasL.nil) ?_ | with_reducible refine we_call0 (dds := []) (fun _ => HasL.nil) ?_ | with_reducible refine we_meth (dds := []) (fun _ => HasL.nil) ?_ | with_reducible refine we_bm mS_append ?_ | with_reducible refine we_bm mS_extend ?_ | with_reducible refine we_bm0 mS_clear ?_ | with_reducible refine we_bm mS_indexS ?_ | with_reducible refine we_bm mS_join ?_ | with_reducible refine we_bm mS_split ?_ | with_reducible refine we_bm mS_part ?_ | with_reducible refine we_un unS_neg ?_ | with_reducible refine we_un unS_inv ?_)
  | (guard_target =~ Wt _ _ _ _ _ _ _; first | with_reducible refine wt_test ?_ | with_reducible refine wt_tr ?_ | with_reducible refine wt_not ?_ | with_reducible refine wt_and ?_ | with_reducible refine wt_or ?_ | with_reducible refine wt_val ?_ | with_reducible refine wt_yes ?_)
  | (guard_target =~ Wg _ _ _ _ _ _; first | with_reducible refine wg_name ?_)
  | (guard_target =~ Wgs _ _ _ _ _ _; first | with_reducible refine wgs_cons ?_ | with_reducible refine wgs_nil ?_)
  | (guard_target =~ Wi _ _ _ _ _ _ _; first | with_reducible refine wi_str ?_ | with_reducible refine wi_list ?_ | with_reducible refine wi_rngN ?_ | with_reducible refine wi_rng2 ?_)
  | (guard_target =~ Wo _ _ _ _ _ _ _; first | with_reducible refine wo_none ?_ | with_reducible refine wo_some ?_)
  | with_reducible refine dAdd_ii ?_
  | with_reducible refine dI_ii ?_
  | with_reducible refine dU_i ?_
  | with_reducible refine dEq_fi ?_
  | with_reducible refine dEq_ti ?_
  | with_reducible refine dEq_fs ?_
  | with_reducible refine dEq_ts ?_
  | with_reducible refine dEq_fb ?_
  | with_reducible refine dEq_tb ?_
  | with_reducible refine dEq_sn ?_
  | with_reducible refine dEq_ns ?_
  | with_reducible refine dEq_nn ?_
  | with_reducible refine dIn_fs ?_
  | with_reducible refine dIn_ts ?_
  | with_reducible refine dIn_fi ?_
  | with_reducible refine dIn_ti ?_
  | with_reducible refine dIn_tc ?_
  | with_reducible refine dIn_fc ?_
  | with_reducible refine dSl_l ?_
  | with_reducible refine dSl_q ?_
  | with_reducible refine dLen_l ?_
  | with_reducible refine dLen_q ?_
  | (guard_target =~ dLen [.ref _] _ _; with_reducible refine dLen_r (by first | exact um_same | assumption) ?_)
  | with_reducible refine ty_l ?_
  | with_reducible refine ty_s ?_
  | (guard_target =~ tyD _ "list" (.ref _) ∧ _; with_reducible refine ty_r (by first | exact um_same | assumption) ?_)
  | with_reducible refine dLen_t ?_
  | with_reducible refine dInt_i ?_
  | with_reducible refine dInt_b ?_
  | with_reducible refine dBool_i ?_
  | with_reducible refine dMax_ii ?_
  | with_reducible refine dMin_ii ?_
  | with_reducible refine dList_l ?_
  | with_reducible refine dIsN_s ?_
  | with_reducible refine dIsN_n ?_
  | with_reducible refine dIsN_i ?_
  | with_reducible refine bl_ex ?_
  | with_reducible refine tru_b ?_
  | with_reducible refine tru_i ?_
  | with_reducible refine tru_l ?_
  | with_reducible refine iteT ?_
  | with_reducible refine iteF ?_
  | with_reducible refine iteNT ?_
  | with_reducible refine iteNF ?_
  | with_reducible refine ⟨_, rfl, ?_⟩)
local macro_rules | `(tactic| walk_at "w") => `(tactic| repeat walk_at "s")

/-! ### World.spot -/
abbrev strsD (ss : List Str) : List D := ss.map D.str
abbrev cW (K : PySem.W.Frag) : Addr := cA K "World"
def sd_spot (K : PySem.W.Frag) : SpD := fun ds μ P X => ∃ (d : D) (names : List Str) (t : Str), ds = [d, .str t] ∧ ob μ d (fun _ k ns fs => k = cW K ∧ (ns.zip fs).lookup ("order" : Str) = some (D.lst (strsD names))) ∧
  (t ∈ names → P (.int ((names.idxOf t : Nat) : Int)) μ) ∧ (t ∉ names → X (.ref (cA K "Unknown")) (.str t) μ)
theorem idxOf_first {t : Str} : ∀ {l : List Str}, t ∈ l → l[l.idxOf t]? = some t ∧ ∀ m, m < l.idxOf t → l[m]? ≠ some t
  | [], h => by cases h
  | x :: r, h => by
    by_cases q : x = t
    · subst q
      rw [List.idxOf_cons_self]
      exact ⟨rfl, fun m hm => absurd hm (Nat.not_lt_zero m)⟩
    · have hr : t ∈ r := by
        rcases List.mem_cons.mp h with z | z
        · exact absurd z.symm q
        · exact z
      obtain ⟨h1, h2⟩ := idxOf_first hr
      have e : (x :: r).idxOf t = r.idxOf t + 1 := by
        rw [List.idxOf_cons]
        have : (x == t) = false := beq_eq_false_iff_ne.mpr q
        rw [this]
        rfl
      rw [e]
      refine ⟨by simpa using h1, fun m hm => ?_⟩
      cases m with
      | zero => simpa using q
      | succ m => simpa using h2 m (by omega)
end Nm
namespace Nm
open PySem PySem.Spec PyProof.Rows L2
local macro_rules | `(tactic| walk_at "s") => `(tactic| first
  | (guard_target =~ Ws _ _ _ _ _ _; first | with_reducible refine ws_seq ?_ | with_reducible refine ws_set ?_ | with_reducible refine ws_if ?_ | with_reducible refine ws_ret ?_ | with_reducible refine ws_asg ?_ | with_reducible refine ws_drop ?_ | with_reducible refine ws_next ?_ | with_reducible refine ws_for ?_ | with_reducible refine ws_brk ?_ | with_reducible refine ws_cont ?_ | with_reducible refine ws_retN ?_ | with_reducible refine ws_fld ?_)
  | (guard_target =~ Wa _ _ _ _ _ _ _; first | with_reducible refine wa_cons ?_ | with_reducible refine wa_nil ?_)
  | (guard_target =~ We _ _ _ _ _ _ _; first | (guard_target =~ We _ _ (tOp _ _ _) _ _ _ _; first | with_reducible refine we_op opS_add ?_ | with_reducible refine we_op opS_sub ?_ | with_reducible refine we_op opS_mul ?_ | with_reducible refine we_op opS_mod ?_ | with_reducible refine we_op opS_div ?_ | with_reducible refine we_op opS_ix ?_ | with_reducible refine we_op opS_eq ?_ | with_reducible refine we_op opS_ne ?_ | with_reducible refine we_op opS_lt ?_ | with_reducible refine we_op opS_le ?_ | with_reducible refine we_op opS_gt ?_ | with_reducible refine we_op opS_ge ?_ | with_reducible refine we_op opS_in ?_ | with_reducible refine we_op opS_notIn ?_ | with_reducible refine we_op opS_and ?_ | with_reducible refine we_op opS_or ?_ | with_reducible refine we_op opS_shr ?_ | with_reducible refine we_op opS_shl ?_ | with_reducible refine we_op opS_pow ?_ | with_reducible refine we_op opS_isN ?_ | with_reducible refine we_op opS_notN ?_ | with_reducible refine we_op opS_xor ?_) | (guard_target =~ We _ _ (tCB _ _) _ _ _ _; first | with_reducible refine we_cb cbS_len ?_ | with_reducible refine we_cb cbS_int ?_ | with_reducible refine we_cb cbS_bool ?_ | with_reducible refine we_cb cbS_max ?_ | with_reducible refine we_cb cbS_min ?_ | with_reducible refine we_cb cbS_isi ?_) | with_reducible refine we_var rfl ?_ | with_reducible refine we_int ?_ | with_reducible refine we_str ?_ | with_reducible refine we_bl ?_ | with_reducible refine we_non ?_ | with_reducible refine we_ty ?_ | with_reducible refine we_ref ?_ | with_reducible refine we_sl ?_ | with_reducible refine we_orT ?_ | with_reducible refine we_andT ?_ | with_reducible refine we_notT ?_ | with_reducible refine we_if ?_ | with_reducible refine we_tup ⟨?_, ?_⟩ | with_reducible refine we_tup ?_ | with_reducible refine we_fld ?_ | with_reducible refine we_call (dds := []) (fun _ => HasL.nil) ?_ | with_reducible refine we_call0 (dds := []) (fun _ => HasL.nil) ?_ | with_reducible refine we_meth (dds := []) (fun _ => HasL.nil) ?_ | with_reducible refine we_bm mS_append ?_ | with_reducible refine we_bm mS_extend ?_ | with_reducible refine we_bm0 mS_clear ?_ | with_reducible refine we_bm mS_indexS ?_ | with_reducible refine we_bm mS_join ?_ | with_reducible refine we_bm mS_split ?_ | with_reducible refine we_bm mS_part ?_ | with_reducible refine we_un unS_neg ?_ | with_reducible refine we_un unS_inv ?_)
  | (guard_target =~ Wt _ _ _ _ _ _ _; first | with_reducible refine wt_test ?_ | with_reducible refine wt_tr ?_ | with_reducible refine wt_not ?_ | with_reducible refine wt_and ?_ | with_reducible refine wt_or ?_ | with_reducible refine wt_val ?_ | with_reducible refine wt_yes ?_)
  | (guard_target =~ Wg _ _ _ _ _ _; first | with_reducible refine wg_name ?_)
  | (guard_target =~ Wgs _ _ _ _ _ _; first | with_reducible refine wgs_cons ?_ | with_reducible refine wgs_nil ?_)
  | (guard_target =~ Wi _ _ _ _ _ _ _; first | with_reducible refine wi_str ?_ | with_reducible refine wi_list ?_ | with_reducible refine wi_rngN ?_ | with_reducible refine wi_rng2 ?_)
  | (guard_target =~ Wo _ _ _ _ _ _ _; first | with_reducible refine wo_none ?_ | with_reducible refine wo_some ?_)
  | with_reducible refine dAdd_ii ?_
  | with_reducible refine dI_ii ?_
  | with_reducible refine dU_i ?_
  | with_reducible refine dEq_fi ?_
  | with_reducible refine dEq_ti ?_
  | with_reducible refine dEq_fs ?_
  | with_reducible refine dEq_ts ?_
  | with_reducible refine dEq_fb ?_
  | with_reducible refine dEq_tb ?_
  | with_reducible refine dEq_sn ?_
  | with_reducible refine dEq_ns ?_
  | with_reducible refine dEq_nn ?_
  | with_reducible refine dIn_fs ?_
  | with_reducible refine dIn_ts ?_
  | with_reducible refine dIn_fi ?_
  | with_reducible refine dIn_ti ?_
  | with_reducible refine dIn_tc ?_
  | with_reducible refine dIn_fc ?_
  | with_reducible refine dSl_l ?_
  | with_reducible refine dSl_q ?_
  | with_reducible refine dLen_l ?_
  | with_reducible refine dLen_q ?_
  | (guard_target =~ dLen [.ref _] _ _; with_reducible refine dLen_r (by first | exact um_same | assumption) ?_)
  | with_reducible refine ty_l ?_
  | with_reducible refine ty_s ?_
  | (guard_target =~ tyD _ "list" (.ref _) ∧ _; with_reducible refine ty_r (by first | exact um_same | assumption) ?_)
  | with_reducible refine dLen_t ?_
  | with_reducible refine dInt_i ?_
  | with_reducible refine dInt_b ?_
  | with_reducible refine dBool_i ?_
  | with_reducible refine dMax_ii ?_
  | with_reducible refine dMin_ii ?_
  | with_reducible refine dList_l ?_
  | with_reducible refine dIsN_s ?_
  | with_reducible refine dIsN_n ?_
  | with_reducible refine dIsN_i ?_
  | with_reducible refine bl_ex ?_
  | with_reducible refine tru_b ?_
  | with_reducible refine tru_i ?_
  | with_reducible refine tru_l ?_
  | with_reducible refine iteT ?_
  | with_reducible refine iteF ?_
  | with_reducible refine iteNT ?_
  | with_reducible refine iteNF ?_
  | with_reducible refine ⟨_, rfl, ?_⟩)
local macro_rules | `(tactic| walk_at "w") => `(tactic| repeat walk_at "s")

/-! ### _law_mixed, _law_pool, _law_take -/
abbrev intsD (zs : List Int) : List D := zs.map D.int
def sd_mixed : SpD := fun ds μ P _ => ∃ i j : Int, ds = [.int i, .int j] ∧ ∀ r : Int, P (.int r) μ
def sd_pool : SpD := fun ds μ P _ => ∃ ns : List Int, ds = [.sq (intsD ns)] ∧ ns.length ≤ 63 ∧ ∀ zs : List Int, zs ≠ [] → zs.length ≤ 5000 → P (.lst (intsD zs)) μ
def sd_take : SpD := fun ds μ P _ => ∃ (zs : List Int) (a : Addr) (n m : Int), ds = [.lst (intsD zs), .ref a, .int m] ∧ zs ≠ [] ∧ 0 < m ∧ μ a = some (.lst [.int n]) ∧
  ∀ r n' : Int, 0 ≤ r → r < m → P (.int r) (um μ a (.lst [.int n']))
theorem intsD_app (zs : List Int) (i : Int) : intsD zs ++ [.int i] = intsD (zs ++ [i]) := by simp [intsD]
theorem cmulR {i j : Int} (h1 : -(2 ^ 64) < j) (h2 : j < 2 ^ 64) : CMul i j := .inr ⟨h1, h2⟩
theorem cmulL {i j : Int} (h1 : -(2 ^ 64) < i) (h2 : i < 2 ^ 64) : CMul i j := .inl ⟨h1, h2⟩
theorem szl (n : Nat) (h : n ≤ 100000) : n < sizeLine := by rw [sizeLine_eq]; omega
theorem intsD_get {zs : List Int} {i : Nat} {d : D} (h : (intsD zs)[i]? = some d) : ∃ z, zs[i]? = some z ∧ d = .int z := by
  rw [List.getElem?_map] at h
  cases q : zs[i]? with
  | none => rw [q] at h; cases h
  | some t => rw [q] at h; exact ⟨t, rfl, (Option.some.inj h).symm⟩
abbrev N_law_mixed : List Str := ["_law_cell", "_law_k", "_law_one"]
theorem sc_law_mixed : FnScope N_law_mixed ["_law_cell", "_law_k"] (defScope s_law_mixed) := ⟨rfl, rfl, rfl, by decide +kernel, rfl, by decide +kernel, by decide +kernel⟩
abbrev D_law_mixed (K : PySem.W.Frag) (mg : Str → Option Value) : Prop := DF K mg "_law_mixed" s_law_mixed
theorem gf_law_mixed {P : Program} {w : World} {K : PySem.W.Frag} {mg : Str → Option Value} {base : Heap} {k : Nat} {sp : Sp} (D : D_law_mixed K mg) (h : ∀ {f : Addr} {fd : FuncData}, FunD K "_law_mixed" "_law_mixed" (defArgs s_law_mixed) (defBody s_law_mixed) (defScope s_law_mixed) [] [] f fd → FnOk P w K mg base (L2.CX P w) k f fd ["_law_cell", "_law_k"] sp) : GF P w K mg base "_law_mixed" k ["_law_cell", "_law_k"] sp := by
  obtain ⟨f, fd, h1, h2⟩ := D.ex
  exact ⟨f, fd, h1, h2.kp, FunD.bindsN h2 fun _ _ _ _ _ _ us hl => match us, hl with | [_, _], _ => rfl, h h2⟩

abbrev N_law_pool : List Str := ["_law_script", "_law_pool_here", "_law_seed", "_law_cell", "_law_rest", "_law_k"]
theorem sc_law_pool : FnScope N_law_pool ["_law_script"] (defScope s_law_pool) := ⟨rfl, rfl, rfl, by decide +kernel, rfl, by decide +kernel, by decide +kernel⟩
abbrev D_law_pool (K : PySem.W.Frag) (mg : Str → Option Value) : Prop := DF K mg "_law_pool" s_law_pool
theorem gf_law_pool {P : Program} {w : World} {K : PySem.W.Frag} {mg : Str → Option Value} {base : Heap} {k : Nat} {sp : Sp} (D : D_law_pool K mg) (h : ∀ {f : Addr} {fd : FuncData}, FunD K "_law_pool" "_law_pool" (defArgs s_law_pool) (defBody s_law_pool) (defScope s_law_pool) [] [] f fd → FnOk P w K mg base (L2.CX P w) k f fd ["_law_script"] sp) : GF P w K mg base "_law_pool" k ["_law_script"] sp := by
  obtain ⟨f, fd, h1, h2⟩ := D.ex
  exact ⟨f, fd, h1, h2.kp, FunD.bindsN h2 fun _ _ _ _ _ _ us hl => match us, hl with | [_], _ => rfl, h h2⟩

abbrev N_law_take : List Str := ["_law_pool_here", "_law_at", "_law_many"]
theorem sc_law_take : FnScope N_law_take ["_law_pool_here", "_law_at", "_law_many"] (defScope s_law_take) := ⟨rfl, rfl, rfl, by decide +kernel, rfl, by decide +kernel, by decide +kernel⟩
abbrev D_law_take (K : PySem.W.Frag) (mg : Str → Option Value) : Prop := DF K mg "_law_take" s_law_take
theorem gf_law_take {P : Program} {w : World} {K : PySem.W.Frag} {mg : Str → Option Value} {base : Heap} {k : Nat} {sp : Sp} (D : D_law_take K mg) (h : ∀ {f : Addr} {fd : FuncData}, FunD K "_law_take" "_law_take" (defArgs s_law_take) (defBody s_law_take) (defScope s_law_take) [] [] f fd → FnOk P w K mg base (L2.CX P w) k f fd ["_law_pool_here", "_law_at", "_law_many"] sp) : GF P w K mg base "_law_take" k ["_law_pool_here", "_law_at", "_law_many"] sp := by
  obtain ⟨f, fd, h1, h2⟩ := D.ex
  exact ⟨f, fd, h1, h2.kp, FunD.bindsN h2 fun _ _ _ _ _ _ us hl => match us, hl with | [_, _, _], _ => rfl, h h2⟩

section
variable {P : Program} {w : World} {K : PySem.W.Frag} {mg : Str → Option Value} {base : Heap}
theorem ok_mixed (D : D_law_mixed K mg) (Z : Zs mg) : GF P w K mg base "_law_mixed" 1 ["_law_cell", "_law_k"] (toSp K sd_mixed) := by
  refine gf_law_mixed D fun F => fun_ok F sc_law_mixed (fun ds μ P X h => ?_) fun cdv A outer s H E hr => ⟨_, (pss_cons (ps_set (i := 2) sc_law_mixed.nd rfl (by first | exact Or.inl rfl | exact Or.inr rfl) (pe_op op_mod (pe_callTy call_intU (by rfl) Z.z_int (by decide +kernel) (pa_cons (pe_op op_addU (pe_op op_addU (pe_op op_mul (pv 0) pe_int) (pe_op op_mul (pv 1) pe_int)) pe_int) pa_nil)) pe_int))
    (pss_one (ps_ret (pe_op op_mod (pe_callTy call_intU (by rfl) Z.z_int (by decide +kernel) (pa_cons (pe_op op_addU (pe_op op_addU (pe_op op_mul (pv 2) (pv 2)) (pe_op op_mul (pv 1) pe_int)) (pv 0)) pa_nil)) pe_int)))), fun ds μ Pd X h => ?_⟩
  · obtain ⟨i, j, rfl, _⟩ := h; rfl
  · obtain ⟨i, j, rfl, hp⟩ := h
    show Ws K (wOf E) _ [some (.int i), some (.int j), none] μ _
    walk_at "w"
    refine dIC_ii (cmulR (by decide) (by decide)) ?_
    walk_at "w"
    refine dIC_ii (cmulR (by decide) (by decide)) ?_
    walk_at "w"
    refine dIC_ii (by decide) ?_
    have h1 : 0 ≤ (i * 37 + j * 101 + 11) % 1009 := Int.emod_nonneg _ (by decide)
    have h2 : (i * 37 + j * 101 + 11) % 1009 < 1009 := Int.emod_lt_of_pos _ (by decide)
    walk_at "w"
    refine dIC_ii (cmulR (by omega) (by omega)) ?_
    walk_at "w"
    refine dIC_ii (cmulR (by decide) (by decide)) ?_
    walk_at "w"
    refine dIC_ii (by decide) ?_
    exact ret_of (hp _)
theorem ok_pool (D : D_law_pool K mg) (Z : Zs mg) (G_law_mixed : GF P w K mg base "_law_mixed" 1 ["_law_cell", "_law_k"] (toSp K sd_mixed)) : GF P w K mg base "_law_pool" 2 ["_law_script"] (toSp K sd_pool) := by
  refine gf_law_pool D fun F => fun_ok F sc_law_pool (fun ds μ P X h => ?_) fun cdv A outer s H E hr => ⟨_, (pss_cons (ps_set (i := 1) sc_law_pool.nd rfl (by first | exact Or.inl rfl | exact Or.inr rfl) (pe_lst pa_nil))
    (pss_cons (ps_set (i := 2) sc_law_pool.nd rfl (by first | exact Or.inl rfl | exact Or.inr rfl) (pe_callB (call_lenK (K := K) rfl) (by rfl) Z.z_len (by decide +kernel) (pa_cons (pv 0) pa_nil)))
    (pss_cons (ps_for po_def rfl (pi_listK (K := K) rfl (pe_slice (sl_uK (K := K) rfl) (pv 0) po_none (po_some pe_int))) (pg_name (i := 3) sc_law_pool.nd rfl (by first | exact Or.inl rfl | exact Or.inr rfl))
      (pss_cons (ps_set (i := 2) sc_law_pool.nd rfl (by first | exact Or.inl rfl | exact Or.inr rfl) (pe_op op_mod (pe_callTy call_intU (by rfl) Z.z_int (by decide +kernel) (pa_cons (pe_op op_addU (pe_op op_mul (pv 2) pe_int) (pv 3)) pa_nil)) pe_int))
        (pss_one (ps_if (pt_cmpR op_ge (pv 3) (pe_op op_pow pe_int pe_int) (nomark _))
          (pss_cons (ps_set (i := 4) sc_law_pool.nd rfl (by first | exact Or.inl rfl | exact Or.inr rfl) (pe_op op_mod (pe_callTy call_intU (by rfl) Z.z_int (by decide +kernel) (pa_cons (pv 3) pa_nil)) (pe_op op_pow pe_int pe_int)))
            (pss_one (ps_for po_def rfl (pi_range1 (by rfl) Z.z_range (pa_cons pe_int pa_nil)) (pg_name (i := 5) sc_law_pool.nd rfl (by first | exact Or.inl rfl | exact Or.inr rfl))
              (pss_one (ps_if (pt_cmpR op_gt (pv 4) pe_int (nomark _))
                  (pss_cons (ps_expr (pe_bmK (K := K) rfl PySem.F.plainAttrs_list PySem.F.slot_list_append PySem.F.type_list_append mt_append (pv 1) (pa_cons (pe_op op_mod (pe_callTy call_intU (by rfl) Z.z_int (by decide +kernel) (pa_cons (pv 4) pa_nil)) pe_int) pa_nil)))
                    (pss_one (ps_set (i := 4) sc_law_pool.nd rfl (by first | exact Or.inl rfl | exact Or.inr rfl) (pe_op op_fdiv (pv 4) pe_int))))
                  pss_nil)))))
          (pss_one (ps_for po_def rfl (pi_range1 (by rfl) Z.z_range (pa_cons pe_int pa_nil)) (pg_name (i := 5) sc_law_pool.nd rfl (by first | exact Or.inl rfl | exact Or.inr rfl))
              (pss_one (ps_expr (pe_bmK (K := K) rfl PySem.F.plainAttrs_list PySem.F.slot_list_append PySem.F.type_list_append mt_append (pv 1) (pa_cons (pe_gf G_law_mixed (hr.mono (by decide)) tk_def (pa_cons (pv 3) (pa_cons (pe_callB (call_lenK (K := K) rfl) (by rfl) Z.z_len (by decide +kernel) (pa_cons (pv 1) pa_nil)) pa_nil))) pa_nil))))))))))
    (pss_cons (ps_for po_def rfl (pi_range1 (by rfl) Z.z_range (pa_cons pe_int pa_nil)) (pg_name (i := 5) sc_law_pool.nd rfl (by first | exact Or.inl rfl | exact Or.inr rfl))
      (pss_one (ps_expr (pe_bmK (K := K) rfl PySem.F.plainAttrs_list PySem.F.slot_list_append PySem.F.type_list_append mt_append (pv 1) (pa_cons (pe_gf G_law_mixed (hr.mono (by decide)) tk_def (pa_cons (pv 2) (pa_cons (pv 5) pa_nil))) pa_nil)))))
    (pss_one (ps_ret (pv 1))))))), fun ds μ Pd X h => ?_⟩
  · obtain ⟨ns, rfl, _⟩ := h; rfl
  · obtain ⟨ns, rfl, hn, hp⟩ := h
    show Ws K (wOf E) _ [some (.sq (intsD ns)), none, none, none, none, none] μ _
    refine ws_seq (ws_set (we_lstM ?_))
    walk_at "w"
    refine ⟨Nat.zero_le _, fun l hl0 => ?_⟩
    walk_at "w"
    refine ⟨_, .inl rfl, fun i Γ' μ' => (∃ s g1 g2 g3, Γ' = [some (.sq (intsD ns)), some (.ref l), some (.int s), g1, g2, g3]) ∧ ∃ zs : List Int, μ' = um μ l (.lst (intsD zs)) ∧ zs.length ≤ 60 * i, ⟨⟨_, _, _, _, rfl⟩, [], rfl, Nat.zero_le _⟩, ?_, ?_⟩
    · rintro i d Γ' μ' hi ⟨⟨s, g1, g2, g3, rfl⟩, zs, rfl, hz⟩
      have hcut : cutD (intsD ns) none (some 63) = intsD ns := by
        refine (cutD_to (intsD ns) 63).trans (List.take_of_length_le ?_)
        rw [List.length_map]
        exact hn
      rw [hcut] at hi
      obtain ⟨c, hc, rfl⟩ := intsD_get hi
      have li : i < 63 := by
        have := (List.getElem?_eq_some_iff.mp hc).1
        omega
      walk_at "w"
      refine dIC_ii (cmulR (by decide) (by decide)) ?_
      walk_at "w"
      refine dIC_ii (by decide) ?_
      walk_at "w"
      refine dIC_ii (C := CPow) ⟨by decide, by decide, by decide⟩ ?_
      walk_at "w"
      refine iteD (fun h => ?_) (fun h => ?_)
      · walk_at "w"
        refine dIC_ii (C := CPow) ⟨by decide, by decide, by decide⟩ ?_
        walk_at "w"
        refine dIC_ii (Int.pow_pos (by decide)) ?_
        walk_at "w"
        refine ⟨by decide, ?_⟩
        refine ⟨fun k Γ' μ' => (∃ s r g3, Γ' = [some (.sq (intsD ns)), some (.ref l), some (.int s), some (.int c), some (.int r), g3]) ∧ ∃ ys : List Int, μ' = um μ l (.lst (intsD ys)) ∧ ys.length ≤ 60 * i + k, ⟨⟨_, _, _, rfl⟩, zs, rfl, hz⟩, ?_, ?_⟩
        · rintro k d Γ' μ' hk ⟨⟨s, r, g3, rfl⟩, ys, rfl, hy⟩
          obtain ⟨hk1, rfl⟩ := rng0_get hk
          have hk1 : k < 60 := hk1
          walk_at "w"
          refine iteD (fun h => ?_) (fun h => ?_)
          · walk_at "w"
            refine dIC_ii (by decide) ?_
            walk_at "w"
            refine dApp um_same (szl _ (by rw [List.length_map]; omega)) ?_
            walk_at "w"
            refine dIC_ii (C := CDiv) ⟨by decide, by decide⟩ ?_
            refine Fo.of ⟨⟨_, _, _, rfl⟩, ys ++ [r % 1000], ?_, by rw [List.length_append, List.length_singleton]; omega⟩
            rw [um_um, intsD_app]
          · walk_at "w"
            exact Fo.of ⟨⟨_, _, _, rfl⟩, ys, rfl, by omega⟩
        · rintro Γ' μ' ⟨⟨s, r, g3, rfl⟩, ys, rfl, hy⟩
          have hy : ys.length ≤ 60 * i + 60 := by rw [rng0_length] at hy; exact hy
          exact Fo.of ⟨⟨_, _, _, _, rfl⟩, ys, rfl, by omega⟩
      · walk_at "w"
        refine ⟨by decide, ?_⟩
        refine ⟨fun k Γ' μ' => (∃ s g2 g3, Γ' = [some (.sq (intsD ns)), some (.ref l), some (.int s), some (.int c), g2, g3]) ∧ ∃ ys : List Int, μ' = um μ l (.lst (intsD ys)) ∧ ys.length ≤ 60 * i + k, ⟨⟨_, _, _, rfl⟩, zs, rfl, hz⟩, ?_, ?_⟩
        · rintro k d Γ' μ' hk ⟨⟨s, g2, g3, rfl⟩, ys, rfl, hy⟩
          obtain ⟨hk1, rfl⟩ := rng0_get hk
          have hk1 : k < 8 := hk1
          walk_at "w"
          refine ⟨_, _, rfl, fun r => ?_⟩
          walk_at "w"
          refine dApp um_same (szl _ (by rw [List.length_map]; omega)) ?_
          refine Fo.of ⟨⟨_, _, _, rfl⟩, ys ++ [r], ?_, by rw [List.length_append, List.length_singleton]; omega⟩
          rw [um_um, intsD_app]
        · rintro Γ' μ' ⟨⟨s, g2, g3, rfl⟩, ys, rfl, hy⟩
          have hy : ys.length ≤ 60 * i + 8 := by rw [rng0_length] at hy; exact hy
          exact Fo.of ⟨⟨_, _, _, _, rfl⟩, ys, rfl, by omega⟩
    · rintro Γ' μ' ⟨⟨s, g1, g2, g3, rfl⟩, zs, rfl, hz⟩
      have hcut : (cutD (intsD ns) none (some 63)).length ≤ 63 := by
        refine Nat.le_trans (Nat.le_of_eq (congrArg List.length (cutD_to (intsD ns) 63))) ?_
        rw [List.length_take]
        exact Nat.min_le_left _ _
      have hz : zs.length ≤ 60 * 63 := by omega
      walk_at "w"
      refine ⟨by decide, ?_⟩
      refine ⟨fun k Γ' μ' => (∃ g1 g2 g3, Γ' = [some (.sq (intsD ns)), some (.ref l), some (.int s), g1, g2, g3]) ∧ ∃ ys : List Int, μ' = um μ l (.lst (intsD ys)) ∧ ys.length ≤ 60 * 63 + k ∧ (0 < k → ys ≠ []), ⟨⟨_, _, _, rfl⟩, zs, rfl, hz, fun h => absurd h (Nat.lt_irrefl 0)⟩, ?_, ?_⟩
      · rintro k d Γ' μ' hk ⟨⟨g1, g2, g3, rfl⟩, ys, rfl, hy, _⟩
        obtain ⟨hk1, rfl⟩ := rng0_get hk
        have hk1 : k < 400 := hk1
        walk_at "w"
        refine ⟨_, _, rfl, fun r => ?_⟩
        walk_at "w"
        refine dApp um_same (szl _ (by rw [List.length_map]; omega)) ?_
        refine Fo.of ⟨⟨_, _, _, rfl⟩, ys ++ [r], ?_, by rw [List.length_append, List.length_singleton]; omega, fun _ => by simp⟩
        rw [um_um, intsD_app]
      · rintro Γ' μ' ⟨⟨g1, g2, g3, rfl⟩, ys, rfl, hy, hne⟩
        have hy : ys.length ≤ 60 * 63 + 400 := by rw [rng0_length] at hy; exact hy
        have hne : 0 < 400 → ys ≠ [] := by rw [rng0_length] at hne; exact hne
        refine ws_freeze (i := 1) um_same rfl ?_
        rw [dm_um hl0]
        show Ws K (wOf E) _ [some (.sq (intsD ns)), some (.lst (intsD ys)), some (.int s), g1, g2, g3] μ _
        walk_at "w"
        exact ret_of (hp ys (hne (by decide)) (by omega))
theorem ok_take (D : D_law_take K mg) (Z : Zs mg) : GF P w K mg base "_law_take" 1 ["_law_pool_here", "_law_at", "_law_many"] (toSp K sd_take) := by
  refine gf_law_take D fun F => fun_ok F sc_law_take (fun ds μ P X h => ?_) fun cdv A outer s H E hr => ⟨_, (pss_cons (ps_asg (pe_op op_addU (pe_ix (ix_seqK (K := K) rfl) (pv 1) pe_int (fun _ _ => rfl)) pe_int) (pg_sub (pv 1) pe_int set_list))
    (pss_one (ps_ret (pe_op op_mod (pe_callTy call_intU (by rfl) Z.z_int (by decide +kernel) (pa_cons (pe_ix (ix_seqK (K := K) rfl) (pv 0) (pe_op op_mod (pe_callTy call_intU (by rfl) Z.z_int (by decide +kernel) (pa_cons (pe_op op_sub (pe_ix (ix_seqK (K := K) rfl) (pv 1) pe_int (fun _ _ => rfl)) pe_int) pa_nil)) (pe_callB (call_lenK (K := K) rfl) (by rfl) Z.z_len (by decide +kernel) (pa_cons (pv 0) pa_nil))) (fun _ _ => rfl)) pa_nil)) (pv 2))))), fun ds μ Pd X h => ?_⟩
  · obtain ⟨zs, a, n, m, rfl, _⟩ := h; rfl
  · obtain ⟨zs, a, n, m, rfl, hz, hm, ha, hp⟩ := h
    show Ws K (wOf E) _ [some (.lst (intsD zs)), some (.ref a), some (.int m)] μ _
    walk_at "w"
    refine dIx_r ha (d := .int n) (atI_nat (j := 0) rfl) ?_
    walk_at "w"
    refine wg_set (W := wOf E) ?_
    walk_at "w"
    refine ⟨a, _, _, 0, rfl, rfl, ha, rfl, ?_⟩
    have hset : ([.int n] : List Nm.D).set 0 (.int (n + 1)) = [.int (n + 1)] := rfl
    rw [hset]
    walk_at "w"
    refine dIx_r um_same (d := .int (n + 1)) (atI_nat (j := 0) rfl) ?_
    walk_at "w"
    have hl : 0 < (intsD zs).length := by rw [List.length_map]; exact List.length_pos_iff.mpr hz
    refine dIC_ii (by omega) ?_
    have h1 : 0 ≤ (n + 1 - 1) % ((intsD zs).length : Int) := Int.emod_nonneg _ (by omega)
    have h2 : (n + 1 - 1) % ((intsD zs).length : Int) < ((intsD zs).length : Int) := Int.emod_lt_of_pos _ (by omega)
    obtain ⟨j, hj⟩ := Int.eq_ofNat_of_zero_le h1
    have hj2 : j < zs.length := by rw [hj, List.length_map] at h2; omega
    walk_at "w"
    refine dIx_l (d := .int zs[j]) ?_ ?_
    · rw [hj]
      refine atI_nat ?_
      rw [List.getElem?_map, List.getElem?_eq_getElem hj2]
      rfl
    walk_at "w"
    refine dIC_ii hm ?_
    exact ret_of (hp _ _ (Int.emod_nonneg _ (by omega)) (Int.emod_lt_of_pos _ hm))
end
end Nm
namespace Nm
open PySem PySem.Spec PyProof.Rows L2
/-! ### names that differ at one place -/
def nmL (st : List Nat) (sp f : Nat) (t : List Nat) (i : Nat) : List Nat := ((st.take sp ++ [97 + (f + 7 * i) % 26]) ++ st.drop sp) ++ t
theorem nmL_len {st t : List Nat} {sp f i : Nat} (h : sp ≤ st.length) : (nmL st sp f t i).length = st.length + 1 + t.length := by
  unfold nmL
  simp only [List.length_append, List.length_take, List.length_drop, List.length_singleton]
  omega
theorem nmL_at {st t : List Nat} {sp f i : Nat} (h : sp ≤ st.length) : (nmL st sp f t i)[sp]? = some (97 + (f + 7 * i) % 26) := by
  unfold nmL
  have e : (st.take sp).length = sp := by rw [List.length_take]; omega
  rw [List.append_assoc, List.append_assoc, List.getElem?_append_right (by omega), e, Nat.sub_self]
  rfl
theorem letter_sign {c : Nat} (h : letter c = true) : sign c = true := by
  unfold letter at h
  unfold sign
  rw [h]
  rfl
theorem letter26 (x : Nat) : letter (97 + x % 26) = true := by
  unfold letter
  exact decide_eq_true (by omega)
theorem nmL_first {st t : List Nat} {sp f i : Nat} (hl : ∀ c, st[0]? = some c → letter c = true) : ∃ c r, nmL st sp f t i = c :: r ∧ letter c = true := by
  unfold nmL
  cases sp with
  | zero => exact ⟨_, _, rfl, letter26 _⟩
  | succ n =>
    cases st with
    | nil => exact ⟨_, _, rfl, letter26 _⟩
    | cons c r => exact ⟨c, _, rfl, hl c rfl⟩
theorem nmL_sign {st t : List Nat} {sp f i : Nat} (hs : ∀ c ∈ st, sign c = true) (ht : ∀ c ∈ t, sign c = true) : ∀ c ∈ nmL st sp f t i, sign c = true := by
  intro c hc
  unfold nmL at hc
  rcases List.mem_append.mp hc with hc | hc
  · rcases List.mem_append.mp hc with hc | hc
    · rcases List.mem_append.mp hc with hc | hc
      · exact hs c (List.mem_of_mem_take hc)
      · rw [List.mem_singleton.mp hc]
        exact letter_sign (letter26 _)
    · exact hs c (List.mem_of_mem_drop hc)
  · exact ht c hc
theorem names_ok {st : List Nat} {sp f m : Nat} {tl : Nat → List Nat} {names : List Str} (hst : st.length ≤ 5) (hs : ∀ c ∈ st, sign c = true) (hl : ∀ c, st[0]? = some c → letter c = true) (hsp : sp ≤ st.length) (htl : ∀ i, (tl i).length ≤ 2 ∧ ∀ c ∈ tl i, sign c = true)
    (hinj : ∀ i j, i < m → j < m → (f + 7 * i) % 26 = (f + 7 * j) % 26 → (tl i).length = (tl j).length → i = j) (hlen : names.length = m) (hn : ∀ i y, names[i]? = some y → y.cps.toList = nmL st sp f (tl i) i) :
    names.Nodup ∧ ∀ x ∈ names, isName x = true := by
  constructor
  · rw [List.nodup_iff_pairwise_ne, List.pairwise_iff_getElem]
    intro i j hi hj hij e
    have e1 := hn i _ (List.getElem?_eq_getElem hi)
    have e2 := hn j _ (List.getElem?_eq_getElem hj)
    rw [e, e2] at e1
    have l1 := congrArg List.length e1
    rw [nmL_len hsp, nmL_len hsp] at l1
    have c1 := congrArg (fun l => l[sp]?) e1
    simp only [nmL_at hsp] at c1
    have c2 := Option.some.inj c1
    have := hinj i j (by omega) (by omega) (by omega) (by omega)
    omega
  · intro x hx
    obtain ⟨i, hi⟩ := List.getElem?_of_mem hx
    have e := hn i x hi
    obtain ⟨c, r, e1, e2⟩ := nmL_first (sp := sp) (f := f) (t := tl i) (i := i) hl
    unfold isName
    rw [e, e1]
    have l1 := nmL_len (f := f) (t := tl i) (i := i) hsp
    have l2 := (htl i).1
    have s1 := nmL_sign (sp := sp) (f := f) (i := i) hs (htl i).2
    rw [e1] at l1 s1
    show (decide ((c :: r).length ≤ 8) && letter c && (c :: r).all sign) = true
    rw [decide_eq_true (by omega), e2, List.all_eq_true.mpr s1]
    rfl
abbrev tLS : Str := tLETTERS ++ ("0123456789" : Str)
theorem tLS_list : tLS.cps.toList = tSIGNS.cps.toList := by decide +kernel
theorem ls_at : ∀ j : Nat, j < 36 → ∃ c, tLS.cps.toList[j]? = some c ∧ sign c = true ∧ (j < 26 → letter c = true) := by
  intro j hj
  have h : ∀ j < 36, (match tSIGNS.cps.toList[j]? with | some c => sign c && (decide (26 ≤ j) || letter c) | none => false) = true := by
    rw [signs_list]; decide
  have hj' := h j hj
  rw [tLS_list]
  cases q : tSIGNS.cps.toList[j]? with
  | none => rw [q] at hj'; cases hj'
  | some c =>
    rw [q] at hj'
    obtain ⟨h1, h2⟩ := Bool.and_eq_true_iff.mp hj'
    refine ⟨c, rfl, h1, fun z => ?_⟩
    rw [decide_eq_false (by omega)] at h2
    exact h2
theorem let_at {j : Nat} (hj : j < 26) : tLETTERS.cps.toList[j]? = some (97 + j) := by
  have h : ∀ j < 26, tLETTERS.cps.toList[j]? = some (97 + j) := by rw [letters_list]; decide
  exact h j hj
theorem lens5 {r : Int} (h0 : 0 ≤ r) (h1 : r < 5) : ∃ n : Nat, n ≤ 5 ∧ atI [Nm.D.int 0, .int 1, .int 2, .int 4, .int 5] r = some (.int (n : Int)) := by
  obtain rfl | rfl | rfl | rfl | rfl : r = 0 ∨ r = 1 ∨ r = 2 ∨ r = 3 ∨ r = 4 := by omega
  · exact ⟨0, by decide, rfl⟩
  · exact ⟨1, by decide, rfl⟩
  · exact ⟨2, by decide, rfl⟩
  · exact ⟨4, by decide, rfl⟩
  · exact ⟨5, by decide, rfl⟩
theorem strsD_app (xs : List Str) (y : Str) : strsD xs ++ [.str y] = strsD (xs ++ [y]) := by simp [strsD]
/-- what _law_names promises -/
def sd_names (cap : Nat) : SpD := fun ds μ P _ => ∃ (zs : List Int) (a : Addr) (n : Int) (m : Nat), ds = [.lst (intsD zs), .ref a, .int (m : Int)] ∧ zs ≠ [] ∧ μ a = some (.lst [.int n]) ∧ m ≤ cap ∧
  ∀ (names : List Str) (n' : Int), names.length = m → names.Nodup → (∀ x ∈ names, isName x = true) → P (.lst (strsD names)) (um μ a (.lst [.int n']))
theorem strOk_iff {x : Str} : PyData.strOk x = true ↔ ∀ c ∈ x.cps.toList, c < 0x110000 := by
  unfold PyData.strOk
  rw [Array.all_eq_true_iff_forall_mem]
  constructor
  · intro h c hc
    exact of_decide_eq_true (h c (Array.mem_def.mpr hc))
  · intro h c hc
    exact decide_eq_true (h c (Array.mem_def.mp hc))
theorem strOk_app {x y : Str} (h1 : PyData.strOk x = true) (h2 : PyData.strOk y = true) : PyData.strOk (x ++ y) = true := by
  rw [strOk_iff] at *
  intro c hc
  rw [str_app] at hc
  rcases List.mem_append.mp hc with z | z
  · exact h1 c z
  · exact h2 c z
theorem strOk_to {x : Str} {k : Nat} (h : PyData.strOk x = true) : PyData.strOk (cutS x none (some (k : Int))) = true := by
  rw [strOk_iff] at *
  intro c hc
  rw [cutS_to] at hc
  exact h c (List.mem_of_mem_take hc)
theorem strOk_from {x : Str} {k : Nat} (h : PyData.strOk x = true) : PyData.strOk (cutS x (some (k : Int)) none) = true := by
  rw [strOk_iff] at *
  intro c hc
  rw [cutS_from] at hc
  exact h c (List.mem_of_mem_drop hc)
theorem strOk_c {x : Str} {c : Nat} (h : PyData.strOk x = true) (hc : c ∈ x.cps.toList) : PyData.strOk ⟨#[c]⟩ = true := by
  rw [strOk_iff] at *
  intro d hd
  have : d = c := by simpa using hd
  rw [this]
  exact h c hc
theorem isName_so {x : Str} (h : isName x = true) : PyData.strOk x = true := by
  rw [strOk_iff]
  intro c hc
  unfold isName at h
  cases q : x.cps.toList with
  | nil => rw [q] at hc; cases hc
  | cons d r =>
    rw [q] at h hc
    have h : (decide ((d :: r).length ≤ 8) && letter d && (d :: r).all sign) = true := h
    have h2 := List.all_eq_true.mp (Bool.and_eq_true_iff.mp h).2 c hc
    unfold sign at h2
    rw [← Bool.decide_or, decide_eq_true_eq] at h2
    omega
theorem isName_len {x : Str} (h : isName x = true) : x.length ≤ 8 := by
  unfold isName at h
  rw [len_cps]
  cases q : x.cps.toList with
  | nil => exact Nat.zero_le _
  | cons c r =>
    rw [q] at h
    have h : (decide ((c :: r).length ≤ 8) && letter c && (c :: r).all sign) = true := h
    obtain ⟨h1, _⟩ := Bool.and_eq_true_iff.mp h
    obtain ⟨h1, _⟩ := Bool.and_eq_true_iff.mp h1
    exact of_decide_eq_true h1
theorem strsD_get {xs : List Str} {i : Nat} {y : Str} (h : xs[i]? = some y) : (strsD xs)[i]? = some (.str y) := by
  rw [List.getElem?_map, h]; rfl
theorem get_of_lt {α : Type} {l : List α} {i : Nat} (h : i < l.length) : ∃ y, l[i]? = some y := ⟨_, List.getElem?_eq_getElem h⟩
theorem str_at {things : List Str} {k : Nat} (h : k < things.length) : (strsD things)[k]? = some (.str (things.getD k "")) := by
  rw [List.getElem?_map, List.getElem?_eq_getElem h, List.getD_eq_getElem?_getD, List.getElem?_eq_getElem h]; rfl
end Nm
namespace Nm
open PySem PySem.Spec PyProof.Rows L2
/-! ### plain: texts that may be told and have no newline -/
abbrev SoN (x : Str) : Prop := ∀ c ∈ x.cps.toList, c < 0x110000 ∧ c ≠ 10
theorem SoN.ok {x : Str} (h : SoN x) : PyData.strOk x = true := strOk_iff.mpr fun c hc => (h c hc).1
theorem son_app {x y : Str} (h1 : SoN x) (h2 : SoN y) : SoN (x ++ y) := by
  intro c hc
  rw [str_app] at hc
  rcases List.mem_append.mp hc with z | z
  · exact h1 c z
  · exact h2 c z
theorem son_to {x : Str} {k : Nat} (h : SoN x) : SoN (cutS x none (some (k : Int))) := by
  intro c hc
  rw [cutS_to] at hc
  exact h c (List.mem_of_mem_take hc)
theorem son_c {x : Str} {c : Nat} (h : SoN x) (hc : c ∈ x.cps.toList) : SoN ⟨#[c]⟩ := by
  intro d hd
  obtain rfl : d = c := by simpa using hd
  exact h d hc
theorem son_name {x : Str} (h : isName x = true) : SoN x := by
  intro c hc
  refine ⟨(strOk_iff.mp (isName_so h)) c hc, fun e => ?_⟩
  unfold isName at h
  split at h
  · cases h
  · rename_i d r hq
    rw [hq] at hc
    have := List.all_eq_true.mp (Bool.and_eq_true_iff.mp h).2 c hc
    rw [e] at this
    revert this
    decide
theorem son_sub {x : Str} (h : SoN x) (i j : Nat) : SoN (Builtin.Str.strSub x i j) := by
  intro c hc
  refine h c ?_
  have e : (Builtin.Str.strSub x i j).cps = x.cps.extract i j := rfl
  rw [e, Array.toList_extract] at hc
  exact List.mem_of_mem_drop (List.mem_of_mem_take hc)
theorem son_parts {x : Str} (h : SoN x) (w : Nat) : ∀ (cuts : List Nat) (a : Nat), ∀ q ∈ StrLaws.partsFrom x w a cuts, SoN q
  | [], _, q, hq => by
    obtain rfl := List.mem_singleton.mp hq
    exact son_sub h _ _
  | _ :: r, _, q, hq => by
    rcases List.mem_cons.mp hq with rfl | hq
    · exact son_sub h _ _
    · exact son_parts h w r _ q hq
theorem son_split {x y a : Str} (h : SoN x) (ha : a ∈ Txt.split x y) : SoN a := by
  unfold Txt.split at ha
  split at ha
  · rw [List.mem_singleton.mp ha]; exact h
  · split at ha
    · rw [List.mem_singleton.mp ha]; exact h
    · rw [StrLaws.partsBetween_eq] at ha
      exact son_parts h _ _ _ a ha
theorem son_join {y : Str} (hy : SoN y) : ∀ {ps : List Str}, (∀ q ∈ ps, SoN q) → SoN (Txt.join y ps)
  | [], _ => by rw [TL.join_eq]; show SoN ""; decide +kernel
  | [x], h => by rw [TL.join_eq]; exact h x List.mem_cons_self
  | x :: z :: r, h => by
    have ih := son_join hy (ps := z :: r) fun q hq => h q (List.mem_cons_of_mem _ hq)
    rw [TL.join_eq] at ih ⊢
    exact son_app (son_app (h x List.mem_cons_self) hy) ih
theorem son_replace {x y z : Str} (hx : SoN x) (hz : SoN z) : SoN (Txt.replace x y z) := by
  unfold Txt.replace
  split
  · exact hx
  · rw [StrLaws.partsBetween_eq]
    exact son_join hz (son_parts hx _ _ _)
/-- a text has at least one part, and not many -/
theorem split_ne {x y : Str} : Txt.split x y ≠ [] := by
  unfold Txt.split
  split
  · exact List.cons_ne_nil _ _
  · split
    · exact List.cons_ne_nil _ _
    · rw [StrLaws.partsBetween_eq]
      cases (Builtin.Str.occurrences x y 0 x.length (x.length + 1)) with
      | nil => exact List.cons_ne_nil _ _
      | cons c r => exact List.cons_ne_nil _ _
theorem split_few {x y : Str} : (Txt.split x y).length ≤ x.length + 2 := by
  unfold Txt.split
  split
  · exact Nat.le_add_left 1 _
  · split
    · exact Nat.le_add_left 1 _
    · rw [len_partsBetween]
      have := StrLaws.occ_length_le x y 0 x.length (x.length + 1)
      omega
theorem len_app (x y : Str) : (x ++ y).length = x.length + y.length := by rw [len_cps, str_app, List.length_append, ← len_cps, ← len_cps]
theorem ns_len : (" needs" : Str).length = 6 := by decide +kernel
theorem ns_len2 : (" needs " : Str).length = 7 := by decide +kernel
theorem sp_len : (" " : Str).length = 1 := by decide +kernel
theorem split_head {x y : Str} : ∃ t r, Txt.split x y = t :: r ∧ t.length ≤ x.length ∧ (SoN x → SoN t) := by
  cases e : Txt.split x y with
  | nil => exact absurd e split_ne
  | cons t r => exact ⟨t, r, rfl, part_short (by rw [e]; exact List.mem_cons_self), fun h => son_split h (by rw [e]; exact List.mem_cons_self)⟩
/-- how long a text is in which something was replaced -/
theorem repl_len {x y z : Str} {a c : Nat} (hy : y.length = a) (ha : 0 < a) (hz : z.length ≤ c) (hac : a ≤ c) : (Txt.replace x y z).length * a ≤ x.length * c := by
  unfold Txt.replace
  split
  · exact Nat.mul_le_mul_left _ hac
  · have hs : (Builtin.Str.glued y (Builtin.Str.partsBetween x (Builtin.Str.occurrences x y 0 x.length (x.length + 1)) y.length)).length = x.length := by rw [StrLaws.glued_between_self]
    rw [PySem.size_glued, len_partsBetween, Nat.add_sub_cancel] at hs ⊢
    generalize (List.map (fun q : Str => q.length) (Builtin.Str.partsBetween x (Builtin.Str.occurrences x y 0 x.length (x.length + 1)) y.length)).sum = s at hs ⊢
    generalize (Builtin.Str.occurrences x y 0 x.length (x.length + 1)).length = k at hs ⊢
    rw [hy] at hs
    have h1 : s * a ≤ s * c := Nat.mul_le_mul_left _ hac
    have h2 : k * z.length * a ≤ k * a * c := by
      rw [Nat.mul_assoc, Nat.mul_assoc, Nat.mul_comm z.length a]
      exact Nat.mul_le_mul_left _ (Nat.mul_le_mul_left _ hz)
    have h3 : (s + k * z.length) * a ≤ (s + k * a) * c := by
      rw [Nat.add_mul, Nat.add_mul]
      exact Nat.add_le_add h1 h2
    rw [hs] at h3
    exact h3
end Nm
namespace Nm
open PySem PySem.Spec PyProof.Rows L2
/-! ### texts: lengths, joins, what no name has -/
theorem join_len {y : Str} {b : Nat} : ∀ {parts : List Str}, (∀ p ∈ parts, p.length ≤ b) → (Txt.join y parts).length ≤ parts.length * (b + y.length)
  | [], _ => by rw [TL.join_eq]; exact Nat.zero_le _
  | [x], h => by
    have := h x List.mem_cons_self
    rw [TL.join_eq, List.length_singleton]
    show x.length ≤ _
    omega
  | x :: z :: r, h => by
    have h1 := h x List.mem_cons_self
    have ih := join_len (y := y) (parts := z :: r) fun p hp => h p (List.mem_cons_of_mem _ hp)
    rw [TL.join_eq] at ih ⊢
    have e : (Str.join y (x :: z :: r)).length = x.length + y.length + (Str.join y (z :: r)).length := by
      show (x ++ y ++ Str.join y (z :: r)).length = _
      rw [TL.len_tl, TL.tl_append, TL.tl_append, List.length_append, List.length_append, ← TL.len_tl, ← TL.len_tl, ← TL.len_tl]
    rw [e, List.length_cons, Nat.succ_mul]
    omega
theorem flat_congr {α β : Type} {f g : α → List β} : ∀ {l : List α}, (∀ x ∈ l, f x = g x) → l.flatMap f = l.flatMap g
  | [], _ => rfl
  | x :: r, h => by rw [List.flatMap_cons, List.flatMap_cons, h x List.mem_cons_self, flat_congr fun y hy => h y (List.mem_cons_of_mem _ hy)]
theorem sum_len {b : Nat} : ∀ {parts : List Str}, (∀ p ∈ parts, p.length ≤ b) → (parts.map (·.length)).sum ≤ parts.length * b
  | [], _ => Nat.zero_le _
  | x :: r, h => by
    have h1 := h x List.mem_cons_self
    have ih := sum_len (parts := r) fun p hp => h p (List.mem_cons_of_mem _ hp)
    rw [List.map_cons, List.sum_cons, List.length_cons, Nat.succ_mul]
    omega
theorem in_joinL {S : List Nat} {c : Nat} : ∀ {parts : List (List Nat)}, c ∈ TL.joinL S parts → c ∈ S ∨ ∃ p ∈ parts, c ∈ p
  | [], h => by cases h
  | [p], h => .inr ⟨p, List.mem_cons_self, h⟩
  | p :: q :: r, h => by
    rcases List.mem_append.mp (show c ∈ p ++ (S ++ TL.joinL S (q :: r)) from h) with h | h
    · exact .inr ⟨p, List.mem_cons_self, h⟩
    · rcases List.mem_append.mp h with h | h
      · exact .inl h
      · rcases in_joinL h with h | ⟨z, hz, h⟩
        · exact .inl h
        · exact .inr ⟨z, List.mem_cons_of_mem _ hz, h⟩
/-- what no name has -/
theorem name_no {x : Str} (h : isName x = true) {c : Nat} (hc : c < 48) : c ∉ TL.tl x := by
  intro hm
  have hm : c ∈ x.cps.toList := hm
  unfold isName at h
  split at h
  · cases h
  · rename_i d r hd
    rw [hd] at hm
    obtain ⟨_, h2⟩ := Bool.and_eq_true_iff.mp h
    have := List.all_eq_true.mp h2 c hm
    unfold sign at this
    simp only [Bool.or_eq_true, decide_eq_true_eq] at this
    omega
theorem name_len {x : Str} (h : isName x = true) : x.length ≤ 8 := by
  rw [len_cps]
  unfold isName at h
  split at h
  · cases h
  · rename_i c r hc
    rw [hc]
    exact of_decide_eq_true (Bool.and_eq_true_iff.mp (Bool.and_eq_true_iff.mp h).1).1
theorem needs_name : isName "needs" = true := by decide +kernel
theorem tl_sp : TL.tl (" " : Str) = [32] := by decide +kernel
theorem tl_nl : TL.tl ("\n" : Str) = [10] := by decide +kernel
end Nm
namespace Nm
open PySem PySem.Spec PyProof.Rows L2
local macro_rules | `(tactic| walk_at "s") => `(tactic| first
  | (guard_target =~ Ws _ _ _ _ _ _; first | with_reducible refine ws_seq ?_ | with_reducible refine ws_set ?_ | with_reducible refine ws_if ?_ | with_reducible refine ws_ret ?_ | with_reducible refine ws_asg ?_ | with_reducible refine ws_drop ?_ | with_reducible refine ws_next ?_ | with_reducible refine ws_for ?_ | with_reducible refine ws_brk ?_ | with_reducible refine ws_cont ?_ | with_reducible refine ws_retN ?_ | with_reducible refine ws_fld ?_)
  | (guard_target =~ Wa _ _ _ _ _ _ _; first | with_reducible refine wa_cons ?_ | with_reducible refine wa_nil ?_)
  | (guard_target =~ We _ _ _ _ _ _ _; first | (guard_target =~ We _ _ (tOp _ _ _) _ _ _ _; first | with_reducible refine we_op opS_add ?_ | with_reducible refine we_op opS_sub ?_ | with_reducible refine we_op opS_mul ?_ | with_reducible refine we_op opS_mod ?_ | with_reducible refine we_op opS_div ?_ | with_reducible refine we_op opS_ix ?_ | with_reducible refine we_op opS_eq ?_ | with_reducible refine we_op opS_ne ?_ | with_reducible refine we_op opS_lt ?_ | with_reducible refine we_op opS_le ?_ | with_reducible refine we_op opS_gt ?_ | with_reducible refine we_op opS_ge ?_ | with_reducible refine we_op opS_in ?_ | with_reducible refine we_op opS_notIn ?_ | with_reducible refine we_op opS_and ?_ | with_reducible refine we_op opS_or ?_ | with_reducible refine we_op opS_shr ?_ | with_reducible refine we_op opS_shl ?_ | with_reducible refine we_op opS_pow ?_ | with_reducible refine we_op opS_isN ?_ | with_reducible refine we_op opS_notN ?_ | with_reducible refine we_op opS_xor ?_) | (guard_target =~ We _ _ (tCB _ _) _ _ _ _; first | with_reducible refine we_cb cbS_len ?_ | with_reducible refine we_cb cbS_int ?_ | with_reducible refine we_cb cbS_bool ?_ | with_reducible refine we_cb cbS_max ?_ | with_reducible refine we_cb cbS_min ?_ | with_reducible refine we_cb cbS_isi ?_) | with_reducible refine we_var rfl ?_ | with_reducible refine we_int ?_ | with_reducible refine we_str ?_ | with_reducible refine we_bl ?_ | with_reducible refine we_non ?_ | with_reducible refine we_ty ?_ | with_reducible refine we_ref ?_ | with_reducible refine we_sl ?_ | with_reducible refine we_orT ?_ | with_reducible refine we_andT ?_ | with_reducible refine we_notT ?_ | with_reducible refine we_if ?_ | with_reducible refine we_tup ⟨?_, ?_⟩ | with_reducible refine we_tup ?_ | with_reducible refine we_fld ?_ | with_reducible refine we_call (dds := []) (fun _ => HasL.nil) ?_ | with_reducible refine we_call0 (dds := []) (fun _ => HasL.nil) ?_ | with_reducible refine we_meth (dds := []) (fun _ => HasL.nil) ?_ | with_reducible refine we_bm mS_append ?_ | with_reducible refine we_bm mS_extend ?_ | with_reducible refine we_bm0 mS_clear ?_ | with_reducible refine we_bm mS_indexS ?_ | with_reducible refine we_bm mS_join ?_ | with_reducible refine we_bm mS_split ?_ | with_reducible refine we_bm mS_part ?_ | with_reducible refine we_un unS_neg ?_ | with_reducible refine we_un unS_inv ?_)
  | (guard_target =~ Wt _ _ _ _ _ _ _; first | with_reducible refine wt_test ?_ | with_reducible refine wt_tr ?_ | with_reducible refine wt_not ?_ | with_reducible refine wt_and ?_ | with_reducible refine wt_or ?_ | with_reducible refine wt_val ?_ | with_reducible refine wt_yes ?_)
  | (guard_target =~ Wg _ _ _ _ _ _; first | with_reducible refine wg_name ?_)
  | (guard_target =~ Wgs _ _ _ _ _ _; first | with_reducible refine wgs_cons ?_ | with_reducible refine wgs_nil ?_)
  | (guard_target =~ Wi _ _ _ _ _ _ _; first | with_reducible refine wi_str ?_ | with_reducible refine wi_list ?_ | with_reducible refine wi_rngN ?_ | with_reducible refine wi_rng2 ?_)
  | (guard_target =~ Wo _ _ _ _ _ _ _; first | with_reducible refine wo_none ?_ | with_reducible refine wo_some ?_)
  | with_reducible refine dAdd_ii ?_
  | with_reducible refine dI_ii ?_
  | with_reducible refine dU_i ?_
  | with_reducible refine dEq_fi ?_
  | with_reducible refine dEq_ti ?_
  | with_reducible refine dEq_fs ?_
  | with_reducible refine dEq_ts ?_
  | with_reducible refine dEq_fb ?_
  | with_reducible refine dEq_tb ?_
  | with_reducible refine dEq_sn ?_
  | with_reducible refine dEq_ns ?_
  | with_reducible refine dEq_nn ?_
  | with_reducible refine dIn_fs ?_
  | with_reducible refine dIn_ts ?_
  | with_reducible refine dIn_fi ?_
  | with_reducible refine dIn_ti ?_
  | with_reducible refine dIn_tc ?_
  | with_reducible refine dIn_fc ?_
  | with_reducible refine dSl_l ?_
  | with_reducible refine dSl_q ?_
  | with_reducible refine dLen_l ?_
  | with_reducible refine dLen_q ?_
  | (guard_target =~ dLen [.ref _] _ _; with_reducible refine dLen_r (by first | exact um_same | assumption) ?_)
  | with_reducible refine ty_l ?_
  | with_reducible refine ty_s ?_
  | (guard_target =~ tyD _ "list" (.ref _) ∧ _; with_reducible refine ty_r (by first | exact um_same | assumption) ?_)
  | with_reducible refine dLen_t ?_
  | with_reducible refine dInt_i ?_
  | with_reducible refine dInt_b ?_
  | with_reducible refine dBool_i ?_
  | with_reducible refine dMax_ii ?_
  | with_reducible refine dMin_ii ?_
  | with_reducible refine dList_l ?_
  | with_reducible refine dIsN_s ?_
  | with_reducible refine dIsN_n ?_
  | with_reducible refine dIsN_i ?_
  | with_reducible refine bl_ex ?_
  | with_reducible refine tru_b ?_
  | with_reducible refine tru_i ?_
  | with_reducible refine tru_l ?_
  | with_reducible refine iteT ?_
  | with_reducible refine iteF ?_
  | with_reducible refine iteNT ?_
  | with_reducible refine iteNF ?_
  | with_reducible refine ⟨_, rfl, ?_⟩)
local macro_rules | `(tactic| walk_at "w") => `(tactic| repeat walk_at "s")

/-! ### World.__init__ -/
def pairD (p : Str × Str) : D := .tup [.str p.1, .str p.2]
abbrev pairsD (ps : List (Str × Str)) : List D := ps.map pairD
/-- the first fault among the things, seen those before: false: no name; true: taken -/
def chkT : List Str → List Str → Option (Bool × Str)
  | _, [] => none
  | seen, t :: r => if isName t = false then some (false, t) else if t ∈ seen then some (true, t) else chkT (seen ++ [t]) r
/-- the first stranger among the pairs -/
def chkN (names : List Str) : List (Str × Str) → Option Str
  | [] => none
  | p :: r => if p.1 ∉ names then some p.1 else if p.2 ∉ names then some p.2 else chkN names r
theorem chkT_cons (seen : List Str) (t : Str) (r : List Str) : chkT seen (t :: r) = if isName t = false then some (false, t) else if t ∈ seen then some (true, t) else chkT (seen ++ [t]) r := rfl
theorem chkN_cons (names : List Str) (p : Str × Str) (r : List (Str × Str)) : chkN names (p :: r) = if p.1 ∉ names then some p.1 else if p.2 ∉ names then some p.2 else chkN names r := rfl
/-- the direct needs that pairs tell, by places -/
def dirF (names : List Str) (ps : List (Str × Str)) (k j : Nat) : Bool := ps.any fun p => decide (p.1 ≠ p.2) && (decide (names[k]? = some p.1) && decide (names[j]? = some p.2))
abbrev nsW : List Str := ["order", "direct", "reach"]
/-- a world's fields: its things, where each directly needs which by f -/
def IsW (names : List Str) (f : Nat → Nat → Bool) (fs : List D) : Prop := ∃ dm rm : List Nat, fs = [.lst (strsD names), .lst (numsD dm), .lst (numsD rm)] ∧ dm.length = names.length ∧ rm.length = names.length ∧ Rows f dm ∧ Rows (Rm f names.length) rm
/-- how World(ts, ps) ends -/
def endW (K : PySem.W.Frag) (ts : List Str) (ps : List (Str × Str)) (X : Value → D → Prop) (Q : Prop) : Prop := match chkT [] ts with
  | some (false, t) => X (.ref (cA K "BadName")) (.str t)
  | some (true, t) => X (.ref (cA K "Taken")) (.str t)
  | none => match chkN ts ps with
    | some z => X (.ref (cA K "Unknown")) (.str z)
    | none => Q
def sd_World_init (K : PySem.W.Frag) : SpD := fun ds μ P X => ∃ (x : Addr) (td pd : D) (ts : List Str) (ps : List (Str × Str)), ds = [.ref x, td, pd] ∧ μ x = some (.ins (cW K) [] []) ∧ IsL μ td (strsD ts) ∧ IsL μ pd (pairsD ps) ∧
  ts.length ≤ 100000 ∧ (∀ t ∈ ts, t.length ≤ sizeLine) ∧ endW K ts ps (fun c s => X c s (dm μ x)) (∀ fs, IsW ts (dirF ts ps) fs → P .non (um μ x (.ins (cW K) nsW fs)))
theorem chkT_names : ∀ {seen rest : List Str}, chkT seen rest = none → seen.Nodup → (seen ++ rest).Nodup ∧ ∀ t ∈ rest, isName t = true
  | seen, [], _, h => ⟨by rw [List.append_nil]; exact h, fun t ht => by cases ht⟩
  | seen, t :: r, h, hn => by
    rw [chkT_cons] at h
    split at h
    · cases h
    · rename_i h1
      split at h
      · cases h
      · rename_i h2
        have hn2 : (seen ++ [t]).Nodup := by
          rw [List.nodup_append]
          refine ⟨hn, by simp, fun a ha b hb => ?_⟩
          have : b = t := by simpa using hb
          subst this
          intro e
          exact h2 (e ▸ ha)
        obtain ⟨a, b⟩ := chkT_names h hn2
        rw [List.append_assoc, List.singleton_append] at a
        refine ⟨a, fun z hz => ?_⟩
        rcases List.mem_cons.mp hz with q | q
        · subst q; simpa using h1
        · exact b z q
theorem idx_eq {l : List Str} (hn : l.Nodup) {k : Nat} {t : Str} (ht : t ∈ l) : (l[k]? = some t) ↔ k = l.idxOf t := by
  obtain ⟨h1, h2⟩ := idxOf_first ht
  constructor
  · intro h
    rcases Nat.lt_trichotomy k (l.idxOf t) with q | q | q
    · exact absurd h (h2 k q)
    · exact q
    · have l1 : k < l.length := by
        rcases Nat.lt_or_ge k l.length with z | z
        · exact z
        · rw [List.getElem?_eq_none z] at h; cases h
      exact absurd (h1.trans h.symm) (by
        intro e
        have l2 : l.idxOf t < l.length := by omega
        rw [List.getElem?_eq_getElem l2, List.getElem?_eq_getElem l1] at e
        exact List.pairwise_iff_getElem.mp hn _ _ l2 l1 q (Option.some.inj e))
  · intro h
    rw [h]; exact h1
theorem dirF_app {names : List Str} (ps : List (Str × Str)) (p : Str × Str) (k j : Nat) : dirF names (ps ++ [p]) k j = (dirF names ps k j || (decide (p.1 ≠ p.2) && (decide (names[k]? = some p.1) && decide (names[j]? = some p.2)))) := by
  unfold dirF
  rw [List.any_append]
  simp
end Nm
namespace Nm
open PySem PySem.Spec PyProof.Rows L2
/-! ### when a world is made -/
theorem strs_at {ts : List Str} {i : Nat} {e : D} (hi : (strsD ts)[i]? = some e) : ∃ t, ts[i]? = some t ∧ e = .str t := by
  rw [List.getElem?_map] at hi
  cases h : ts[i]? with
  | none => rw [h] at hi; cases hi
  | some t => rw [h] at hi; exact ⟨t, rfl, (Option.some.inj hi).symm⟩
theorem cut_strs (ts : List Str) (k : Nat) : cutD (strsD ts) none (some (k : Int)) = strsD (ts.take k) := by rw [cutD_to]; exact List.map_take.symm
theorem cut_strs' (ts : List Str) (k : Nat) : cutD (strsD ts) (some (k : Int)) none = strsD (ts.drop k) := by rw [cutD_from]; exact List.map_drop.symm
theorem drop_at {α : Type} {l : List α} {i : Nat} {x : α} (h : l[i]? = some x) : l.drop i = x :: l.drop (i + 1) := by
  obtain ⟨hl, e⟩ := List.getElem?_eq_some_iff.mp h
  rw [List.drop_eq_getElem_cons hl, e]
theorem pairs_get {ps : List (Str × Str)} {i : Nat} {d : D} (h : (pairsD ps)[i]? = some d) : ∃ p, ps[i]? = some p ∧ d = pairD p := by
  rw [List.getElem?_map] at h
  cases q : ps[i]? with
  | none => rw [q] at h; cases h
  | some t => rw [q] at h; exact ⟨t, rfl, (Option.some.inj h).symm⟩
theorem chkT_none : ∀ {seen rest : List Str}, (seen ++ rest).Nodup → (∀ t ∈ rest, isName t = true) → chkT seen rest = none
  | seen, [], _, _ => rfl
  | seen, t :: r, hn, hi => by
    rw [chkT_cons, if_neg (by rw [hi t List.mem_cons_self]; decide), if_neg, chkT_none (by rw [List.append_assoc]; exact hn) fun x hx => hi x (List.mem_cons_of_mem _ hx)]
    intro h
    exact (List.nodup_append.mp hn).2.2 t h t List.mem_cons_self rfl
theorem chkN_none {names : List Str} : ∀ {ps : List (Str × Str)}, (∀ p ∈ ps, p.1 ∈ names ∧ p.2 ∈ names) → chkN names ps = none
  | [], _ => rfl
  | p :: r, h => by
    obtain ⟨h1, h2⟩ := h p List.mem_cons_self
    rw [chkN_cons, if_neg (not_not_intro h1), if_neg (not_not_intro h2), chkN_none fun q hq => h q (List.mem_cons_of_mem _ hq)]
theorem endW_none {K : PySem.W.Frag} {ts : List Str} {ps : List (Str × Str)} {X : Value → D → Prop} {Q : Prop} (h1 : chkT [] ts = none) (h2 : chkN ts ps = none) (q : Q) : endW K ts ps X Q := by
  unfold endW
  rw [h1]
  show (match chkN ts ps with | some z => X (.ref (cA K "Unknown")) (.str z) | none => Q)
  rw [h2]
  exact q
theorem pl_strs {ts : List Str} (h : ∀ t ∈ ts, PyData.strOk t = true) : Pl 8 (.lst (strsD ts)) := by
  intro d hd
  obtain ⟨t, ht, rfl⟩ := List.mem_map.mp hd
  exact h t ht
theorem pl_pairs {ps : List (Str × Str)} (h : ∀ p ∈ ps, PyData.strOk p.1 = true ∧ PyData.strOk p.2 = true) : Pl 8 (.lst (pairsD ps)) := by
  intro d hd
  obtain ⟨p, hp, rfl⟩ := List.mem_map.mp hd
  intro e he
  rcases List.mem_cons.mp he with rfl | he
  · exact (h p hp).1
  · rw [List.mem_singleton.mp he]; exact (h p hp).2
theorem dEq_trr {a b : Addr} {x y : List D} {μ : Mu} {P : PD} (hz1 : μ a = some (.lst x)) (hz2 : μ b = some (.lst y)) (h1 : Pl 8 (.lst x)) (h2 : Pl 8 (.lst y)) (h : P (.bl (!deqL x y)) μ) : dEq true (.ref a) (.ref b) μ P := ⟨x, hz1, h1, y, hz2, h2, (by show P (.bl (true ^^ deqL x y)) μ; rw [Bool.true_xor]; exact h)⟩
theorem deqL_same {x : List D} (h : Pl 8 (.lst x)) : deqL x x = true := (deq_lst x x).symm.trans (deq_refl h)
theorem no_empty {x : Str} (h : isName x = true) : x ≠ "" := by
  rintro rfl
  exact absurd h (by decide +kernel)
theorem not_in_take {names : List Str} (hn : names.Nodup) {n k : Nat} {x : Str} (hx : names[k]? = some x) (h : n ≤ k) : x ∉ names.take n := by
  intro hm
  obtain ⟨j, hj⟩ := List.getElem?_of_mem hm
  have hj2 : j < n := by
    have := (List.getElem?_eq_some_iff.mp hj).1
    rw [List.length_take] at this
    omega
  rw [List.getElem?_take_of_lt hj2] at hj
  have m1 : x ∈ names := List.mem_of_getElem? hx
  have := (idx_eq hn m1).mp hx
  have := (idx_eq hn m1).mp hj
  omega
theorem SubM.um' {μ μ' : Mu} {a : Addr} {c : C} (h : SubM μ μ') (ha : μ a = none) : SubM μ (Nm.um μ' a c) := fun b c' e => by
  have : b ≠ a := fun z => by subst z; rw [ha] at e; cases e
  rw [um_ne this]
  exact h b c' e
theorem sub_none {μ μ' : Mu} (h : SubM μ μ') {p : Addr} (hp : μ' p = none) : μ p = none := by
  cases q : μ p with
  | none => rfl
  | some c => rw [h p c q] at hp; cases hp
theorem getD_at {l : List Str} {k : Nat} {d : Str} (h : k < l.length) : l[k]? = some (l.getD k d) := by
  rw [List.getD_eq_getElem?_getD, List.getElem?_eq_getElem h]; rfl
theorem getD_mem {l : List Str} {k : Nat} {d : Str} (h : k < l.length) : l.getD k d ∈ l := List.mem_of_getElem? (getD_at h)
theorem idx_getD {l : List Str} {k : Nat} {d : Str} (hn : l.Nodup) (h : k < l.length) : l.idxOf (l.getD k d) = k := ((idx_eq hn (getD_mem h)).mp (getD_at h)).symm
end Nm
namespace Nm
open PySem PySem.Spec PyProof.Rows L2
theorem ob_get {μ : Mu} {d : D} {A : Addr → Addr → List Str → List D → Prop} (h : ob μ d A) : ∃ a k ns fs, A a k ns fs ∧ ∀ B : Addr → Addr → List Str → List D → Prop, B a k ns fs → ob μ d B := by
  unfold ob at h
  split at h
  · exact ⟨_, _, _, _, h, fun B b => b⟩
  · obtain ⟨k, ns, ds, hz, h⟩ := h
    exact ⟨_, _, _, _, h, fun B b => ⟨k, ns, ds, hz, b⟩⟩
  · exact h.elim
/-- d is a world of these things, f its direct needs -/
def WD (K : PySem.W.Frag) (μ : Mu) (d : D) (names : List Str) (f : Nat → Nat → Bool) : Prop := ob μ d fun _ k ns fs => k = cW K ∧ ns = nsW ∧ IsW names f fs
theorem pickP_map {α β : Type} (g : α → β) (p : Nat → Bool) : ∀ (i : Nat) (l : List α), pickP p i (l.map g) = (pickP p i l).map g
  | i, [] => rfl
  | i, x :: r => by
    show (if p i then g x :: pickP p (i + 1) (r.map g) else pickP p (i + 1) (r.map g)) = (if p i then x :: pickP p (i + 1) r else pickP p (i + 1) r).map g
    rw [pickP_map g p (i + 1) r]
    split <;> rfl
theorem pickP_congr {α : Type} {p q : Nat → Bool} : ∀ {i : Nat} {l : List α}, (∀ j, i ≤ j → j < i + l.length → p j = q j) → pickP p i l = pickP q i l
  | i, [], _ => rfl
  | i, x :: r, h => by
    show (if p i then x :: pickP p (i + 1) r else pickP p (i + 1) r) = (if q i then x :: pickP q (i + 1) r else pickP q (i + 1) r)
    rw [h i (Nat.le_refl _) (by rw [List.length_cons]; omega), pickP_congr (i := i + 1) (l := r) fun j h1 h2 => h j (by omega) (by rw [List.length_cons]; omega)]
end Nm
namespace Nm
open PySem PySem.Spec PyProof.Rows L2
/-! ### a law's objects: the counter at a, and what is no longer looked at -/
structure Sta (μ : Mu) (a : Addr) (μ' : Mu) : Prop where
  sub : SubM μ μ'
  at_ : ∃ n : Int, μ' a = some (.lst [.int n])
theorem Sta.first {μ : Mu} {a : Addr} {n : Int} (h : μ a = none) : Sta μ a (um μ a (.lst [.int n])) := ⟨SubM.um h, n, um_same⟩
theorem Sta.new {μ μ' : Mu} {a p : Addr} {c : C} (h : Sta μ a μ') (hp : μ' p = none) : Sta μ a (um μ' p c) := by
  obtain ⟨n, hn⟩ := h.at_
  exact ⟨h.sub.trans (SubM.um hp), n, by rw [um_ne (mu_ne hn hp)]; exact hn⟩
theorem Sta.ne {μ μ' : Mu} {a p : Addr} (h : Sta μ a μ') (hp : μ' p = none) : a ≠ p := by
  obtain ⟨n, hn⟩ := h.at_
  exact mu_ne hn hp
theorem Sta.old {μ μ' : Mu} {a p : Addr} (h : Sta μ a μ') (hp : μ' p = none) : μ p = none := sub_none h.sub hp
theorem Sta.take {μ μ' : Mu} {a : Addr} {n : Int} (h : Sta μ a μ') (ha : μ a = none) : Sta μ a (um μ' a (.lst [.int n])) := ⟨h.sub.um' ha, n, um_same⟩
theorem Sta.wr {μ μ' : Mu} {a p : Addr} {c : C} (h : Sta μ a μ') (hp : μ p = none) (ap : a ≠ p) : Sta μ a (um μ' p c) := by
  obtain ⟨n, hn⟩ := h.at_
  exact ⟨h.sub.um' hp, n, by rw [um_ne ap]; exact hn⟩
end Nm
namespace Nm
open PySem PySem.Spec PyProof.Rows L2
local macro_rules | `(tactic| walk_at "s") => `(tactic| first
  | (guard_target =~ Ws _ _ _ _ _ _; first | with_reducible refine ws_seq ?_ | with_reducible refine ws_set ?_ | with_reducible refine ws_if ?_ | with_reducible refine ws_ret ?_ | with_reducible refine ws_asg ?_ | with_reducible refine ws_drop ?_ | with_reducible refine ws_next ?_ | with_reducible refine ws_for ?_ | with_reducible refine ws_brk ?_ | with_reducible refine ws_cont ?_ | with_reducible refine ws_retN ?_ | with_reducible refine ws_fld ?_)
  | (guard_target =~ Wa _ _ _ _ _ _ _; first | with_reducible refine wa_cons ?_ | with_reducible refine wa_nil ?_)
  | (guard_target =~ We _ _ _ _ _ _ _; first | (guard_target =~ We _ _ (tOp _ _ _) _ _ _ _; first | with_reducible refine we_op opS_add ?_ | with_reducible refine we_op opS_sub ?_ | with_reducible refine we_op opS_mul ?_ | with_reducible refine we_op opS_mod ?_ | with_reducible refine we_op opS_div ?_ | with_reducible refine we_op opS_ix ?_ | with_reducible refine we_op opS_eq ?_ | with_reducible refine we_op opS_ne ?_ | with_reducible refine we_op opS_lt ?_ | with_reducible refine we_op opS_le ?_ | with_reducible refine we_op opS_gt ?_ | with_reducible refine we_op opS_ge ?_ | with_reducible refine we_op opS_in ?_ | with_reducible refine we_op opS_notIn ?_ | with_reducible refine we_op opS_and ?_ | with_reducible refine we_op opS_or ?_ | with_reducible refine we_op opS_shr ?_ | with_reducible refine we_op opS_shl ?_ | with_reducible refine we_op opS_pow ?_ | with_reducible refine we_op opS_isN ?_ | with_reducible refine we_op opS_notN ?_ | with_reducible refine we_op opS_xor ?_) | (guard_target =~ We _ _ (tCB _ _) _ _ _ _; first | with_reducible refine we_cb cbS_len ?_ | with_reducible refine we_cb cbS_int ?_ | with_reducible refine we_cb cbS_bool ?_ | with_reducible refine we_cb cbS_max ?_ | with_reducible refine we_cb cbS_min ?_ | with_reducible refine we_cb cbS_isi ?_) | with_reducible refine we_var rfl ?_ | with_reducible refine we_int ?_ | with_reducible refine we_str ?_ | with_reducible refine we_bl ?_ | with_reducible refine we_non ?_ | with_reducible refine we_ty ?_ | with_reducible refine we_ref ?_ | with_reducible refine we_sl ?_ | with_reducible refine we_orT ?_ | with_reducible refine we_andT ?_ | with_reducible refine we_notT ?_ | with_reducible refine we_if ?_ | with_reducible refine we_tup ⟨?_, ?_⟩ | with_reducible refine we_tup ?_ | with_reducible refine we_fld ?_ | with_reducible refine we_call (dds := []) (fun _ => HasL.nil) ?_ | with_reducible refine we_call0 (dds := []) (fun _ => HasL.nil) ?_ | with_reducible refine we_meth (dds := []) (fun _ => HasL.nil) ?_ | with_reducible refine we_bm mS_append ?_ | with_reducible refine we_bm mS_extend ?_ | with_reducible refine we_bm0 mS_clear ?_ | with_reducible refine we_bm mS_indexS ?_ | with_reducible refine we_bm mS_join ?_ | with_reducible refine we_bm mS_split ?_ | with_reducible refine we_bm mS_part ?_ | with_reducible refine we_un unS_neg ?_ | with_reducible refine we_un unS_inv ?_)
  | (guard_target =~ Wt _ _ _ _ _ _ _; first | with_reducible refine wt_test ?_ | with_reducible refine wt_tr ?_ | with_reducible refine wt_not ?_ | with_reducible refine wt_and ?_ | with_reducible refine wt_or ?_ | with_reducible refine wt_val ?_ | with_reducible refine wt_yes ?_)
  | (guard_target =~ Wg _ _ _ _ _ _; first | with_reducible refine wg_name ?_)
  | (guard_target =~ Wgs _ _ _ _ _ _; first | with_reducible refine wgs_cons ?_ | with_reducible refine wgs_nil ?_)
  | (guard_target =~ Wi _ _ _ _ _ _ _; first | with_reducible refine wi_str ?_ | with_reducible refine wi_list ?_ | with_reducible refine wi_rngN ?_ | with_reducible refine wi_rng2 ?_)
  | (guard_target =~ Wo _ _ _ _ _ _ _; first | with_reducible refine wo_none ?_ | with_reducible refine wo_some ?_)
  | with_reducible refine dAdd_ii ?_
  | with_reducible refine dI_ii ?_
  | with_reducible refine dU_i ?_
  | with_reducible refine dEq_fi ?_
  | with_reducible refine dEq_ti ?_
  | with_reducible refine dEq_fs ?_
  | with_reducible refine dEq_ts ?_
  | with_reducible refine dEq_fb ?_
  | with_reducible refine dEq_tb ?_
  | with_reducible refine dEq_sn ?_
  | with_reducible refine dEq_ns ?_
  | with_reducible refine dEq_nn ?_
  | with_reducible refine dIn_fs ?_
  | with_reducible refine dIn_ts ?_
  | with_reducible refine dIn_fi ?_
  | with_reducible refine dIn_ti ?_
  | with_reducible refine dIn_tc ?_
  | with_reducible refine dIn_fc ?_
  | with_reducible refine dSl_l ?_
  | with_reducible refine dSl_q ?_
  | with_reducible refine dLen_l ?_
  | with_reducible refine dLen_q ?_
  | (guard_target =~ dLen [.ref _] _ _; with_reducible refine dLen_r (by first | exact um_same | assumption) ?_)
  | with_reducible refine ty_l ?_
  | with_reducible refine ty_s ?_
  | (guard_target =~ tyD _ "list" (.ref _) ∧ _; with_reducible refine ty_r (by first | exact um_same | assumption) ?_)
  | with_reducible refine dLen_t ?_
  | with_reducible refine dInt_i ?_
  | with_reducible refine dInt_b ?_
  | with_reducible refine dBool_i ?_
  | with_reducible refine dMax_ii ?_
  | with_reducible refine dMin_ii ?_
  | with_reducible refine dList_l ?_
  | with_reducible refine dIsN_s ?_
  | with_reducible refine dIsN_n ?_
  | with_reducible refine dIsN_i ?_
  | with_reducible refine bl_ex ?_
  | with_reducible refine tru_b ?_
  | with_reducible refine tru_i ?_
  | with_reducible refine tru_l ?_
  | with_reducible refine iteT ?_
  | with_reducible refine iteF ?_
  | with_reducible refine iteNT ?_
  | with_reducible refine iteNF ?_
  | with_reducible refine ⟨_, rfl, ?_⟩)
local macro_rules | `(tactic| walk_at "w") => `(tactic| repeat walk_at "s")

/-! ### _law_names -/
theorem lens5' {r : Int} (h0 : 0 ≤ r) (h1 : r < 5) : ∃ n : Nat, n ≤ 5 ∧ n ≠ 3 ∧ atI [Nm.D.int 0, .int 1, .int 2, .int 4, .int 5] r = some (.int (n : Int)) := by
  obtain rfl | rfl | rfl | rfl | rfl : r = 0 ∨ r = 1 ∨ r = 2 ∨ r = 3 ∨ r = 4 := by omega
  · exact ⟨0, by decide, by decide, rfl⟩
  · exact ⟨1, by decide, by decide, rfl⟩
  · exact ⟨2, by decide, by decide, rfl⟩
  · exact ⟨4, by decide, by decide, rfl⟩
  · exact ⟨5, by decide, by decide, rfl⟩
/-- .. none of them is none -/
def sd_namesS (cap : Nat) : SpD := fun ds μ P _ => ∃ (zs : List Int) (a : Addr) (n : Int) (m : Nat), ds = [.lst (intsD zs), .ref a, .int (m : Int)] ∧ zs ≠ [] ∧ μ a = some (.lst [.int n]) ∧ m ≤ cap ∧
  ∀ (names : List Str) (n' : Int), names.length = m → names.Nodup → (∀ x ∈ names, isName x = true) → ("none" : Str) ∉ names → P (.lst (strsD names)) (um μ a (.lst [.int n']))
abbrev N_law_names : List Str := ["_law_pool_here", "_law_at", "_law_many", "_law_letters", "_law_stem", "_law_k", "_law_spot", "_law_first", "_law_longer", "_law_names_here", "_law_name"]
theorem sc_law_names : FnScope N_law_names ["_law_pool_here", "_law_at", "_law_many"] (defScope s_law_names) := ⟨rfl, rfl, rfl, by decide +kernel, rfl, by decide +kernel, by decide +kernel⟩
abbrev D_law_names (K : PySem.W.Frag) (mg : Str → Option Value) : Prop := DF K mg "_law_names" s_law_names
theorem gf_law_names {P : Program} {w : World} {K : PySem.W.Frag} {mg : Str → Option Value} {base : Heap} {k : Nat} {sp : Sp} (D : D_law_names K mg) (h : ∀ {f : Addr} {fd : FuncData}, FunD K "_law_names" "_law_names" (defArgs s_law_names) (defBody s_law_names) (defScope s_law_names) [] [] f fd → FnOk P w K mg base (L2.CX P w) k f fd ["_law_pool_here", "_law_at", "_law_many"] sp) : GF P w K mg base "_law_names" k ["_law_pool_here", "_law_at", "_law_many"] sp := by
  obtain ⟨f, fd, h1, h2⟩ := D.ex
  exact ⟨f, fd, h1, h2.kp, FunD.bindsN h2 fun _ _ _ _ _ _ us hl => match us, hl with | [_, _, _], _ => rfl, h h2⟩

def tlA (lg : Int) (i : Nat) : List Nat := (("xx" : Str).cps.toList).take ((i % 3) * (if lg = 1 then 1 else 0))
theorem tlA_ok (lg : Int) (i : Nat) : (tlA lg i).length ≤ 2 ∧ ∀ c ∈ tlA lg i, sign c = true := by
  have e : ("xx" : Str).cps.toList = [120, 120] := by decide +kernel
  unfold tlA
  rw [e]
  refine ⟨List.length_take_le' _ _, fun c hc => ?_⟩
  have := List.mem_of_mem_take hc
  have : c = 120 := by simpa using this
  rw [this]
  decide
theorem nm_none {st : List Nat} {sp f : Nat} {lg : Int} {k : Nat} (h3 : st.length ≠ 3) (hs : sp ≤ st.length) : nmL st sp f (tlA lg k) k ≠ [110, 111, 110, 101] := by
  intro e
  have e2 : ("xx" : Str).cps.toList = [120, 120] := by decide +kernel
  have hl := nmL_len (st := st) (sp := sp) (f := f) (t := tlA lg k) (i := k) hs
  rw [e] at hl
  have hl : 4 = st.length + 1 + (tlA lg k).length := hl
  have ht := (tlA_ok lg k).1
  have hm : ∀ c ∈ tlA lg k, c = 120 := fun c hc => by
    unfold tlA at hc
    rw [e2] at hc
    have := List.mem_of_mem_take hc
    simpa using this
  rcases Nat.eq_zero_or_pos (tlA lg k).length with q | q
  · omega
  · have hne : tlA lg k ≠ [] := fun z => by rw [z] at q; cases q
    have hg : (nmL st sp f (tlA lg k) k).getLast? = (tlA lg k).getLast? := by
      unfold nmL
      rw [List.getLast?_append]
      cases hq : (tlA lg k).getLast? with
      | none => exact absurd (List.getLast?_eq_none_iff.mp hq) hne
      | some x => rfl
    rw [e] at hg
    have hg : some 101 = (tlA lg k).getLast? := hg
    have := hm 101 (List.mem_of_getLast? hg.symm)
    omega
section
variable {P : Program} {w : World} {K : PySem.W.Frag} {mg : Str → Option Value} {base : Heap}
theorem ok_namesS (D : D_law_names K mg) (Z : Zs mg) (G_law_take : GF P w K mg base "_law_take" 1 ["_law_pool_here", "_law_at", "_law_many"] (toSp K sd_take)) : GF P w K mg base "_law_names" 2 ["_law_pool_here", "_law_at", "_law_many"] (toSp K (sd_namesS 26)) := by
  refine gf_law_names D fun F => fun_ok F sc_law_names (fun ds μ P X h => ?_) fun cdv A outer s H E hr => ⟨_, (pss_cons (ps_set (i := 3) sc_law_names.nd rfl (by first | exact Or.inl rfl | exact Or.inr rfl) pe_str)
    (pss_cons (ps_set (i := 4) sc_law_names.nd rfl (by first | exact Or.inl rfl | exact Or.inr rfl) pe_str)
    (pss_cons (ps_for po_def rfl (pi_range1 (by rfl) Z.z_range (pa_cons (pe_ix (ix_seqK (K := K) rfl) (pe_lst (pa_cons pe_int (pa_cons pe_int (pa_cons pe_int (pa_cons pe_int (pa_cons pe_int pa_nil)))))) (pe_gf G_law_take (hr.mono (by decide)) tk_def (pa_cons (pv 0) (pa_cons (pv 1) (pa_cons pe_int pa_nil)))) (fun _ _ => rfl)) pa_nil)) (pg_name (i := 5) sc_law_names.nd rfl (by first | exact Or.inl rfl | exact Or.inr rfl))
      (pss_one (ps_set (i := 4) sc_law_names.nd rfl (by first | exact Or.inl rfl | exact Or.inr rfl) (pe_op op_addU (pv 4) (pe_ix (ix_seqK (K := K) rfl) (pe_op op_addU (pv 3) pe_str) (pe_gf G_law_take (hr.mono (by decide)) tk_def (pa_cons (pv 0) (pa_cons (pv 1) (pa_cons (pe_op op_sub pe_int (pe_op op_mul pe_int (pe_callTy call_intU (by rfl) Z.z_int (by decide +kernel) (pa_cons (pe_cmpR (op_eqK (K := K) rfl hr.units) (pv 5) pe_int (nomark _)) pa_nil)))) pa_nil)))) (fun _ _ => rfl))))))
    (pss_cons (ps_set (i := 6) sc_law_names.nd rfl (by first | exact Or.inl rfl | exact Or.inr rfl) (pe_gf G_law_take (hr.mono (by decide)) tk_def (pa_cons (pv 0) (pa_cons (pv 1) (pa_cons (pe_op op_addU (pe_callB (call_lenK (K := K) rfl) (by rfl) Z.z_len (by decide +kernel) (pa_cons (pv 4) pa_nil)) pe_int) pa_nil)))))
    (pss_cons (ps_set (i := 7) sc_law_names.nd rfl (by first | exact Or.inl rfl | exact Or.inr rfl) (pe_gf G_law_take (hr.mono (by decide)) tk_def (pa_cons (pv 0) (pa_cons (pv 1) (pa_cons pe_int pa_nil)))))
    (pss_cons (ps_set (i := 8) sc_law_names.nd rfl (by first | exact Or.inl rfl | exact Or.inr rfl) (pe_gf G_law_take (hr.mono (by decide)) tk_def (pa_cons (pv 0) (pa_cons (pv 1) (pa_cons pe_int pa_nil)))))
    (pss_cons (ps_set (i := 9) sc_law_names.nd rfl (by first | exact Or.inl rfl | exact Or.inr rfl) (pe_lst pa_nil))
    (pss_cons (ps_for po_def rfl (pi_range1 (by rfl) Z.z_range (pa_cons (pv 2) pa_nil)) (pg_name (i := 5) sc_law_names.nd rfl (by first | exact Or.inl rfl | exact Or.inr rfl))
      (pss_cons (ps_set (i := 10) sc_law_names.nd rfl (by first | exact Or.inl rfl | exact Or.inr rfl) (pe_op op_addU (pe_op op_addU (pe_slice (sl_uK (K := K) rfl) (pv 4) po_none (po_some (pv 6))) (pe_ix (ix_seqK (K := K) rfl) (pv 3) (pe_op op_mod (pe_callTy call_intU (by rfl) Z.z_int (by decide +kernel) (pa_cons (pe_op op_addU (pv 7) (pe_op op_mul pe_int (pv 5))) pa_nil)) pe_int) (fun _ _ => rfl))) (pe_slice (sl_uK (K := K) rfl) (pv 4) (po_some (pv 6)) po_none)))
        (pss_one (ps_expr (pe_bmK (K := K) rfl PySem.F.plainAttrs_list PySem.F.slot_list_append PySem.F.type_list_append mt_append (pv 9) (pa_cons (pe_op op_addU (pv 10) (pe_slice (sl_uK (K := K) rfl) pe_str po_none (po_some (pe_op op_mul (pe_op op_mod (pe_callTy call_intU (by rfl) Z.z_int (by decide +kernel) (pa_cons (pv 5) pa_nil)) pe_int) (pe_callTy call_intU (by rfl) Z.z_int (by decide +kernel) (pa_cons (pe_cmpR (op_eqK (K := K) rfl hr.units) (pv 8) pe_int (nomark _)) pa_nil)))))) pa_nil))))))
    (pss_one (ps_ret (pv 9))))))))))), fun ds μ Pd X h => ?_⟩
  · obtain ⟨zs, a, n, m, rfl, _⟩ := h; rfl
  · obtain ⟨zs, a, n, m, rfl, hz, ha, hm, hp⟩ := h
    show Ws K (wOf E) _ [some (.lst (intsD zs)), some (.ref a), some (.int (m : Int)), none, none, none, none, none, none, none, none] μ _
    have sl : ∀ n, n ≤ 100000 → n ≤ sizeLine := fun n h => Nat.le_of_lt (szl n h)
    walk_at "w"
    refine we_lst ?_
    walk_at "w"
    refine ⟨sl _ (by decide), ?_⟩
    walk_at "w"
    refine ⟨zs, a, n, 5, rfl, hz, by decide, ha, fun r n1 h0 h1 => ?_⟩
    obtain ⟨n5, hn5, hn53, e5⟩ := lens5' h0 h1
    refine dIx_l e5 ?_
    walk_at "w"
    refine ⟨by omega, ?_⟩
    refine ⟨fun i Γ' μ' => (∃ st g, Γ' = [some (.lst (intsD zs)), some (.ref a), some (.int (m : Int)), some (.str tLETTERS), some (.str st), g, none, none, none, none, none] ∧ st.cps.toList.length = i ∧ (∀ c ∈ st.cps.toList, sign c = true) ∧ ∀ c, st.cps.toList[0]? = some c → letter c = true) ∧ ∃ n', μ' = um μ a (.lst [.int n']), ⟨⟨"", none, rfl, rfl, fun c hc => (by cases hc), fun c hc => (by cases hc)⟩, n1, rfl⟩, ?_, ?_⟩
    · rintro i d Γ' μ' hi ⟨⟨st, g, rfl, hst, hs, hl⟩, n', rfl⟩
      obtain ⟨hi1, rfl⟩ := rng0_get hi
      have hi1 : i < n5 := hi1
      have lst : st.length = i := by rw [len_cps]; exact hst
      walk_at "w"
      refine dAdd_ss (sl _ (by decide +kernel)) ?_
      walk_at "w"
      refine dIC_ii (cmulL (by decide) (by decide)) ?_
      walk_at "w"
      refine ⟨zs, a, n', _, rfl, hz, by split <;> omega, um_same, fun r n2 h0 h1 => ?_⟩
      obtain ⟨j, rfl⟩ := Int.eq_ofNat_of_zero_le h0
      have hj : j < 36 ∧ (i = 0 → j < 26) := by
        by_cases q : i = 0
        · subst q
          simp at h1
          omega
        · rw [if_neg (by simpa using q)] at h1
          omega
      obtain ⟨c, hc, hcs, hcl⟩ := ls_at j hj.1
      refine dIx_s (c := c) (sl _ (by decide +kernel)) (atI_nat hc) ?_
      refine dAdd_ss (sl _ (by rw [lst]; show i + 1 ≤ _; omega)) ?_
      rw [um_um]
      have ec : (st ++ (⟨#[c]⟩ : Str)).cps.toList = st.cps.toList ++ [c] := str_app _ _
      refine Fo.of ⟨⟨_, _, rfl, ?_, ?_, ?_⟩, _, rfl⟩
      · rw [ec, List.length_append, hst]; rfl
      · intro x hx
        rw [ec] at hx
        rcases List.mem_append.mp hx with hx | hx
        · exact hs x hx
        · rw [List.mem_singleton.mp hx]; exact hcs
      · intro x hx
        rw [ec] at hx
        by_cases q : i = 0
        · have e0 : st.cps.toList = [] := List.length_eq_zero_iff.mp (hst.trans q)
          rw [e0] at hx
          have := Option.some.inj hx
          subst this
          exact hcl (hj.2 q)
        · rw [List.getElem?_append_left (by omega)] at hx
          exact hl x hx
    · rintro Γ' μ' ⟨⟨st, g, rfl, hst, hs, hl⟩, n', rfl⟩
      have hst : st.cps.toList.length = n5 := by rw [rng0_length] at hst; exact hst
      have lst : st.length = n5 := by rw [len_cps]; exact hst
      walk_at "w"
      refine dLen_s (sl _ (by omega)) ?_
      walk_at "w"
      refine ⟨zs, a, n', _, rfl, hz, by omega, um_same, fun r n2 h0 h1 => ?_⟩
      obtain ⟨sp, rfl⟩ := Int.eq_ofNat_of_zero_le h0
      rw [um_um]
      walk_at "w"
      refine ⟨zs, a, n2, _, rfl, hz, by decide, um_same, fun r n3 h2 h3 => ?_⟩
      obtain ⟨f, rfl⟩ := Int.eq_ofNat_of_zero_le h2
      rw [um_um]
      walk_at "w"
      refine ⟨zs, a, n3, _, rfl, hz, by decide, um_same, fun lg n4 h4 h5 => ?_⟩
      rw [um_um]
      walk_at "w"
      refine we_lstM ?_
      walk_at "w"
      refine ⟨Nat.zero_le _, fun l hl0 => ?_⟩
      walk_at "w"
      refine ⟨by omega, ?_⟩
      have al : a ≠ l := mu_ne um_same hl0
      refine ⟨fun i Γ' μ' => (∃ g1 g2, Γ' = [some (.lst (intsD zs)), some (.ref a), some (.int (m : Int)), some (.str tLETTERS), some (.str st), g1, some (.int (sp : Int)), some (.int (f : Int)), some (.int lg), some (.ref l), g2]) ∧
        ∃ xs : List Str, μ' = um (um μ a (.lst [.int n4])) l (.lst (strsD xs)) ∧ xs.length = i ∧ ∀ k y, xs[k]? = some y → y.cps.toList = nmL st.cps.toList sp f (tlA lg k) k, ⟨⟨_, _, rfl⟩, [], rfl, rfl, fun k y h => (by cases h)⟩, ?_, ?_⟩
      · rintro i d Γ' μ' hi ⟨⟨g1, g2, rfl⟩, xs, rfl, hx, hxn⟩
        obtain ⟨hi1, rfl⟩ := rng0_get hi
        have hi1 : i < m := hi1
        walk_at "w"
        refine dSl_s (sl _ (by omega)) ?_
        walk_at "w"
        refine dIC_ii (cmulL (by decide) (by decide)) ?_
        walk_at "w"
        refine dIC_ii (by decide) ?_
        have ej : ((f : Int) + 7 * (i : Int)) % 26 = (((f + 7 * i) % 26 : Nat) : Int) := by omega
        rw [ej]
        refine dIx_s (c := 97 + (f + 7 * i) % 26) (sl _ (by decide +kernel)) (atI_nat (let_at (Nat.mod_lt _ (by decide)))) ?_
        have l1 : (cutS st none (some (sp : Int))).length ≤ 5 := by rw [len_cps, cutS_to, List.length_take]; omega
        have l2 : (cutS st (some (sp : Int)) none).length ≤ 5 := by rw [len_cps, cutS_from, List.length_drop]; omega
        refine dAdd_ss (sl _ (by show _ + 1 ≤ _; omega)) ?_
        walk_at "w"
        refine dSl_s (sl _ (by omega)) ?_
        have l3 : (cutS st none (some (sp : Int)) ++ (⟨#[97 + (f + 7 * i) % 26]⟩ : Str)).length ≤ 6 := by
          rw [len_cps, str_app, List.length_append, ← len_cps]; show _ + 1 ≤ 6; omega
        refine dAdd_ss (sl _ (by omega)) ?_
        have l4 : ((cutS st none (some (sp : Int)) ++ (⟨#[97 + (f + 7 * i) % 26]⟩ : Str)) ++ cutS st (some (sp : Int)) none).length ≤ 11 := by
          rw [len_cps, str_app, List.length_append, ← len_cps, ← len_cps]; omega
        walk_at "w"
        refine dIC_ii (by decide) ?_
        walk_at "w"
        refine dIC_ii (cmulL (by omega) (by omega)) ?_
        have et : ((i : Int) % 3) * (if decide (lg = 1) = true then 1 else 0) = ((((i % 3) * (if lg = 1 then 1 else 0) : Nat)) : Int) := by
          by_cases q : lg = 1
          · simp [q]
          · simp [q]
        rw [et]
        refine ⟨_, rfl, dSl_s (z := ("xx" : Str)) (sl _ (by decide +kernel)) ?_⟩
        have l5 : (cutS ("xx" : Str) none (some ((((i % 3) * (if lg = 1 then 1 else 0) : Nat)) : Int))).length ≤ 2 := by
          rw [len_cps, cutS_to]; exact (tlA_ok lg i).1
        refine dAdd_ss (sl _ (by omega)) ?_
        walk_at "w"
        refine dApp um_same (szl _ (by rw [List.length_map]; omega)) ?_
        rw [um_um, strsD_app]
        refine Fo.of ⟨⟨_, _, rfl⟩, _, rfl, by rw [List.length_append, hx]; rfl, fun k y hk => ?_⟩
        · by_cases q : k < i
          · rw [List.getElem?_append_left (by omega)] at hk
            exact hxn k y hk
          · rw [List.getElem?_append_right (by omega)] at hk
            have ek : k = i := by
              have := (List.getElem?_eq_some_iff.mp hk).1
              simp at this
              omega
            subst ek
            rw [hx, Nat.sub_self] at hk
            have := Option.some.inj hk
            subst this
            rw [str_app, str_app, str_app, cutS_to, cutS_from, cutS_to]
            rfl
      · rintro Γ' μ' ⟨⟨g1, g2, rfl⟩, xs, rfl, hx, hxn⟩
        have hx : xs.length = m := by rw [rng0_length] at hx; exact hx
        refine ws_freeze (i := 9) um_same rfl ?_
        rw [dm_um hl0]
        show Ws K (wOf E) _ [some (.lst (intsD zs)), some (.ref a), some (.int (m : Int)), some (.str tLETTERS), some (.str st), g1, some (.int (sp : Int)), some (.int (f : Int)), some (.int lg), some (.lst (strsD xs)), g2] _ _
        walk_at "w"
        obtain ⟨q1, q2⟩ := names_ok (tl := tlA lg) (m := m) (by omega) hs hl (by omega) (tlA_ok lg) (fun i j hi hj e _ => by omega) hx hxn
        refine ret_of (hp xs n4 hx q1 q2 fun hm => ?_)
        obtain ⟨k, hk⟩ := List.getElem?_of_mem hm
        exact nm_none (by omega) (by omega) ((hxn k _ hk).symm.trans (by decide +kernel))
end
end Nm
namespace Nm
open PySem PySem.Spec PyProof.Rows L2
local macro_rules | `(tactic| walk_at "s") => `(tactic| first
  | (guard_target =~ Ws _ _ _ _ _ _; first | with_reducible refine ws_seq ?_ | with_reducible refine ws_set ?_ | with_reducible refine ws_if ?_ | with_reducible refine ws_ret ?_ | with_reducible refine ws_asg ?_ | with_reducible refine ws_drop ?_ | with_reducible refine ws_next ?_ | with_reducible refine ws_for ?_ | with_reducible refine ws_brk ?_ | with_reducible refine ws_cont ?_ | with_reducible refine ws_retN ?_ | with_reducible refine ws_fld ?_)
  | (guard_target =~ Wa _ _ _ _ _ _ _; first | with_reducible refine wa_cons ?_ | with_reducible refine wa_nil ?_)
  | (guard_target =~ We _ _ _ _ _ _ _; first | (guard_target =~ We _ _ (tOp _ _ _) _ _ _ _; first | with_reducible refine we_op opS_add ?_ | with_reducible refine we_op opS_sub ?_ | with_reducible refine we_op opS_mul ?_ | with_reducible refine we_op opS_mod ?_ | with_reducible refine we_op opS_div ?_ | with_reducible refine we_op opS_ix ?_ | with_reducible refine we_op opS_eq ?_ | with_reducible refine we_op opS_ne ?_ | with_reducible refine we_op opS_lt ?_ | with_reducible refine we_op opS_le ?_ | with_reducible refine we_op opS_gt ?_ | with_reducible refine we_op opS_ge ?_ | with_reducible refine we_op opS_in ?_ | with_reducible refine we_op opS_notIn ?_ | with_reducible refine we_op opS_and ?_ | with_reducible refine we_op opS_or ?_ | with_reducible refine we_op opS_shr ?_ | with_reducible refine we_op opS_shl ?_ | with_reducible refine we_op opS_pow ?_ | with_reducible refine we_op opS_isN ?_ | with_reducible refine we_op opS_notN ?_ | with_reducible refine we_op opS_xor ?_) | (guard_target =~ We _ _ (tCB _ _) _ _ _ _; first | with_reducible refine we_cb cbS_len ?_ | with_reducible refine we_cb cbS_int ?_ | with_reducible refine we_cb cbS_bool ?_ | with_reducible refine we_cb cbS_max ?_ | with_reducible refine we_cb cbS_min ?_ | with_reducible refine we_cb cbS_isi ?_) | with_reducible refine we_var rfl ?_ | with_reducible refine we_int ?_ | with_reducible refine we_str ?_ | with_reducible refine we_bl ?_ | with_reducible refine we_non ?_ | with_reducible refine we_ty ?_ | with_reducible refine we_ref ?_ | with_reducible refine we_sl ?_ | with_reducible refine we_orT ?_ | with_reducible refine we_andT ?_ | with_reducible refine we_notT ?_ | with_reducible refine we_if ?_ | with_reducible refine we_tup ⟨?_, ?_⟩ | with_reducible refine we_tup ?_ | with_reducible refine we_fld ?_ | with_reducible refine we_call (dds := []) (fun _ => HasL.nil) ?_ | with_reducible refine we_call0 (dds := []) (fun _ => HasL.nil) ?_ | with_reducible refine we_meth (dds := []) (fun _ => HasL.nil) ?_ | with_reducible refine we_bm mS_append ?_ | with_reducible refine we_bm mS_extend ?_ | with_reducible refine we_bm0 mS_clear ?_ | with_reducible refine we_bm mS_indexS ?_ | with_reducible refine we_bm mS_join ?_ | with_reducible refine we_bm mS_split ?_ | with_reducible refine we_bm mS_part ?_ | with_reducible refine we_un unS_neg ?_ | with_reducible refine we_un unS_inv ?_)
  | (guard_target =~ Wt _ _ _ _ _ _ _; first | with_reducible refine wt_test ?_ | with_reducible refine wt_tr ?_ | with_reducible refine wt_not ?_ | with_reducible refine wt_and ?_ | with_reducible refine wt_or ?_ | with_reducible refine wt_val ?_ | with_reducible refine wt_yes ?_)
  | (guard_target =~ Wg _ _ _ _ _ _; first | with_reducible refine wg_name ?_)
  | (guard_target =~ Wgs _ _ _ _ _ _; first | with_reducible refine wgs_cons ?_ | with_reducible refine wgs_nil ?_)
  | (guard_target =~ Wi _ _ _ _ _ _ _; first | with_reducible refine wi_str ?_ | with_reducible refine wi_list ?_ | with_reducible refine wi_rngN ?_ | with_reducible refine wi_rng2 ?_)
  | (guard_target =~ Wo _ _ _ _ _ _ _; first | with_reducible refine wo_none ?_ | with_reducible refine wo_some ?_)
  | with_reducible refine dAdd_ii ?_
  | with_reducible refine dI_ii ?_
  | with_reducible refine dU_i ?_
  | with_reducible refine dEq_fi ?_
  | with_reducible refine dEq_ti ?_
  | with_reducible refine dEq_fs ?_
  | with_reducible refine dEq_ts ?_
  | with_reducible refine dEq_fb ?_
  | with_reducible refine dEq_tb ?_
  | with_reducible refine dEq_sn ?_
  | with_reducible refine dEq_ns ?_
  | with_reducible refine dEq_nn ?_
  | with_reducible refine dIn_fs ?_
  | with_reducible refine dIn_ts ?_
  | with_reducible refine dIn_fi ?_
  | with_reducible refine dIn_ti ?_
  | with_reducible refine dIn_tc ?_
  | with_reducible refine dIn_fc ?_
  | with_reducible refine dSl_l ?_
  | with_reducible refine dSl_q ?_
  | with_reducible refine dLen_l ?_
  | with_reducible refine dLen_q ?_
  | (guard_target =~ dLen [.ref _] _ _; with_reducible refine dLen_r (by first | exact um_same | assumption) ?_)
  | with_reducible refine ty_l ?_
  | with_reducible refine ty_s ?_
  | (guard_target =~ tyD _ "list" (.ref _) ∧ _; with_reducible refine ty_r (by first | exact um_same | assumption) ?_)
  | with_reducible refine dLen_t ?_
  | with_reducible refine dInt_i ?_
  | with_reducible refine dInt_b ?_
  | with_reducible refine dBool_i ?_
  | with_reducible refine dMax_ii ?_
  | with_reducible refine dMin_ii ?_
  | with_reducible refine dList_l ?_
  | with_reducible refine dIsN_s ?_
  | with_reducible refine dIsN_n ?_
  | with_reducible refine dIsN_i ?_
  | with_reducible refine bl_ex ?_
  | with_reducible refine tru_b ?_
  | with_reducible refine tru_i ?_
  | with_reducible refine tru_l ?_
  | with_reducible refine iteT ?_
  | with_reducible refine iteF ?_
  | with_reducible refine iteNT ?_
  | with_reducible refine iteNF ?_
  | with_reducible refine ⟨_, rfl, ?_⟩)
local macro_rules | `(tactic| walk_at "w") => `(tactic| repeat walk_at "s")

/-! ### _law_texts -/
def sd_texts : SpD := fun ds μ P _ => ∃ xs ys : List Str, ds = [.lst (strsD xs), .lst (strsD ys)] ∧ ys.length ≤ 100000 ∧ P (.bl (decide (xs = ys))) μ
abbrev N_law_texts : List Str := ["_law_actual", "_law_expected", "_law_k"]
theorem sc_law_texts : FnScope N_law_texts ["_law_actual", "_law_expected"] (defScope s_law_texts) := ⟨rfl, rfl, rfl, by decide +kernel, rfl, by decide +kernel, by decide +kernel⟩
abbrev D_law_texts (K : PySem.W.Frag) (mg : Str → Option Value) : Prop := DF K mg "_law_texts" s_law_texts
theorem gf_law_texts {P : Program} {w : World} {K : PySem.W.Frag} {mg : Str → Option Value} {base : Heap} {k : Nat} {sp : Sp} (D : D_law_texts K mg) (h : ∀ {f : Addr} {fd : FuncData}, FunD K "_law_texts" "_law_texts" (defArgs s_law_texts) (defBody s_law_texts) (defScope s_law_texts) [] [] f fd → FnOk P w K mg base (L2.CX P w) k f fd ["_law_actual", "_law_expected"] sp) : GF P w K mg base "_law_texts" k ["_law_actual", "_law_expected"] sp := by
  obtain ⟨f, fd, h1, h2⟩ := D.ex
  exact ⟨f, fd, h1, h2.kp, FunD.bindsN h2 fun _ _ _ _ _ _ us hl => match us, hl with | [_, _], _ => rfl, h h2⟩

section
variable {P : Program} {w : World} {K : PySem.W.Frag} {mg : Str → Option Value} {base : Heap}
theorem ok_texts (D : D_law_texts K mg) (Z : Zs mg) : GF P w K mg base "_law_texts" 1 ["_law_actual", "_law_expected"] (toSp K sd_texts) := by
  refine gf_law_texts D fun F => fun_ok F sc_law_texts (fun ds μ P X h => ?_) fun cdv A outer s H E hr => ⟨_, (pss_cons (ps_if (PW.pt (pw_or (pt_not (pt_trK (K := K) rfl (pe_callB (call_isiK (K := K) rfl) (by rfl) Z.z_isinstance (by decide +kernel) (pa_cons (pv 0) (pa_cons (pe_bltn (v := .ty "list") (u := .type "list") rfl Z.z_list (by decide +kernel) rfl) pa_nil))))) (pw_or1 (pt_cmpR (op_neK (K := K) rfl hr.units) (pe_callB (call_lenK (K := K) rfl) (by rfl) Z.z_len (by decide +kernel) (pa_cons (pv 0) pa_nil)) (pe_callB (call_lenK (K := K) rfl) (by rfl) Z.z_len (by decide +kernel) (pa_cons (pv 1) pa_nil)) (nomark _)))))
      (pss_one (ps_ret pe_bl))
      pss_nil)
    (pss_cons (ps_for po_def rfl (pi_range1 (by rfl) Z.z_range (pa_cons (pe_callB (call_lenK (K := K) rfl) (by rfl) Z.z_len (by decide +kernel) (pa_cons (pv 1) pa_nil)) pa_nil)) (pg_name (i := 2) sc_law_texts.nd rfl (by first | exact Or.inl rfl | exact Or.inr rfl))
      (pss_one (ps_if (PW.pt (pw_or (pt_not (pt_trK (K := K) rfl (pe_callB (call_isiK (K := K) rfl) (by rfl) Z.z_isinstance (by decide +kernel) (pa_cons (pe_ix (ix_seqK (K := K) rfl) (pv 0) (pv 2) (fun _ _ => rfl)) (pa_cons (pe_bltn (v := .ty "str") (u := .type "str") rfl Z.z_str (by decide +kernel) rfl) pa_nil))))) (pw_or1 (pt_cmpR (op_neK (K := K) rfl hr.units) (pe_ix (ix_seqK (K := K) rfl) (pv 0) (pv 2) (fun _ _ => rfl)) (pe_ix (ix_seqK (K := K) rfl) (pv 1) (pv 2) (fun _ _ => rfl)) (nomark _)))))
          (pss_one (ps_ret pe_bl))
          pss_nil)))
    (pss_one (ps_ret pe_bl)))), fun ds μ Pd X h => ?_⟩
  · obtain ⟨xs, ys, rfl, _⟩ := h; rfl
  · obtain ⟨xs, ys, rfl, hy, hp⟩ := h
    show Ws K (wOf E) _ [some (.lst (strsD xs)), some (.lst (strsD ys)), none] μ _
    walk_at "w"
    refine isi_of (t := .type "list") (cv := .type "list") (b := true) (fun R r => r) rfl (by first | rfl | decide +kernel) ?_
    walk_at "w"
    refine iteN (fun h => ?_) (fun h => ?_)
    · walk_at "w"
      rw [decide_eq_false (fun e : xs = ys => h (by rw [e]))] at hp
      exact ret_of hp
    · have hl : xs.length = ys.length := by rw [List.length_map, List.length_map] at h; omega
      walk_at "w"
      refine ⟨by rw [List.length_map]; omega, ?_⟩
      refine ⟨fun i Γ' μ' => μ' = μ ∧ (∃ g, Γ' = [some (.lst (strsD xs)), some (.lst (strsD ys)), g]) ∧ ∀ j, j < i → xs[j]? = ys[j]?, ⟨rfl, ⟨_, rfl⟩, fun j hj => absurd hj (Nat.not_lt_zero j)⟩, ?_, ?_⟩
      · rintro i d Γ' μ' hi ⟨rfl, ⟨g, rfl⟩, he⟩
        obtain ⟨hi1, rfl⟩ := rng0_get hi
        rw [List.length_map] at hi1
        obtain ⟨x, hx⟩ := get_of_lt (l := xs) (i := i) (by omega)
        obtain ⟨y, hy'⟩ := get_of_lt (l := ys) (i := i) (by omega)
        walk_at "w"
        refine dIx_l (atI_nat (strsD_get hx)) ?_
        walk_at "w"
        refine isi_of (t := .type "str") (cv := .type "str") (b := true) (fun R r => r) rfl (by first | rfl | decide +kernel) ?_
        walk_at "w"
        refine dIx_l (atI_nat (strsD_get hx)) ?_
        walk_at "w"
        refine dIx_l (atI_nat (strsD_get hy')) ?_
        walk_at "w"
        refine iteN (fun h => ?_) (fun h => ?_)
        · walk_at "w"
          rw [decide_eq_false (fun e : xs = ys => h (by rw [e, hy'] at hx; exact (Option.some.inj hx).symm))] at hp
          exact ret_of hp
        · walk_at "w"
          refine Fo.of ⟨rfl, ⟨_, rfl⟩, fun j hj => ?_⟩
          rcases Nat.lt_succ_iff_lt_or_eq.mp hj with z | z
          · exact he j z
          · subst z; rw [hx, hy', h]
      · rintro Γ' μ' ⟨rfl, ⟨g, rfl⟩, he⟩
        rw [rng0_length, List.length_map] at he
        walk_at "w"
        have e : xs = ys := by
          apply List.ext_getElem?
          intro j
          rcases Nat.lt_or_ge j ys.length with z | z
          · exact he j z
          · rw [List.getElem?_eq_none z, List.getElem?_eq_none (by omega)]
        rw [decide_eq_true e] at hp
        exact ret_of hp
end
end Nm
namespace Nm
open PySem PySem.Spec PyProof.Rows L2
local macro_rules | `(tactic| walk_at "s") => `(tactic| first
  | (guard_target =~ Ws _ _ _ _ _ _; first | with_reducible refine ws_seq ?_ | with_reducible refine ws_set ?_ | with_reducible refine ws_if ?_ | with_reducible refine ws_ret ?_ | with_reducible refine ws_asg ?_ | with_reducible refine ws_drop ?_ | with_reducible refine ws_next ?_ | with_reducible refine ws_for ?_ | with_reducible refine ws_brk ?_ | with_reducible refine ws_cont ?_ | with_reducible refine ws_retN ?_ | with_reducible refine ws_fld ?_)
  | (guard_target =~ Wa _ _ _ _ _ _ _; first | with_reducible refine wa_cons ?_ | with_reducible refine wa_nil ?_)
  | (guard_target =~ We _ _ _ _ _ _ _; first | (guard_target =~ We _ _ (tOp _ _ _) _ _ _ _; first | with_reducible refine we_op opS_add ?_ | with_reducible refine we_op opS_sub ?_ | with_reducible refine we_op opS_mul ?_ | with_reducible refine we_op opS_mod ?_ | with_reducible refine we_op opS_div ?_ | with_reducible refine we_op opS_ix ?_ | with_reducible refine we_op opS_eq ?_ | with_reducible refine we_op opS_ne ?_ | with_reducible refine we_op opS_lt ?_ | with_reducible refine we_op opS_le ?_ | with_reducible refine we_op opS_gt ?_ | with_reducible refine we_op opS_ge ?_ | with_reducible refine we_op opS_in ?_ | with_reducible refine we_op opS_notIn ?_ | with_reducible refine we_op opS_and ?_ | with_reducible refine we_op opS_or ?_ | with_reducible refine we_op opS_shr ?_ | with_reducible refine we_op opS_shl ?_ | with_reducible refine we_op opS_pow ?_ | with_reducible refine we_op opS_isN ?_ | with_reducible refine we_op opS_notN ?_ | with_reducible refine we_op opS_xor ?_) | (guard_target =~ We _ _ (tCB _ _) _ _ _ _; first | with_reducible refine we_cb cbS_len ?_ | with_reducible refine we_cb cbS_int ?_ | with_reducible refine we_cb cbS_bool ?_ | with_reducible refine we_cb cbS_max ?_ | with_reducible refine we_cb cbS_min ?_ | with_reducible refine we_cb cbS_isi ?_) | with_reducible refine we_var rfl ?_ | with_reducible refine we_int ?_ | with_reducible refine we_str ?_ | with_reducible refine we_bl ?_ | with_reducible refine we_non ?_ | with_reducible refine we_ty ?_ | with_reducible refine we_ref ?_ | with_reducible refine we_sl ?_ | with_reducible refine we_orT ?_ | with_reducible refine we_andT ?_ | with_reducible refine we_notT ?_ | with_reducible refine we_if ?_ | with_reducible refine we_tup ⟨?_, ?_⟩ | with_reducible refine we_tup ?_ | with_reducible refine we_fld ?_ | with_reducible refine we_call (dds := []) (fun _ => HasL.nil) ?_ | with_reducible refine we_call0 (dds := []) (fun _ => HasL.nil) ?_ | with_reducible refine we_meth (dds := []) (fun _ => HasL.nil) ?_ | with_reducible refine we_bm mS_append ?_ | with_reducible refine we_bm mS_extend ?_ | with_reducible refine we_bm0 mS_clear ?_ | with_reducible refine we_bm mS_indexS ?_ | with_reducible refine we_bm mS_join ?_ | with_reducible refine we_bm mS_split ?_ | with_reducible refine we_bm mS_part ?_ | with_reducible refine we_un unS_neg ?_ | with_reducible refine we_un unS_inv ?_)
  | (guard_target =~ Wt _ _ _ _ _ _ _; first | with_reducible refine wt_test ?_ | with_reducible refine wt_tr ?_ | with_reducible refine wt_not ?_ | with_reducible refine wt_and ?_ | with_reducible refine wt_or ?_ | with_reducible refine wt_val ?_ | with_reducible refine wt_yes ?_)
  | (guard_target =~ Wg _ _ _ _ _ _; first | with_reducible refine wg_name ?_)
  | (guard_target =~ Wgs _ _ _ _ _ _; first | with_reducible refine wgs_cons ?_ | with_reducible refine wgs_nil ?_)
  | (guard_target =~ Wi _ _ _ _ _ _ _; first | with_reducible refine wi_str ?_ | with_reducible refine wi_list ?_ | with_reducible refine wi_rngN ?_ | with_reducible refine wi_rng2 ?_)
  | (guard_target =~ Wo _ _ _ _ _ _ _; first | with_reducible refine wo_none ?_ | with_reducible refine wo_some ?_)
  | with_reducible refine dAdd_ii ?_
  | with_reducible refine dI_ii ?_
  | with_reducible refine dU_i ?_
  | with_reducible refine dEq_fi ?_
  | with_reducible refine dEq_ti ?_
  | with_reducible refine dEq_fs ?_
  | with_reducible refine dEq_ts ?_
  | with_reducible refine dEq_fb ?_
  | with_reducible refine dEq_tb ?_
  | with_reducible refine dEq_sn ?_
  | with_reducible refine dEq_ns ?_
  | with_reducible refine dEq_nn ?_
  | with_reducible refine dIn_fs ?_
  | with_reducible refine dIn_ts ?_
  | with_reducible refine dIn_fi ?_
  | with_reducible refine dIn_ti ?_
  | with_reducible refine dIn_tc ?_
  | with_reducible refine dIn_fc ?_
  | with_reducible refine dSl_l ?_
  | with_reducible refine dSl_q ?_
  | with_reducible refine dLen_l ?_
  | with_reducible refine dLen_q ?_
  | (guard_target =~ dLen [.ref _] _ _; with_reducible refine dLen_r (by first | exact um_same | assumption) ?_)
  | with_reducible refine ty_l ?_
  | with_reducible refine ty_s ?_
  | (guard_target =~ tyD _ "list" (.ref _) ∧ _; with_reducible refine ty_r (by first | exact um_same | assumption) ?_)
  | with_reducible refine dLen_t ?_
  | with_reducible refine dInt_i ?_
  | with_reducible refine dInt_b ?_
  | with_reducible refine dBool_i ?_
  | with_reducible refine dMax_ii ?_
  | with_reducible refine dMin_ii ?_
  | with_reducible refine dList_l ?_
  | with_reducible refine dIsN_s ?_
  | with_reducible refine dIsN_n ?_
  | with_reducible refine dIsN_i ?_
  | with_reducible refine bl_ex ?_
  | with_reducible refine tru_b ?_
  | with_reducible refine tru_i ?_
  | with_reducible refine tru_l ?_
  | with_reducible refine iteT ?_
  | with_reducible refine iteF ?_
  | with_reducible refine iteNT ?_
  | with_reducible refine iteNF ?_
  | with_reducible refine ⟨_, rfl, ?_⟩)
local macro_rules | `(tactic| walk_at "w") => `(tactic| repeat walk_at "s")

/-! ### step_parts: the operands of a step -/
def fitsF : List Str → FRow → Bool
  | [], [] => true
  | w :: ws, none :: fs => fitsF ws fs
  | w :: ws, some x :: fs => decide (w = x) && fitsF ws fs
  | _, _ => false
def pickF : List Str → FRow → List Str
  | w :: ws, none :: fs => w :: pickF ws fs
  | w :: ws, some _ :: fs => pickF ws fs
  | _, _ => []
theorem fitsF_iff : ∀ {ws : List Str} {fs : FRow}, fitsF ws fs = true ↔ ws.length = fs.length ∧ ∀ (i : Nat) (w f : Str), ws[i]? = some w → fs[i]? = some (some f) → w = f
  | [], [] => ⟨fun _ => ⟨rfl, fun i w f h => by cases h⟩, fun _ => rfl⟩
  | [], _ :: _ => ⟨fun h => (by cases h), fun h => absurd h.1 (by simp)⟩
  | _ :: _, [] => ⟨fun h => (by cases h), fun h => absurd h.1 (by simp)⟩
  | w :: ws, none :: fs => by
    show fitsF ws fs = true ↔ _
    rw [fitsF_iff]
    constructor
    · rintro ⟨h1, h2⟩
      refine ⟨congrArg (· + 1) h1, fun i x f hx hf => ?_⟩
      cases i with
      | zero => cases hf
      | succ i => exact h2 i x f hx hf
    · rintro ⟨h1, h2⟩
      exact ⟨Nat.succ.inj h1, fun i x f hx hf => h2 (i + 1) x f hx hf⟩
  | w :: ws, some x :: fs => by
    show (decide (w = x) && fitsF ws fs) = true ↔ _
    rw [Bool.and_eq_true, decide_eq_true_eq, fitsF_iff]
    constructor
    · rintro ⟨h0, h1, h2⟩
      refine ⟨congrArg (· + 1) h1, fun i y f hy hf => ?_⟩
      cases i with
      | zero =>
        obtain rfl := Option.some.inj hy
        obtain rfl := Option.some.inj (Option.some.inj hf)
        exact h0
      | succ i => exact h2 i y f hy hf
    · rintro ⟨h1, h2⟩
      exact ⟨h2 0 w x rfl rfl, Nat.succ.inj h1, fun i y f hy hf => h2 (i + 1) y f hy hf⟩
abbrev zipD (q : Str × Option Str) : D := .tup [.str q.1, cellD q.2]
theorem pairZ_zip : ∀ (ws : List Str) (fs : FRow), pairZ (strsD ws) (fs.map cellD) = (ws.zip fs).map zipD
  | [], _ => rfl
  | _ :: _, [] => rfl
  | w :: ws, f :: fs => congrArg (D.tup [.str w, cellD f] :: ·) (pairZ_zip ws fs)
theorem pickF_zip : ∀ (ws : List Str) (fs : FRow), ((ws.zip fs).filter fun q => q.2.isNone).map (fun q => D.str q.1) = strsD (pickF ws fs)
  | [], _ => rfl
  | _ :: _, [] => rfl
  | w :: ws, none :: fs => congrArg (D.str w :: ·) (pickF_zip ws fs)
  | w :: ws, some x :: fs => pickF_zip ws fs
/-- the operands, if the text has one of the forms -/
def partsOf (text : Str) : Option (List Str) := match rowAt tFORMS ((Txt.split text " ").headD "") with
  | some fs => if fitsF (Txt.split text " ") fs then some (pickF (Txt.split text " ") fs) else none
  | none => none
def sd_step_parts (K : PySem.W.Frag) : SpD := fun ds μ P X => ∃ text : Str, ds = [.str text] ∧ text.length ≤ 90000 ∧ (∀ ps, partsOf text = some ps → P (.lst (strsD ps)) μ) ∧ (partsOf text = none → X (.ref (cA K "BadStep")) (.str text) μ)
abbrev N_step_parts : List Str := ["text", "words", "form", "word", "wanted"]
theorem sc_step_parts : FnScope N_step_parts ["text"] (defScope s_step_parts) := ⟨rfl, rfl, rfl, by decide +kernel, rfl, by decide +kernel, by decide +kernel⟩
abbrev D_step_parts (K : PySem.W.Frag) (mg : Str → Option Value) : Prop := DF K mg "step_parts" s_step_parts
theorem gf_step_parts {P : Program} {w : World} {K : PySem.W.Frag} {mg : Str → Option Value} {base : Heap} {k : Nat} {sp : Sp} (D : D_step_parts K mg) (h : ∀ {f : Addr} {fd : FuncData}, FunD K "step_parts" "step_parts" (defArgs s_step_parts) (defBody s_step_parts) (defScope s_step_parts) [] [] f fd → FnOk P w K mg base (L2.CX P w) k f fd ["text"] sp) : GF P w K mg base "step_parts" k ["text"] sp := by
  obtain ⟨f, fd, h1, h2⟩ := D.ex
  exact ⟨f, fd, h1, h2.kp, FunD.bindsN h2 fun _ _ _ _ _ _ us hl => match us, hl with | [_], _ => rfl, h h2⟩

section
variable {P : Program} {w : World} {K : PySem.W.Frag} {mg : Str → Option Value} {base : Heap}
theorem ok_step_parts (D : D_step_parts K mg) (Z : Zs mg) (T_FORMS : GTab K w mg "FORMS" (cA K "FORMS") tFORMS) (X_BadStep : GX P w K mg base "BadStep" (cA K "BadStep")) : GF P w K mg base "step_parts" 3 ["text"] (toSp K (sd_step_parts K)) := by
  refine gf_step_parts D fun F => fun_ok F sc_step_parts (fun ds μ P X h => ?_) fun cdv A outer s H E hr => ⟨_, (pss_cons (ps_set (i := 1) sc_step_parts.nd rfl (by first | exact Or.inl rfl | exact Or.inr rfl) (pe_bmK (K := K) rfl PySem.F.plainAttrs_str PySem.F.slot_str_split PySem.F.type_str_split mt_splitU (pv 0) (pa_cons pe_str pa_nil)))
    (pss_cons (ps_set (i := 2) sc_step_parts.nd rfl (by first | exact Or.inl rfl | exact Or.inr rfl) (pe_kget (K := K) (w := w) rfl rfl T_FORMS.kd (pe_glob (v := .ref (cA K "FORMS")) rfl T_FORMS.gl rfl) (pe_ix (ix_seqK (K := K) rfl) (pv 1) pe_int (fun _ _ => rfl)) (pe_tup pa_nil) ⟨rfl, by rfl, by rfl, by rfl⟩))
    (pss_cons (ps_if (pt_cmpR (op_neK (K := K) rfl hr.units) (pe_callB (call_lenK (K := K) rfl) (by rfl) Z.z_len (by decide +kernel) (pa_cons (pv 1) pa_nil)) (pe_callB (call_lenK (K := K) rfl) (by rfl) Z.z_len (by decide +kernel) (pa_cons (pv 2) pa_nil)) (nomark _))
      (pss_one (ps_gxK (K := K) rfl (mg := mg) rfl X_BadStep (hr.mono (by decide)) rfl tk_def (pv 0)))
      pss_nil)
    (pss_cons (ps_for po_def rfl (pi_zipMK (K := K) rfl (by rfl) Z.z_zip (pa_cons (pv 1) (pa_cons (pv 2) pa_nil))) (pg_tupK (K := K) rfl (n := 2) rfl (pgs_cons (pg_name (i := 3) sc_step_parts.nd rfl (by first | exact Or.inl rfl | exact Or.inr rfl)) (pgs_cons (pg_name (i := 4) sc_step_parts.nd rfl (by first | exact Or.inl rfl | exact Or.inr rfl)) pgs_nil)))
      (pss_one (ps_if (PW.pt (pw_and (pt_cmpR op_notN1 (pv 4) pe_non (nomark _)) (pw_and1 (pt_cmpR (op_neK (K := K) rfl hr.units) (pv 3) (pv 4) (nomark _)))))
          (pss_one (ps_gxK (K := K) rfl (mg := mg) rfl X_BadStep (hr.mono (by decide)) rfl tk_def (pv 0)))
          pss_nil)))
    (pss_one (ps_ret (pe_lc (own := [("word", 3), ("wanted", 4)]) rfl sc_step_parts.nd (pi_zipMK (K := K) rfl (by rfl) Z.z_zip (pa_cons (pv 1) (pa_cons (pv 2) pa_nil))) (blkOk_by (own := [("word", 3), ("wanted", 4)]) (N := N_step_parts) (sc := defScope s_step_parts) (by decide +kernel)) (fun _ _ _ _ _ => (pg_tupK (K := K) rfl (n := 2) rfl (pgs_cons (pg_name (i := 3) sc_step_parts.nd rfl (by first | exact Or.inl rfl | exact Or.inr rfl)) (pgs_cons (pg_name (i := 4) sc_step_parts.nd rfl (by first | exact Or.inl rfl | exact Or.inr rfl)) pgs_nil)))) (fun _ _ _ _ _ => (pts_one (pt_cmpR op_isN1 (pv 4) pe_non (nomark _)))) (fun _ _ _ _ _ => (pv 3))))))))), fun ds μ Pd X h => ?_⟩
  · obtain ⟨text, rfl, _⟩ := h; rfl
  · obtain ⟨text, rfl, hl, hp, hx⟩ := h
    have sl : ∀ n, n ≤ 100000 → n ≤ sizeLine := fun n h => Nat.le_of_lt (szl n h)
    show Ws K (wOf E) _ [some (.str text), none, none, none, none] μ _
    walk_at "w"
    refine ⟨by decide +kernel, sl _ (by omega), ?_⟩
    obtain ⟨w0, r0, hw0, _, _⟩ := split_head (x := text) (y := " ")
    have hfew := split_few (x := text) (y := " ")
    have epart : partsOf text = match rowAt tFORMS w0 with
        | some fs => if fitsF (Txt.split text " ") fs then some (pickF (Txt.split text " ") fs) else none
        | none => none := by unfold partsOf; rw [hw0]; rfl
    obtain ⟨ws, hws⟩ : ∃ ws, ws = Txt.split text " " := ⟨_, rfl⟩
    rw [← hws] at hw0 hfew epart ⊢
    refine ws_seq (ws_set (we_kget T_FORMS.tb ?_))
    walk_at "w"
    refine ⟨rfl, ?_⟩
    walk_at "w"
    refine dIx_l (atI_nat (j := 0) (show (strsD ws)[0]? = some (.str w0) by rw [hw0]; rfl)) ?_
    refine ⟨w0, rfl, ?_⟩
    walk_at "w"
    refine ⟨Nat.zero_le _, ?_⟩
    obtain ⟨fs, hfs⟩ : ∃ fs, fs = (rowAt tFORMS w0).getD [] := ⟨_, rfl⟩
    have eform : ((rowAt tFORMS w0).elim (Nm.D.tup []) fun fs => Nm.D.tup (List.map cellD fs)) = .tup (fs.map cellD) := by
      rw [hfs]
      cases rowAt tFORMS w0 <;> rfl
    have ep : partsOf text = if fitsF ws fs then some (pickF ws fs) else none := by
      rw [epart, hfs]
      cases rowAt tFORMS w0 with
      | none => rw [hw0]; rfl
      | some r => rfl
    have hfl : fs.length ≤ 6 := by
      rw [hfs]
      unfold rowAt
      cases q : tFORMS.find? fun q => decide (q.1 = w0) with
      | none => exact Nat.zero_le _
      | some p =>
        have hm := List.mem_of_find?_eq_some q
        have : ∀ p ∈ tFORMS, p.2.length ≤ 6 := by decide +kernel
        exact this p hm
    rw [eform]
    clear eform epart hfs
    show Ws K (wOf E) _ [some (.str text), some (.lst (strsD ws)), some (.tup (fs.map cellD)), none, none] μ _
    walk_at "w"
    rw [List.length_map, List.length_map]
    by_cases hlen : ws.length = fs.length
    · rw [decide_eq_true (show (ws.length : Int) = (fs.length : Int) by rw [hlen])]
      refine iteNF ?_
      walk_at "w"
      refine wi_zipM ?_
      walk_at "w"
      refine ⟨_, _, rfl, ?_⟩
      rw [pairZ_zip]
      refine ⟨fun i Γ' μ' => (∃ g3 g4, Γ' = [some (.str text), some (.lst (strsD ws)), some (.tup (fs.map cellD)), g3, g4]) ∧ μ' = μ ∧ ∀ (j : Nat) (w f : Str), j < i → ws[j]? = some w → fs[j]? = some (some f) → w = f, ⟨⟨_, _, rfl⟩, rfl, fun j w f h => absurd h (Nat.not_lt_zero j)⟩, ?_, ?_⟩
      · rintro i d Γ' μ' hi ⟨⟨g3, g4, rfl⟩, rfl, hm⟩
        rw [List.getElem?_map] at hi
        obtain ⟨⟨v0, f⟩, hq, rfl⟩ := Option.map_eq_some_iff.mp hi
        obtain ⟨hwi, hfi⟩ := List.getElem?_zip_eq_some.mp hq
        refine wg_tup rfl ?_
        walk_at "w"
        cases f with
        | none =>
          refine dIsN_n ?_
          walk_at "w"
          refine Fo.of ⟨⟨_, _, rfl⟩, rfl, fun j v f hj hv hf => ?_⟩
          rcases Nat.lt_succ_iff_lt_or_eq.mp hj with z | rfl
          · exact hm j v f z hv hf
          · rw [hfi] at hf; cases hf
        | some f =>
          refine dIsN_s ?_
          walk_at "w"
          refine dEq_ts ?_
          walk_at "w"
          cases q : decide (v0 = f) with
          | false =>
            refine iteNT ?_
            refine ws_raise X_BadStep.oex X_BadStep.sub ?_
            walk_at "w"
            refine retX_of (hx ?_)
            rw [ep, if_neg]
            intro h
            exact of_decide_eq_false q ((fitsF_iff.mp h).2 i v0 f hwi hfi)
          | true =>
            refine iteNF ?_
            walk_at "w"
            refine Fo.of ⟨⟨_, _, rfl⟩, rfl, fun j v g hj hv hf => ?_⟩
            rcases Nat.lt_succ_iff_lt_or_eq.mp hj with z | rfl
            · exact hm j v g z hv hf
            · obtain rfl : v0 = v := Option.some.inj (hwi.symm.trans hv)
              obtain rfl : f = g := Option.some.inj (Option.some.inj (hfi.symm.trans hf))
              exact of_decide_eq_true q
      · rintro Γ' μ' ⟨⟨g3, g4, rfl⟩, rfl, hm⟩
        walk_at "w"
        have hfit : fitsF ws fs = true := fitsF_iff.mpr ⟨hlen, fun i v f hv hf => hm i v f (by
          rw [List.length_map, List.length_zip, ← hlen, Nat.min_self]
          exact (List.getElem?_eq_some_iff.mp hv).1) hv hf⟩
        rw [hfit] at ep
        refine we_lcF (own_tup (owns_cons (by simp) (owns_cons (by simp) owns_nil))) (ws.zip fs) zipD (fun q => q.2.isNone) (fun q => .str q.1) (szl _ (by rw [List.length_zip]; omega)) ?_ ?_ ?_
        · refine wi_zipM ?_
          walk_at "w"
          exact ⟨_, _, rfl, pairZ_zip ws fs, rfl⟩
        · rintro i ⟨v, f⟩ hq
          refine wg_tup rfl ?_
          walk_at "w"
          cases f with
          | none =>
            refine dIsN_n ?_
            walk_at "w"
            exact ⟨rfl, rfl, rfl⟩
          | some f =>
            refine dIsN_s ?_
            walk_at "w"
            exact ⟨rfl, rfl⟩
        · rw [pickF_zip]
          exact ret_of (hp _ ep)
    · rw [decide_eq_false (show ¬ (ws.length : Int) = (fs.length : Int) by omega)]
      refine iteNT ?_
      refine ws_raise X_BadStep.oex X_BadStep.sub ?_
      walk_at "w"
      refine retX_of (hx ?_)
      rw [ep, if_neg]
      intro h
      exact hlen (fitsF_iff.mp h).1
end
end Nm
namespace Nm
open PySem PySem.Spec PyProof.Rows L2
local macro_rules | `(tactic| walk_at "s") => `(tactic| first
  | (guard_target =~ Ws _ _ _ _ _ _; first | with_reducible refine ws_seq ?_ | with_reducible refine ws_set ?_ | with_reducible refine ws_if ?_ | with_reducible refine ws_ret ?_ | with_reducible refine ws_asg ?_ | with_reducible refine ws_drop ?_ | with_reducible refine ws_next ?_ | with_reducible refine ws_for ?_ | with_reducible refine ws_brk ?_ | with_reducible refine ws_cont ?_ | with_reducible refine ws_retN ?_ | with_reducible refine ws_fld ?_)
  | (guard_target =~ Wa _ _ _ _ _ _ _; first | with_reducible refine wa_cons ?_ | with_reducible refine wa_nil ?_)
  | (guard_target =~ We _ _ _ _ _ _ _; first | (guard_target =~ We _ _ (tOp _ _ _) _ _ _ _; first | with_reducible refine we_op opS_add ?_ | with_reducible refine we_op opS_sub ?_ | with_reducible refine we_op opS_mul ?_ | with_reducible refine we_op opS_mod ?_ | with_reducible refine we_op opS_div ?_ | with_reducible refine we_op opS_ix ?_ | with_reducible refine we_op opS_eq ?_ | with_reducible refine we_op opS_ne ?_ | with_reducible refine we_op opS_lt ?_ | with_reducible refine we_op opS_le ?_ | with_reducible refine we_op opS_gt ?_ | with_reducible refine we_op opS_ge ?_ | with_reducible refine we_op opS_in ?_ | with_reducible refine we_op opS_notIn ?_ | with_reducible refine we_op opS_and ?_ | with_reducible refine we_op opS_or ?_ | with_reducible refine we_op opS_shr ?_ | with_reducible refine we_op opS_shl ?_ | with_reducible refine we_op opS_pow ?_ | with_reducible refine we_op opS_isN ?_ | with_reducible refine we_op opS_notN ?_ | with_reducible refine we_op opS_xor ?_) | (guard_target =~ We _ _ (tCB _ _) _ _ _ _; first | with_reducible refine we_cb cbS_len ?_ | with_reducible refine we_cb cbS_int ?_ | with_reducible refine we_cb cbS_bool ?_ | with_reducible refine we_cb cbS_max ?_ | with_reducible refine we_cb cbS_min ?_ | with_reducible refine we_cb cbS_isi ?_) | with_reducible refine we_var rfl ?_ | with_reducible refine we_int ?_ | with_reducible refine we_str ?_ | with_reducible refine we_bl ?_ | with_reducible refine we_non ?_ | with_reducible refine we_ty ?_ | with_reducible refine we_ref ?_ | with_reducible refine we_sl ?_ | with_reducible refine we_orT ?_ | with_reducible refine we_andT ?_ | with_reducible refine we_notT ?_ | with_reducible refine we_if ?_ | with_reducible refine we_tup ⟨?_, ?_⟩ | with_reducible refine we_tup ?_ | with_reducible refine we_fld ?_ | with_reducible refine we_call (dds := []) (fun _ => HasL.nil) ?_ | with_reducible refine we_call0 (dds := []) (fun _ => HasL.nil) ?_ | with_reducible refine we_meth (dds := []) (fun _ => HasL.nil) ?_ | with_reducible refine we_bm mS_append ?_ | with_reducible refine we_bm mS_extend ?_ | with_reducible refine we_bm0 mS_clear ?_ | with_reducible refine we_bm mS_indexS ?_ | with_reducible refine we_bm mS_join ?_ | with_reducible refine we_bm mS_split ?_ | with_reducible refine we_bm mS_part ?_ | with_reducible refine we_un unS_neg ?_ | with_reducible refine we_un unS_inv ?_)
  | (guard_target =~ Wt _ _ _ _ _ _ _; first | with_reducible refine wt_test ?_ | with_reducible refine wt_tr ?_ | with_reducible refine wt_not ?_ | with_reducible refine wt_and ?_ | with_reducible refine wt_or ?_ | with_reducible refine wt_val ?_ | with_reducible refine wt_yes ?_)
  | (guard_target =~ Wg _ _ _ _ _ _; first | with_reducible refine wg_name ?_)
  | (guard_target =~ Wgs _ _ _ _ _ _; first | with_reducible refine wgs_cons ?_ | with_reducible refine wgs_nil ?_)
  | (guard_target =~ Wi _ _ _ _ _ _ _; first | with_reducible refine wi_str ?_ | with_reducible refine wi_list ?_ | with_reducible refine wi_rngN ?_ | with_reducible refine wi_rng2 ?_)
  | (guard_target =~ Wo _ _ _ _ _ _ _; first | with_reducible refine wo_none ?_ | with_reducible refine wo_some ?_)
  | with_reducible refine dAdd_ii ?_
  | with_reducible refine dI_ii ?_
  | with_reducible refine dU_i ?_
  | with_reducible refine dEq_fi ?_
  | with_reducible refine dEq_ti ?_
  | with_reducible refine dEq_fs ?_
  | with_reducible refine dEq_ts ?_
  | with_reducible refine dEq_fb ?_
  | with_reducible refine dEq_tb ?_
  | with_reducible refine dEq_sn ?_
  | with_reducible refine dEq_ns ?_
  | with_reducible refine dEq_nn ?_
  | with_reducible refine dIn_fs ?_
  | with_reducible refine dIn_ts ?_
  | with_reducible refine dIn_fi ?_
  | with_reducible refine dIn_ti ?_
  | with_reducible refine dIn_tc ?_
  | with_reducible refine dIn_fc ?_
  | with_reducible refine dSl_l ?_
  | with_reducible refine dSl_q ?_
  | with_reducible refine dLen_l ?_
  | with_reducible refine dLen_q ?_
  | (guard_target =~ dLen [.ref _] _ _; with_reducible refine dLen_r (by first | exact um_same | assumption) ?_)
  | with_reducible refine ty_l ?_
  | with_reducible refine ty_s ?_
  | (guard_target =~ tyD _ "list" (.ref _) ∧ _; with_reducible refine ty_r (by first | exact um_same | assumption) ?_)
  | with_reducible refine dLen_t ?_
  | with_reducible refine dInt_i ?_
  | with_reducible refine dInt_b ?_
  | with_reducible refine dBool_i ?_
  | with_reducible refine dMax_ii ?_
  | with_reducible refine dMin_ii ?_
  | with_reducible refine dList_l ?_
  | with_reducible refine dIsN_s ?_
  | with_reducible refine dIsN_n ?_
  | with_reducible refine dIsN_i ?_
  | with_reducible refine bl_ex ?_
  | with_reducible refine tru_b ?_
  | with_reducible refine tru_i ?_
  | with_reducible refine tru_l ?_
  | with_reducible refine iteT ?_
  | with_reducible refine iteF ?_
  | with_reducible refine iteNT ?_
  | with_reducible refine iteNF ?_
  | with_reducible refine ⟨_, rfl, ?_⟩)
local macro_rules | `(tactic| walk_at "w") => `(tactic| repeat walk_at "s")

/-! ### check_new, step_row -/
/-- the first fault of a name -/
def nameFault (known : List Str) (n : Str) : Option (Str × Str) := if isName n = false then some ("BadName", n) else if n ∈ known then some ("Taken", n) else none
/-- the first fault of a step -/
def rowFault (known : List Str) (n text : Str) : Option (Str × Str) := match nameFault known n with
  | some z => some z
  | none => match partsOf text with
    | none => some ("BadStep", text)
    | some ps => (ps.find? fun p => decide (p ∉ known)).map fun p => ("Unknown", p)
/-- a row of a script -/
def rowS (n text : Str) : D := .tup [.str n, .str text, .str ((Txt.split text " ").headD ""), .lst (strsD ((partsOf text).getD []))]
def sd_check_new (K : PySem.W.Frag) : SpD := fun ds μ P X => ∃ (n : Str) (l : Addr) (known : List Str), ds = [.str n, .ref l] ∧ n.length ≤ 90000 ∧ μ l = some (.lst (strsD known)) ∧ (∀ c s, nameFault known n = some (c, s) → X (.ref (cA K c)) (.str s) μ) ∧ (nameFault known n = none → P .non μ)
def sd_step_row (K : PySem.W.Frag) : SpD := fun ds μ P X => ∃ (n text : Str) (l : Addr) (known : List Str), ds = [.str n, .str text, .ref l] ∧ n.length ≤ 90000 ∧ text.length ≤ 90000 ∧ μ l = some (.lst (strsD known)) ∧ (∀ c s, rowFault known n text = some (c, s) → X (.ref (cA K c)) (.str s) μ) ∧ (rowFault known n text = none → P (rowS n text) μ)
abbrev N_check_new : List Str := ["name", "known"]
theorem sc_check_new : FnScope N_check_new ["name", "known"] (defScope s_check_new) := ⟨rfl, rfl, rfl, by decide +kernel, rfl, by decide +kernel, by decide +kernel⟩
abbrev D_check_new (K : PySem.W.Frag) (mg : Str → Option Value) : Prop := DF K mg "check_new" s_check_new
theorem gf_check_new {P : Program} {w : World} {K : PySem.W.Frag} {mg : Str → Option Value} {base : Heap} {k : Nat} {sp : Sp} (D : D_check_new K mg) (h : ∀ {f : Addr} {fd : FuncData}, FunD K "check_new" "check_new" (defArgs s_check_new) (defBody s_check_new) (defScope s_check_new) [] [] f fd → FnOk P w K mg base (L2.CX P w) k f fd ["name", "known"] sp) : GF P w K mg base "check_new" k ["name", "known"] sp := by
  obtain ⟨f, fd, h1, h2⟩ := D.ex
  exact ⟨f, fd, h1, h2.kp, FunD.bindsN h2 fun _ _ _ _ _ _ us hl => match us, hl with | [_, _], _ => rfl, h h2⟩

abbrev N_step_row : List Str := ["name", "text", "known", "parts", "part"]
theorem sc_step_row : FnScope N_step_row ["name", "text", "known"] (defScope s_step_row) := ⟨rfl, rfl, rfl, by decide +kernel, rfl, by decide +kernel, by decide +kernel⟩
abbrev D_step_row (K : PySem.W.Frag) (mg : Str → Option Value) : Prop := DF K mg "step_row" s_step_row
theorem gf_step_row {P : Program} {w : World} {K : PySem.W.Frag} {mg : Str → Option Value} {base : Heap} {k : Nat} {sp : Sp} (D : D_step_row K mg) (h : ∀ {f : Addr} {fd : FuncData}, FunD K "step_row" "step_row" (defArgs s_step_row) (defBody s_step_row) (defScope s_step_row) [] [] f fd → FnOk P w K mg base (L2.CX P w) k f fd ["name", "text", "known"] sp) : GF P w K mg base "step_row" k ["name", "text", "known"] sp := by
  obtain ⟨f, fd, h1, h2⟩ := D.ex
  exact ⟨f, fd, h1, h2.kp, FunD.bindsN h2 fun _ _ _ _ _ _ us hl => match us, hl with | [_, _, _], _ => rfl, h h2⟩

section
variable {P : Program} {w : World} {K : PySem.W.Frag} {mg : Str → Option Value} {base : Heap}
theorem ok_check_new (D : D_check_new K mg) (Z : Zs mg) (X_BadName : GX P w K mg base "BadName" (cA K "BadName")) (X_Taken : GX P w K mg base "Taken" (cA K "Taken")) (G_is_name : GF P w K mg base "is_name" 1 ["word"] (toSp K sd_is_name)) : GF P w K mg base "check_new" 3 ["name", "known"] (toSp K (sd_check_new K)) := by
  refine gf_check_new D fun F => fun_ok F sc_check_new (fun ds μ P X h => ?_) fun cdv A outer s H E hr => ⟨_, (pss_cons (ps_if (pt_not (pt_trK (K := K) rfl (pe_gf G_is_name (hr.mono (by decide)) tk_def (pa_cons (pv 0) pa_nil))))
      (pss_one (ps_gxK (K := K) rfl (mg := mg) rfl X_BadName (hr.mono (by decide)) rfl tk_def (pv 0)))
      pss_nil)
    (pss_one (ps_if (pt_cmpR (op_inK (K := K) rfl (room65 hr)) (pv 0) (pv 1) (by rfl))
      (pss_one (ps_gxK (K := K) rfl (mg := mg) rfl X_Taken (hr.mono (by decide)) rfl tk_def (pv 0)))
      pss_nil))), fun ds μ Pd X h => ?_⟩
  · obtain ⟨n, l, known, rfl, _⟩ := h; rfl
  · obtain ⟨n, l, known, rfl, hn, hl, hx, hp⟩ := h
    show Ws K (wOf E) _ [some (.str n), some (.ref l)] μ _
    walk_at "w"
    refine ⟨n, rfl, Nat.le_of_lt (szl _ (by omega)), ?_⟩
    unfold nameFault at hx hp
    walk_at "w"
    cases q : isName n with
    | false =>
      rw [q, if_pos rfl] at hx
      refine iteNT ?_
      refine ws_raise X_BadName.oex X_BadName.sub ?_
      walk_at "w"
      exact retX_of (hx _ _ rfl)
    | true =>
      rw [q, if_neg (by decide)] at hx hp
      refine iteNF ?_
      walk_at "w"
      refine dIn_frs hl ?_
      walk_at "w"
      refine iteD (fun h => ?_) (fun h => ?_)
      · rw [if_pos h] at hx
        refine ws_raise X_Taken.oex X_Taken.sub ?_
        walk_at "w"
        exact retX_of (hx _ _ rfl)
      · rw [if_neg h] at hp
        walk_at "w"
        exact ret_of (hp rfl)
theorem ok_step_row (D : D_step_row K mg) (Z : Zs mg) (X_Unknown : GX P w K mg base "Unknown" (cA K "Unknown")) (G_check_new : GF P w K mg base "check_new" 3 ["name", "known"] (toSp K (sd_check_new K))) (G_step_parts : GF P w K mg base "step_parts" 3 ["text"] (toSp K (sd_step_parts K))) : GF P w K mg base "step_row" 4 ["name", "text", "known"] (toSp K (sd_step_row K)) := by
  refine gf_step_row D fun F => fun_ok F sc_step_row (fun ds μ P X h => ?_) fun cdv A outer s H E hr => ⟨_, (pss_cons (ps_expr (pe_gf G_check_new (hr.mono (by decide)) tk_def (pa_cons (pv 0) (pa_cons (pv 2) pa_nil))))
    (pss_cons (ps_set (i := 3) sc_step_row.nd rfl (by first | exact Or.inl rfl | exact Or.inr rfl) (pe_gf G_step_parts (hr.mono (by decide)) tk_def (pa_cons (pv 1) pa_nil)))
    (pss_cons (ps_for po_def rfl (pi_listK (K := K) rfl (pv 3)) (pg_name (i := 4) sc_step_row.nd rfl (by first | exact Or.inl rfl | exact Or.inr rfl))
      (pss_one (ps_if (pt_cmpR (op_notInK (K := K) rfl (room65 hr)) (pv 4) (pv 2) (by rfl))
          (pss_one (ps_gxK (K := K) rfl (mg := mg) rfl X_Unknown (hr.mono (by decide)) rfl tk_def (pv 4)))
          pss_nil)))
    (pss_one (ps_ret (pe_tup (pa_cons (pv 0) (pa_cons (pv 1) (pa_cons (pe_ix (ix_seqK (K := K) rfl) (pe_bmK (K := K) rfl PySem.F.plainAttrs_str PySem.F.slot_str_split PySem.F.type_str_split mt_splitU (pv 1) (pa_cons pe_str pa_nil)) pe_int (fun _ _ => rfl)) (pa_cons (pv 3) pa_nil)))))))))), fun ds μ Pd X h => ?_⟩
  · obtain ⟨n, text, l, known, rfl, _⟩ := h; rfl
  · obtain ⟨n, text, l, known, rfl, hn, ht, hl, hx, hp⟩ := h
    have sl : ∀ n, n ≤ 100000 → n ≤ sizeLine := fun n h => Nat.le_of_lt (szl n h)
    show Ws K (wOf E) _ [some (.str n), some (.str text), some (.ref l), none, none] μ _
    walk_at "w"
    unfold rowFault at hx hp
    refine ⟨n, l, known, rfl, hn, hl, fun c s h => ?_, fun h0 => ?_⟩
    · rw [h] at hx
      exact retX_of (hx _ _ rfl)
    rw [h0] at hx hp
    walk_at "w"
    refine ⟨text, rfl, ht, fun ps hps => ?_, fun hps => ?_⟩
    · rw [hps] at hx hp
      replace hx : ∀ c s, (ps.find? fun p => decide (p ∉ known)).map (fun p => (("Unknown" : Str), p)) = some (c, s) → X (.ref (cA K c)) (.str s) μ := hx
      replace hp : (ps.find? fun p => decide (p ∉ known)).map (fun p => (("Unknown" : Str), p)) = none → Pd (rowS n text) μ := hp
      walk_at "w"
      refine ⟨_, .inl rfl, fun i Γ' μ' => (∃ g, Γ' = [some (.str n), some (.str text), some (.ref l), some (.lst (strsD ps)), g]) ∧ μ' = μ ∧ ps.find? (fun p => decide (p ∉ known)) = (ps.drop i).find? (fun p => decide (p ∉ known)), ⟨⟨_, rfl⟩, rfl, rfl⟩, ?_, ?_⟩
      · rintro i d Γ' μ' hi ⟨⟨g, rfl⟩, rfl, hf⟩
        rw [List.getElem?_map] at hi
        obtain ⟨z, hz, rfl⟩ := Option.map_eq_some_iff.mp hi
        rw [drop_at hz] at hf
        walk_at "w"
        refine dIn_trs hl ?_
        walk_at "w"
        cases q : decide (z ∈ known) with
        | false =>
          have hq := of_decide_eq_false q
          rw [List.find?_cons_of_pos (p := fun p => decide (p ∉ known)) (decide_eq_true hq)] at hf
          rw [hf] at hx
          refine iteNT ?_
          refine ws_raise X_Unknown.oex X_Unknown.sub ?_
          walk_at "w"
          exact retX_of (hx _ _ rfl)
        | true =>
          have hq := of_decide_eq_true q
          rw [List.find?_cons_of_neg (p := fun p => decide (p ∉ known)) (by rw [decide_eq_false (fun h => h hq)]; exact Bool.false_ne_true)] at hf
          refine iteNF ?_
          walk_at "w"
          exact Fo.of ⟨⟨_, rfl⟩, rfl, hf⟩
      · rintro Γ' μ' ⟨⟨g, rfl⟩, rfl, hf⟩
        rw [List.length_map, List.drop_length] at hf
        rw [hf] at hp
        obtain ⟨w0, r0, hw0, _, _⟩ := split_head (x := text) (y := " ")
        have hfew := split_few (x := text) (y := " ")
        walk_at "w"
        refine ⟨by decide +kernel, sl _ (by omega), ?_⟩
        rw [hw0]
        walk_at "w"
        refine dIx_l (atI_nat (j := 0) (show (strsD (w0 :: r0))[0]? = some (.str w0) from rfl)) ?_
        walk_at "w"
        refine ⟨sl 4 (by decide), ?_⟩
        have hr := hp rfl
        unfold rowS at hr
        rw [hps, hw0] at hr
        exact ret_of hr
    · rw [hps] at hx
      exact retX_of (hx _ _ rfl)
end
end Nm
namespace Nm
open PySem PySem.Spec PyProof.Rows L2
local macro_rules | `(tactic| walk_at "s") => `(tactic| first
  | (guard_target =~ Ws _ _ _ _ _ _; first | with_reducible refine ws_seq ?_ | with_reducible refine ws_set ?_ | with_reducible refine ws_if ?_ | with_reducible refine ws_ret ?_ | with_reducible refine ws_asg ?_ | with_reducible refine ws_drop ?_ | with_reducible refine ws_next ?_ | with_reducible refine ws_for ?_ | with_reducible refine ws_brk ?_ | with_reducible refine ws_cont ?_ | with_reducible refine ws_retN ?_ | with_reducible refine ws_fld ?_)
  | (guard_target =~ Wa _ _ _ _ _ _ _; first | with_reducible refine wa_cons ?_ | with_reducible refine wa_nil ?_)
  | (guard_target =~ We _ _ _ _ _ _ _; first | (guard_target =~ We _ _ (tOp _ _ _) _ _ _ _; first | with_reducible refine we_op opS_add ?_ | with_reducible refine we_op opS_sub ?_ | with_reducible refine we_op opS_mul ?_ | with_reducible refine we_op opS_mod ?_ | with_reducible refine we_op opS_div ?_ | with_reducible refine we_op opS_ix ?_ | with_reducible refine we_op opS_eq ?_ | with_reducible refine we_op opS_ne ?_ | with_reducible refine we_op opS_lt ?_ | with_reducible refine we_op opS_le ?_ | with_reducible refine we_op opS_gt ?_ | with_reducible refine we_op opS_ge ?_ | with_reducible refine we_op opS_in ?_ | with_reducible refine we_op opS_notIn ?_ | with_reducible refine we_op opS_and ?_ | with_reducible refine we_op opS_or ?_ | with_reducible refine we_op opS_shr ?_ | with_reducible refine we_op opS_shl ?_ | with_reducible refine we_op opS_pow ?_ | with_reducible refine we_op opS_isN ?_ | with_reducible refine we_op opS_notN ?_ | with_reducible refine we_op opS_xor ?_) | (guard_target =~ We _ _ (tCB _ _) _ _ _ _; first | with_reducible refine we_cb cbS_len ?_ | with_reducible refine we_cb cbS_int ?_ | with_reducible refine we_cb cbS_bool ?_ | with_reducible refine we_cb cbS_max ?_ | with_reducible refine we_cb cbS_min ?_ | with_reducible refine we_cb cbS_isi ?_) | with_reducible refine we_var rfl ?_ | with_reducible refine we_int ?_ | with_reducible refine we_str ?_ | with_reducible refine we_bl ?_ | with_reducible refine we_non ?_ | with_reducible refine we_ty ?_ | with_reducible refine we_ref ?_ | with_reducible refine we_sl ?_ | with_reducible refine we_orT ?_ | with_reducible refine we_andT ?_ | with_reducible refine we_notT ?_ | with_reducible refine we_if ?_ | with_reducible refine we_tup ⟨?_, ?_⟩ | with_reducible refine we_tup ?_ | with_reducible refine we_fld ?_ | with_reducible refine we_call (dds := []) (fun _ => HasL.nil) ?_ | with_reducible refine we_call0 (dds := []) (fun _ => HasL.nil) ?_ | with_reducible refine we_meth (dds := []) (fun _ => HasL.nil) ?_ | with_reducible refine we_bm mS_append ?_ | with_reducible refine we_bm mS_extend ?_ | with_reducible refine we_bm0 mS_clear ?_ | with_reducible refine we_bm mS_indexS ?_ | with_reducible refine we_bm mS_join ?_ | with_reducible refine we_bm mS_split ?_ | with_reducible refine we_bm mS_part ?_ | with_reducible refine we_un unS_neg ?_ | with_reducible refine we_un unS_inv ?_)
  | (guard_target =~ Wt _ _ _ _ _ _ _; first | with_reducible refine wt_test ?_ | with_reducible refine wt_tr ?_ | with_reducible refine wt_not ?_ | with_reducible refine wt_and ?_ | with_reducible refine wt_or ?_ | with_reducible refine wt_val ?_ | with_reducible refine wt_yes ?_)
  | (guard_target =~ Wg _ _ _ _ _ _; first | with_reducible refine wg_name ?_)
  | (guard_target =~ Wgs _ _ _ _ _ _; first | with_reducible refine wgs_cons ?_ | with_reducible refine wgs_nil ?_)
  | (guard_target =~ Wi _ _ _ _ _ _ _; first | with_reducible refine wi_str ?_ | with_reducible refine wi_list ?_ | with_reducible refine wi_rngN ?_ | with_reducible refine wi_rng2 ?_)
  | (guard_target =~ Wo _ _ _ _ _ _ _; first | with_reducible refine wo_none ?_ | with_reducible refine wo_some ?_)
  | with_reducible refine dAdd_ii ?_
  | with_reducible refine dI_ii ?_
  | with_reducible refine dU_i ?_
  | with_reducible refine dEq_fi ?_
  | with_reducible refine dEq_ti ?_
  | with_reducible refine dEq_fs ?_
  | with_reducible refine dEq_ts ?_
  | with_reducible refine dEq_fb ?_
  | with_reducible refine dEq_tb ?_
  | with_reducible refine dEq_sn ?_
  | with_reducible refine dEq_ns ?_
  | with_reducible refine dEq_nn ?_
  | with_reducible refine dIn_fs ?_
  | with_reducible refine dIn_ts ?_
  | with_reducible refine dIn_fi ?_
  | with_reducible refine dIn_ti ?_
  | with_reducible refine dIn_tc ?_
  | with_reducible refine dIn_fc ?_
  | with_reducible refine dSl_l ?_
  | with_reducible refine dSl_q ?_
  | with_reducible refine dLen_l ?_
  | with_reducible refine dLen_q ?_
  | (guard_target =~ dLen [.ref _] _ _; with_reducible refine dLen_r (by first | exact um_same | assumption) ?_)
  | with_reducible refine ty_l ?_
  | with_reducible refine ty_s ?_
  | (guard_target =~ tyD _ "list" (.ref _) ∧ _; with_reducible refine ty_r (by first | exact um_same | assumption) ?_)
  | with_reducible refine dLen_t ?_
  | with_reducible refine dInt_i ?_
  | with_reducible refine dInt_b ?_
  | with_reducible refine dBool_i ?_
  | with_reducible refine dMax_ii ?_
  | with_reducible refine dMin_ii ?_
  | with_reducible refine dList_l ?_
  | with_reducible refine dIsN_s ?_
  | with_reducible refine dIsN_n ?_
  | with_reducible refine dIsN_i ?_
  | with_reducible refine bl_ex ?_
  | with_reducible refine tru_b ?_
  | with_reducible refine tru_i ?_
  | with_reducible refine tru_l ?_
  | with_reducible refine iteT ?_
  | with_reducible refine iteF ?_
  | with_reducible refine iteNT ?_
  | with_reducible refine iteNF ?_
  | with_reducible refine ⟨_, rfl, ?_⟩)
local macro_rules | `(tactic| walk_at "w") => `(tactic| repeat walk_at "s")

/-! ### Script.__init__ -/
theorem dList_is {μ : Mu} {d : D} {es : List D} {P : PD} (h : IsL μ d es) (p : P (.lst es) μ) : dListC [d] μ P := by
  cases d with
  | lst ds => exact (h.items (P := fun ds => P (.lst ds) μ) p : items μ (.lst ds) _)
  | sq ds => exact (h.items (P := fun ds => P (.lst ds) μ) p : items μ (.sq ds) _)
  | ref a => exact (h.items (P := fun ds => P (.lst ds) μ) p : items μ (.ref a) _)
  | _ => exact h.elim
abbrev cS (K : PySem.W.Frag) : Addr := cA K "Script"
abbrev nsS : List Str := ["inputs", "rows", "known"]
def nFault : List Str → List Str → Option (Str × Str)
  | _, [] => none
  | kn, n :: r => match nameFault kn n with
    | some z => some z
    | none => nFault (kn ++ [n]) r
def sFault : List Str → List (Str × Str) → Option (Str × Str)
  | _, [] => none
  | kn, s :: r => match rowFault kn s.1 s.2 with
    | some z => some z
    | none => sFault (kn ++ [s.1]) r
/-- the first fault of a script -/
def scrFault (names : List Str) (steps : List (Str × Str)) : Option (Str × Str) := match nFault ["none"] names with
  | some z => some z
  | none => sFault ("none" :: names) steps
abbrev rowsS (steps : List (Str × Str)) : List D := steps.map fun s => rowS s.1 s.2
def knownS (names : List Str) (steps : List (Str × Str)) : List Str := "none" :: (names ++ steps.map (·.1))
def sfs (names : List Str) (steps : List (Str × Str)) : List D := [.lst (strsD names), .lst (rowsS steps), .lst (strsD (knownS names steps))]
def sd_Script_init (K : PySem.W.Frag) : SpD := fun ds μ P X => ∃ (x : Addr) (nd sd : D) (names : List Str) (steps : List (Str × Str)), ds = [.ref x, nd, sd] ∧ μ x = some (.ins (cS K) [] []) ∧ IsL μ nd (strsD names) ∧ IsL μ sd (pairsD steps) ∧ names.length ≤ 1000 ∧ steps.length ≤ 1000 ∧ (∀ n ∈ names, n.length ≤ 90000) ∧ (∀ s ∈ steps, s.1.length ≤ 90000 ∧ s.2.length ≤ 90000) ∧
  (∀ c s, scrFault names steps = some (c, s) → X (.ref (cA K c)) (.str s) (dm μ x)) ∧ (scrFault names steps = none → P .non (um μ x (.ins (cS K) nsS (sfs names steps))))
abbrev N_Scriptu_initu : List Str := ["self", "names", "steps", "known", "name", "rows", "text"]
theorem sc_Scriptu_initu : FnScope N_Scriptu_initu ["self", "names", "steps"] (defScope s_Scriptu_initu) := ⟨rfl, rfl, rfl, by decide +kernel, rfl, by decide +kernel, by decide +kernel⟩
abbrev D_Scriptu_initu (K : PySem.W.Frag) : Prop := DM K (cA K "Script") "__init__" "Script.__init__" s_Scriptu_initu
theorem gm_Scriptu_initu {P : Program} {w : World} {K : PySem.W.Frag} {mg : Str → Option Value} {base : Heap} {k : Nat} {sp : Sp} (D : D_Scriptu_initu K) (cl : Cls K (cA K "Script")) (h : ∀ {f : Addr} {fd : FuncData}, FunD K "__init__" "Script.__init__" (defArgs s_Scriptu_initu) (defBody s_Scriptu_initu) (defScope s_Scriptu_initu) [] [] f fd → FnOk P w K mg base (L2.CX P w) k f fd ["self", "names", "steps"] sp) : GM P w K mg base (cA K "Script") "__init__" k ["self", "names", "steps"] sp := by
  obtain ⟨f, fd, h1, h2⟩ := D.ex
  exact ⟨cl, f, fd, h1, FunD.bindsN h2 fun _ _ _ _ _ _ us hl => match us, hl with | [_, _, _], _ => rfl, h h2⟩

section
variable {P : Program} {w : World} {K : PySem.W.Frag} {mg : Str → Option Value} {base : Heap}
theorem ok_Script_init (D : D_Scriptu_initu K) (Z : Zs mg) (c_NONE : ∃ t, mg "NONE" = some (.str tNONE t)) (cl : Cls K (cS K)) (n1 : NoAttr K (cS K) "inputs") (n2 : NoAttr K (cS K) "rows") (n3 : NoAttr K (cS K) "known") (G_check_new : GF P w K mg base "check_new" 3 ["name", "known"] (toSp K (sd_check_new K))) (G_step_row : GF P w K mg base "step_row" 4 ["name", "text", "known"] (toSp K (sd_step_row K))) :
    GM P w K mg base (cS K) "__init__" 5 ["self", "names", "steps"] (toSp K (sd_Script_init K)) := by
  obtain ⟨_, c_NONE⟩ := c_NONE
  refine gm_Scriptu_initu D cl fun F => fun_ok F sc_Scriptu_initu (fun ds μ P X h => ?_) fun cdv A outer s H E hr => ⟨_, (pss_cons (ps_set (i := 3) sc_Scriptu_initu.nd rfl (by first | exact Or.inl rfl | exact Or.inr rfl) (pe_lst (pa_cons (pe_globS c_NONE) pa_nil)))
    (pss_cons (ps_for po_def rfl (pi_listK (K := K) rfl (pv 1)) (pg_name (i := 4) sc_Scriptu_initu.nd rfl (by first | exact Or.inl rfl | exact Or.inr rfl))
      (pss_cons (ps_expr (pe_gf G_check_new (hr.mono (by decide)) tk_def (pa_cons (pv 4) (pa_cons (pv 3) pa_nil))))
        (pss_one (ps_expr (pe_bmK (K := K) rfl PySem.F.plainAttrs_list PySem.F.slot_list_append PySem.F.type_list_append mt_append (pv 3) (pa_cons (pv 4) pa_nil))))))
    (pss_cons (ps_set (i := 5) sc_Scriptu_initu.nd rfl (by first | exact Or.inl rfl | exact Or.inr rfl) (pe_lst pa_nil))
    (pss_cons (ps_for po_def rfl (pi_listK (K := K) rfl (pv 2)) (pg_tupK (K := K) rfl (n := 2) rfl (pgs_cons (pg_name (i := 4) sc_Scriptu_initu.nd rfl (by first | exact Or.inl rfl | exact Or.inr rfl)) (pgs_cons (pg_name (i := 6) sc_Scriptu_initu.nd rfl (by first | exact Or.inl rfl | exact Or.inr rfl)) pgs_nil)))
      (pss_cons (ps_expr (pe_bmK (K := K) rfl PySem.F.plainAttrs_list PySem.F.slot_list_append PySem.F.type_list_append mt_append (pv 5) (pa_cons (pe_gf G_step_row (hr.mono (by decide)) tk_def (pa_cons (pv 4) (pa_cons (pv 6) (pa_cons (pv 3) pa_nil)))) pa_nil)))
        (pss_one (ps_expr (pe_bmK (K := K) rfl PySem.F.plainAttrs_list PySem.F.slot_list_append PySem.F.type_list_append mt_append (pv 3) (pa_cons (pv 4) pa_nil))))))
    (pss_cons (ps_fldK (K := K) rfl (pv 0) (pe_callTy (call_listK (K := K) rfl) (by rfl) Z.z_list (by decide +kernel) (pa_cons (pv 1) pa_nil)))
    (pss_cons (ps_fldK (K := K) rfl (pv 0) (pv 5))
    (pss_one (ps_fldK (K := K) rfl (pv 0) (pv 3))))))))), fun ds μ Pd X h => ?_⟩
  · obtain ⟨x, nd, sd, names, steps, rfl, _⟩ := h; rfl
  · obtain ⟨x, nd, sd, names, steps, rfl, hx, hnd, hsd, hnl, hsl, hn, hs, hbad, hp⟩ := h
    show Ws K (wOf E) _ [some (.ref x), some nd, some sd, none, none, none, none] μ _
    refine ws_seq (ws_set (we_lstM ?_))
    walk_at "w"
    refine ⟨Nat.le_of_lt (szl 1 (by decide)), fun k hk0 => ?_⟩
    have xk : x ≠ k := mu_ne hx hk0
    have sub : ∀ l : List Nm.D, SubM (dm μ x) (um μ k (.lst l)) := fun l b c e => by
      by_cases q : b = x
      · rw [q, dm_same] at e; cases e
      · rw [dm_ne q] at e
        rw [um_ne (mu_ne e hk0)]
        exact e
    show Ws K (wOf E) _ [some (.ref x), some nd, some sd, some (.ref k), none, none, none] (um μ k (.lst (strsD ["none"]))) _
    refine ws_seq (ws_forL ?_)
    walk_at "w"
    refine ⟨strsD names, hnd.um_new hk0, ?_⟩
    refine ⟨fun i Γ' μ' => (∃ g4 g5 g6, Γ' = [some (.ref x), some nd, some sd, some (.ref k), g4, g5, g6]) ∧ μ' = um μ k (.lst (strsD ("none" :: names.take i))) ∧ nFault ["none"] names = nFault ("none" :: names.take i) (names.drop i), ⟨⟨_, _, _, rfl⟩, rfl, rfl⟩, ?_, ?_, ?_⟩
    · rintro i Γ' μ' ⟨_, rfl, _⟩
      exact hnd.um_new hk0
    · rintro i e Γ' μ' hi ⟨⟨g4, g5, g6, rfl⟩, rfl, hc⟩
      rw [List.getElem?_map] at hi
      obtain ⟨n, hni, rfl⟩ := Option.map_eq_some_iff.mp hi
      rw [drop_at hni] at hc
      walk_at "w"
      refine ⟨n, k, "none" :: names.take i, rfl, hn n (List.mem_of_getElem? hni), um_same, fun c s h => ?_, fun h => ?_⟩
      · have e : scrFault names steps = some (c, s) := by
          unfold scrFault
          rw [hc]
          show (match (match nameFault ("none" :: names.take i) n with
            | some z => some z
            | none => nFault ((tNONE :: names.take i) ++ [n]) (names.drop (i + 1))) with
            | some z => some z
            | none => sFault ("none" :: names) steps) = _
          rw [h]
        exact ⟨_, sub _, hbad c s e⟩
      · have hc2 : nFault ["none"] names = nFault ("none" :: names.take (i + 1)) (names.drop (i + 1)) := by
          rw [hc, take_succ hni]
          show (match nameFault ("none" :: names.take i) n with
            | some z => some z
            | none => nFault ((tNONE :: names.take i) ++ [n]) (names.drop (i + 1))) = _
          rw [h]
          rfl
        walk_at "w"
        refine dApp um_same (szl _ (by rw [List.length_map, List.length_cons, List.length_take]; omega)) ?_
        rw [um_um, strsD_app]
        refine Fo.of ⟨⟨_, _, _, rfl⟩, ?_, hc2⟩
        rw [take_succ hni]
        rfl
    · rintro Γ' μ' ⟨⟨g4, g5, g6, rfl⟩, rfl, hc⟩
      rw [List.length_map, List.take_length, List.drop_length] at hc
      rw [List.length_map, List.take_length]
      have hnone : nFault ["none"] names = none := hc
      have esf : scrFault names steps = sFault ("none" :: names) steps := by unfold scrFault; rw [hnone]
      show Ws K (wOf E) _ [some (.ref x), some nd, some sd, some (.ref k), g4, g5, g6] _ _
      refine ws_seq (ws_set (we_lstM ?_))
      walk_at "w"
      refine ⟨Nat.zero_le _, fun r hr0 => ?_⟩
      have kr : k ≠ r := mu_ne um_same hr0
      have hr1 : μ r = none := by rw [um_ne (Ne.symm kr)] at hr0; exact hr0
      have xr : x ≠ r := mu_ne hx hr1
      show Ws K (wOf E) _ [some (.ref x), some nd, some sd, some (.ref k), g4, some (.ref r), g6] (um (um μ k (.lst (strsD ("none" :: names)))) r (.lst (rowsS []))) _
      refine ws_seq (ws_forL ?_)
      walk_at "w"
      refine ⟨pairsD steps, (hsd.um_new hk0).um_new hr0, ?_⟩
      refine ⟨fun i Γ' μ' => (∃ g4 g6, Γ' = [some (.ref x), some nd, some sd, some (.ref k), g4, some (.ref r), g6]) ∧ μ' = um (um μ k (.lst (strsD ("none" :: (names ++ (steps.take i).map (·.1)))))) r (.lst (rowsS (steps.take i))) ∧ sFault ("none" :: names) steps = sFault ("none" :: (names ++ (steps.take i).map (·.1))) (steps.drop i), ⟨⟨_, _, rfl⟩, by rw [List.take_zero, List.map_nil, List.append_nil], by rw [List.take_zero, List.map_nil, List.append_nil, List.drop_zero]⟩, ?_, ?_, ?_⟩
      · rintro i Γ' μ' ⟨_, rfl, _⟩
        exact (hsd.um_new hk0).um_new (by rw [um_ne (Ne.symm kr)]; exact hr1)
      · rintro i e Γ' μ' hi ⟨⟨g4, g6, rfl⟩, rfl, hc⟩
        obtain ⟨s, hs0, rfl⟩ := pairs_get hi
        rw [drop_at hs0] at hc
        obtain ⟨sn, st⟩ := s
        obtain ⟨hs1, hs2⟩ := hs _ (List.mem_of_getElem? hs0)
        obtain ⟨kn, hkn⟩ : ∃ kn, kn = tNONE :: (names ++ (steps.take i).map (·.1)) := ⟨_, rfl⟩
        have hknx : tNONE :: (names ++ (steps.take (i + 1)).map (·.1)) = kn ++ [sn] := by
          rw [hkn, take_succ hs0]
          simp
        rw [show (("none" : Str) :: (names ++ (steps.take i).map (·.1))) = kn from hkn.symm] at hc ⊢
        have hkl : kn.length ≤ 3000 := by
          rw [hkn, List.length_cons, List.length_append, List.length_map, List.length_take]; omega
        replace hc : sFault ("none" :: names) steps = match rowFault kn sn st with
          | some z => some z
          | none => sFault (kn ++ [sn]) (steps.drop (i + 1)) := hc
        refine wg_tup rfl ?_
        walk_at "w"
        refine ⟨sn, st, k, kn, rfl, hs1, hs2, by rw [um_ne kr]; exact um_same, fun c s h => ?_, fun h => ?_⟩
        · rw [h] at hc
          rw [hc] at esf
          refine ⟨_, fun b z e => ?_, hbad c s esf⟩
          have e2 := sub (strsD kn) b z e
          rw [um_ne (fun q => by rw [q] at e2; rw [um_ne (Ne.symm kr), hr1] at e2; cases e2)]
          exact e2
        · rw [h] at hc
          walk_at "w"
          refine dApp um_same (szl _ (by rw [List.length_map, List.length_take]; omega)) ?_
          rw [um_um]
          walk_at "w"
          refine ty_r (ds := strsD kn) (by rw [um_ne kr]; exact um_same) ?_
          walk_at "w"
          refine dApp (l := k) (ds := strsD kn) ?_ (szl _ (by rw [List.length_map]; omega)) ?_
          · rw [um_ne kr]; exact um_same
          rw [um_swap (Ne.symm kr), strsD_app]
          refine Fo.of ⟨⟨_, _, rfl⟩, ?_, ?_⟩
          · rw [show (("none" : Str) :: (names ++ (steps.take (i + 1)).map (·.1))) = kn ++ [sn] from hknx, take_succ hs0]
            show um (um μ k _) r (.lst (rowsS (steps.take i) ++ [rowS sn st])) = um (um μ k _) r (.lst ((steps.take i ++ [(sn, st)]).map _))
            rw [List.map_append]
            rfl
          · rw [show (("none" : Str) :: (names ++ (steps.take (i + 1)).map (·.1))) = kn ++ [sn] from hknx]
            exact hc
      · rintro Γ' μ' ⟨⟨g4, g6, rfl⟩, rfl, hc⟩
        rw [List.length_map, List.take_length, List.drop_length] at hc
        rw [List.length_map, List.take_length]
        have hok : scrFault names steps = none := esf.trans hc
        replace hp := hp hok
        show Ws K (wOf E) _ [some (.ref x), some nd, some sd, some (.ref k), g4, some (.ref r), g6] _ _
        refine ws_freeze (i := 5) um_same rfl ?_
        rw [dm_um (by rw [um_ne (Ne.symm kr)]; exact hr1)]
        refine ws_freeze (i := 3) um_same rfl ?_
        rw [dm_um hk0]
        show Ws K (wOf E) _ [some (.ref x), some nd, some sd, some (.lst (strsD (knownS names steps))), g4, some (.lst (rowsS steps)), g6] μ _
        refine ws_seq (ws_fld (we_cb cbS_list ?_))
        walk_at "w"
        refine dList_is hnd ?_
        walk_at "w"
        refine ⟨x, cS K, [], [], rfl, hx, cl, n1, by decide, ?_⟩
        show Ws K (wOf E) _ [some (.ref x), some nd, some sd, some (.lst (strsD (knownS names steps))), g4, some (.lst (rowsS steps)), g6] (um μ x (.ins (cS K) ["inputs"] [.lst (strsD names)])) _
        walk_at "w"
        have p21 : ¬ (("inputs" : Str) = "rows") := by decide +kernel
        have p31 : ¬ (("inputs" : Str) = "known") := by decide +kernel
        have p32 : ¬ (("rows" : Str) = "known") := by decide +kernel
        have k2 : putK ("rows" : Str) [("inputs" : Str)] = [("inputs" : Str), ("rows" : Str)] := by
          show (if ("inputs" : Str) = "rows" then _ else _) = _
          rw [if_neg p21]; rfl
        have x2 : putX ("rows" : Str) (.lst (rowsS steps)) ["inputs"] [Nm.D.lst (strsD names)] = [Nm.D.lst (strsD names), .lst (rowsS steps)] := by
          show (if ("inputs" : Str) = "rows" then _ else _) = _
          rw [if_neg p21]; rfl
        have k3 : putK ("known" : Str) [("inputs" : Str), ("rows" : Str)] = nsS := by
          show (if ("inputs" : Str) = "known" then _ else ("inputs" : Str) :: (if ("rows" : Str) = "known" then _ else _)) = _
          rw [if_neg p31, if_neg p32]; rfl
        have x3 : putX ("known" : Str) (.lst (strsD (knownS names steps))) ["inputs", "rows"] [Nm.D.lst (strsD names), .lst (rowsS steps)] = sfs names steps := by
          show (if ("inputs" : Str) = "known" then _ else Nm.D.lst (strsD names) :: (if ("rows" : Str) = "known" then _ else _)) = _
          rw [if_neg p31, if_neg p32]; rfl
        refine ⟨x, cS K, _, _, rfl, um_same, cl, n2, by decide, ?_⟩
        rw [k2, x2, um_um]
        walk_at "w"
        refine ⟨x, cS K, _, _, rfl, um_same, cl, n3, by decide, ?_⟩
        rw [k3, x3, um_um]
        exact ret_of hp
end
end Nm
namespace Nm
open PySem PySem.Spec PyProof.Rows L2
local macro_rules | `(tactic| walk_at "s") => `(tactic| first
  | (guard_target =~ Ws _ _ _ _ _ _; first | with_reducible refine ws_seq ?_ | with_reducible refine ws_set ?_ | with_reducible refine ws_if ?_ | with_reducible refine ws_ret ?_ | with_reducible refine ws_asg ?_ | with_reducible refine ws_drop ?_ | with_reducible refine ws_next ?_ | with_reducible refine ws_for ?_ | with_reducible refine ws_brk ?_ | with_reducible refine ws_cont ?_ | with_reducible refine ws_retN ?_ | with_reducible refine ws_fld ?_)
  | (guard_target =~ Wa _ _ _ _ _ _ _; first | with_reducible refine wa_cons ?_ | with_reducible refine wa_nil ?_)
  | (guard_target =~ We _ _ _ _ _ _ _; first | (guard_target =~ We _ _ (tOp _ _ _) _ _ _ _; first | with_reducible refine we_op opS_add ?_ | with_reducible refine we_op opS_sub ?_ | with_reducible refine we_op opS_mul ?_ | with_reducible refine we_op opS_mod ?_ | with_reducible refine we_op opS_div ?_ | with_reducible refine we_op opS_ix ?_ | with_reducible refine we_op opS_eq ?_ | with_reducible refine we_op opS_ne ?_ | with_reducible refine we_op opS_lt ?_ | with_reducible refine we_op opS_le ?_ | with_reducible refine we_op opS_gt ?_ | with_reducible refine we_op opS_ge ?_ | with_reducible refine we_op opS_in ?_ | with_reducible refine we_op opS_notIn ?_ | with_reducible refine we_op opS_and ?_ | with_reducible refine we_op opS_or ?_ | with_reducible refine we_op opS_shr ?_ | with_reducible refine we_op opS_shl ?_ | with_reducible refine we_op opS_pow ?_ | with_reducible refine we_op opS_isN ?_ | with_reducible refine we_op opS_notN ?_ | with_reducible refine we_op opS_xor ?_) | (guard_target =~ We _ _ (tCB _ _) _ _ _ _; first | with_reducible refine we_cb cbS_len ?_ | with_reducible refine we_cb cbS_int ?_ | with_reducible refine we_cb cbS_bool ?_ | with_reducible refine we_cb cbS_max ?_ | with_reducible refine we_cb cbS_min ?_ | with_reducible refine we_cb cbS_isi ?_) | with_reducible refine we_var rfl ?_ | with_reducible refine we_int ?_ | with_reducible refine we_str ?_ | with_reducible refine we_bl ?_ | with_reducible refine we_non ?_ | with_reducible refine we_ty ?_ | with_reducible refine we_ref ?_ | with_reducible refine we_sl ?_ | with_reducible refine we_orT ?_ | with_reducible refine we_andT ?_ | with_reducible refine we_notT ?_ | with_reducible refine we_if ?_ | with_reducible refine we_tup ⟨?_, ?_⟩ | with_reducible refine we_tup ?_ | with_reducible refine we_fld ?_ | with_reducible refine we_call (dds := []) (fun _ => HasL.nil) ?_ | with_reducible refine we_call0 (dds := []) (fun _ => HasL.nil) ?_ | with_reducible refine we_meth (dds := []) (fun _ => HasL.nil) ?_ | with_reducible refine we_bm mS_append ?_ | with_reducible refine we_bm mS_extend ?_ | with_reducible refine we_bm0 mS_clear ?_ | with_reducible refine we_bm mS_indexS ?_ | with_reducible refine we_bm mS_join ?_ | with_reducible refine we_bm mS_split ?_ | with_reducible refine we_bm mS_part ?_ | with_reducible refine we_un unS_neg ?_ | with_reducible refine we_un unS_inv ?_)
  | (guard_target =~ Wt _ _ _ _ _ _ _; first | with_reducible refine wt_test ?_ | with_reducible refine wt_tr ?_ | with_reducible refine wt_not ?_ | with_reducible refine wt_and ?_ | with_reducible refine wt_or ?_ | with_reducible refine wt_val ?_ | with_reducible refine wt_yes ?_)
  | (guard_target =~ Wg _ _ _ _ _ _; first | with_reducible refine wg_name ?_)
  | (guard_target =~ Wgs _ _ _ _ _ _; first | with_reducible refine wgs_cons ?_ | with_reducible refine wgs_nil ?_)
  | (guard_target =~ Wi _ _ _ _ _ _ _; first | with_reducible refine wi_str ?_ | with_reducible refine wi_list ?_ | with_reducible refine wi_rngN ?_ | with_reducible refine wi_rng2 ?_)
  | (guard_target =~ Wo _ _ _ _ _ _ _; first | with_reducible refine wo_none ?_ | with_reducible refine wo_some ?_)
  | with_reducible refine dAdd_ii ?_
  | with_reducible refine dI_ii ?_
  | with_reducible refine dU_i ?_
  | with_reducible refine dEq_fi ?_
  | with_reducible refine dEq_ti ?_
  | with_reducible refine dEq_fs ?_
  | with_reducible refine dEq_ts ?_
  | with_reducible refine dEq_fb ?_
  | with_reducible refine dEq_tb ?_
  | with_reducible refine dEq_sn ?_
  | with_reducible refine dEq_ns ?_
  | with_reducible refine dEq_nn ?_
  | with_reducible refine dIn_fs ?_
  | with_reducible refine dIn_ts ?_
  | with_reducible refine dIn_fi ?_
  | with_reducible refine dIn_ti ?_
  | with_reducible refine dIn_tc ?_
  | with_reducible refine dIn_fc ?_
  | with_reducible refine dSl_l ?_
  | with_reducible refine dSl_q ?_
  | with_reducible refine dLen_l ?_
  | with_reducible refine dLen_q ?_
  | (guard_target =~ dLen [.ref _] _ _; with_reducible refine dLen_r (by first | exact um_same | assumption) ?_)
  | with_reducible refine ty_l ?_
  | with_reducible refine ty_s ?_
  | (guard_target =~ tyD _ "list" (.ref _) ∧ _; with_reducible refine ty_r (by first | exact um_same | assumption) ?_)
  | with_reducible refine dLen_t ?_
  | with_reducible refine dInt_i ?_
  | with_reducible refine dInt_b ?_
  | with_reducible refine dBool_i ?_
  | with_reducible refine dMax_ii ?_
  | with_reducible refine dMin_ii ?_
  | with_reducible refine dList_l ?_
  | with_reducible refine dIsN_s ?_
  | with_reducible refine dIsN_n ?_
  | with_reducible refine dIsN_i ?_
  | with_reducible refine bl_ex ?_
  | with_reducible refine tru_b ?_
  | with_reducible refine tru_i ?_
  | with_reducible refine tru_l ?_
  | with_reducible refine iteT ?_
  | with_reducible refine iteF ?_
  | with_reducible refine iteNT ?_
  | with_reducible refine iteNF ?_
  | with_reducible refine ⟨_, rfl, ?_⟩)
local macro_rules | `(tactic| walk_at "w") => `(tactic| repeat walk_at "s")

/-! ### Script.names, Script.steps, Script.operands, merged -/
/-- a script -/
def ScD (K : PySem.W.Frag) (μ : Mu) (d : D) (names : List Str) (steps : List (Str × Str)) : Prop := ob μ d fun _ k ns fs => k = cS K ∧ ns = nsS ∧ fs = sfs names steps
def sd_Script_names (K : PySem.W.Frag) : SpD := fun ds μ P _ => ∃ (d : D) (names : List Str) (steps : List (Str × Str)), ds = [d] ∧ ScD K μ d names steps ∧ ∀ p, μ p = none → P (.ref p) (um μ p (.lst (strsD names)))
def sd_Script_steps (K : PySem.W.Frag) : SpD := fun ds μ P _ => ∃ (d : D) (names : List Str) (steps : List (Str × Str)), ds = [d] ∧ ScD K μ d names steps ∧ steps.length ≤ 1000 ∧ ∀ p, μ p = none → P (.ref p) (um μ p (.lst (pairsD steps)))
theorem ScD.use {K : PySem.W.Frag} {μ : Mu} {d : D} {names : List Str} {steps : List (Str × Str)} {B : Addr → Addr → List Str → List D → Prop} (h : ScD K μ d names steps) (hB : ∀ a, B a (cS K) nsS (sfs names steps)) : ob μ d B := by
  obtain ⟨a, k, ns, fs, ⟨rfl, rfl, rfl⟩, use⟩ := ob_get h
  exact use _ (hB a)
abbrev N_merged : List Str := ["kind", "parts"]
theorem sc_merged : FnScope N_merged ["kind", "parts"] (defScope s_merged) := ⟨rfl, rfl, rfl, by decide +kernel, rfl, by decide +kernel, by decide +kernel⟩
abbrev D_merged (K : PySem.W.Frag) (mg : Str → Option Value) : Prop := DF K mg "merged" s_merged
theorem gf_merged {P : Program} {w : World} {K : PySem.W.Frag} {mg : Str → Option Value} {base : Heap} {k : Nat} {sp : Sp} (D : D_merged K mg) (h : ∀ {f : Addr} {fd : FuncData}, FunD K "merged" "merged" (defArgs s_merged) (defBody s_merged) (defScope s_merged) [] [] f fd → FnOk P w K mg base (L2.CX P w) k f fd ["kind", "parts"] sp) : GF P w K mg base "merged" k ["kind", "parts"] sp := by
  obtain ⟨f, fd, h1, h2⟩ := D.ex
  exact ⟨f, fd, h1, h2.kp, FunD.bindsN h2 fun _ _ _ _ _ _ us hl => match us, hl with | [_, _], _ => rfl, h h2⟩

abbrev N_Script_names : List Str := ["self"]
theorem sc_Script_names : FnScope N_Script_names ["self"] (defScope s_Script_names) := ⟨rfl, rfl, rfl, by decide +kernel, rfl, by decide +kernel, by decide +kernel⟩
abbrev D_Script_names (K : PySem.W.Frag) : Prop := DM K (cA K "Script") "names" "Script.names" s_Script_names
theorem gm_Script_names {P : Program} {w : World} {K : PySem.W.Frag} {mg : Str → Option Value} {base : Heap} {k : Nat} {sp : Sp} (D : D_Script_names K) (cl : Cls K (cA K "Script")) (h : ∀ {f : Addr} {fd : FuncData}, FunD K "names" "Script.names" (defArgs s_Script_names) (defBody s_Script_names) (defScope s_Script_names) [] [] f fd → FnOk P w K mg base (L2.CX P w) k f fd ["self"] sp) : GM P w K mg base (cA K "Script") "names" k ["self"] sp := by
  obtain ⟨f, fd, h1, h2⟩ := D.ex
  exact ⟨cl, f, fd, h1, FunD.bindsN h2 fun _ _ _ _ _ _ us hl => match us, hl with | [_], _ => rfl, h h2⟩

abbrev N_Script_steps : List Str := ["self", "name", "text", "kind", "parts"]
theorem sc_Script_steps : FnScope N_Script_steps ["self"] (defScope s_Script_steps) := ⟨rfl, rfl, rfl, by decide +kernel, rfl, by decide +kernel, by decide +kernel⟩
abbrev D_Script_steps (K : PySem.W.Frag) : Prop := DM K (cA K "Script") "steps" "Script.steps" s_Script_steps
theorem gm_Script_steps {P : Program} {w : World} {K : PySem.W.Frag} {mg : Str → Option Value} {base : Heap} {k : Nat} {sp : Sp} (D : D_Script_steps K) (cl : Cls K (cA K "Script")) (h : ∀ {f : Addr} {fd : FuncData}, FunD K "steps" "Script.steps" (defArgs s_Script_steps) (defBody s_Script_steps) (defScope s_Script_steps) [] [] f fd → FnOk P w K mg base (L2.CX P w) k f fd ["self"] sp) : GM P w K mg base (cA K "Script") "steps" k ["self"] sp := by
  obtain ⟨f, fd, h1, h2⟩ := D.ex
  exact ⟨cl, f, fd, h1, FunD.bindsN h2 fun _ _ _ _ _ _ us hl => match us, hl with | [_], _ => rfl, h h2⟩

abbrev N_Script_operands : List Str := ["text"]
theorem sc_Script_operands : FnScope N_Script_operands ["text"] (defScope s_Script_operands) := ⟨rfl, rfl, rfl, by decide +kernel, rfl, by decide +kernel, by decide +kernel⟩
abbrev D_Script_operands (K : PySem.W.Frag) : Prop := DM K (cA K "Script") "operands" "Script.operands" s_Script_operands
theorem gm_Script_operands {P : Program} {w : World} {K : PySem.W.Frag} {mg : Str → Option Value} {base : Heap} {k : Nat} {sp : Sp} (D : D_Script_operands K) (cl : Cls K (cA K "Script")) (h : ∀ {f : Addr} {fd : FuncData}, FunD K "operands" "Script.operands" (defArgs s_Script_operands) (defBody s_Script_operands) (defScope s_Script_operands) [] [] f fd → FnOk P w K mg base (L2.CX P w) k f fd ["text"] sp) : GM P w K mg base (cA K "Script") "operands" k ["text"] sp := by
  obtain ⟨f, fd, h1, h2⟩ := D.ex
  exact ⟨cl, f, fd, h1, FunD.bindsN h2 fun _ _ _ _ _ _ us hl => match us, hl with | [_], _ => rfl, h h2⟩

def sd_merged : SpD := fun ds μ P _ => ∃ (kind a b c : Str), ds = [.str kind, .lst (strsD [a, b, c])] ∧ P (.lst (strsD (if kind = "merge" then [a, b, c] else [c, b, a]))) μ
section
variable {P : Program} {w : World} {K : PySem.W.Frag} {mg : Str → Option Value} {base : Heap}
theorem ok_merged (D : D_merged K mg) (Z : Zs mg) : GF P w K mg base "merged" 1 ["kind", "parts"] (toSp K sd_merged) := by
  refine gf_merged D fun F => fun_ok F sc_merged (fun ds μ P X h => ?_) fun cdv A outer s H E hr => ⟨_, (pss_one (ps_ret (pe_ifExp (pt_cmpR (op_eqK (K := K) rfl hr.units) (pv 0) pe_str (nomark _)) (pv 1) (pe_lst (pa_cons (pe_ix (ix_seqK (K := K) rfl) (pv 1) pe_int (fun _ _ => rfl)) (pa_cons (pe_ix (ix_seqK (K := K) rfl) (pv 1) pe_int (fun _ _ => rfl)) (pa_cons (pe_ix (ix_seqK (K := K) rfl) (pv 1) pe_int (fun _ _ => rfl)) pa_nil))))))), fun ds μ Pd X h => ?_⟩
  · obtain ⟨kind, a, b, c, rfl, _⟩ := h; rfl
  · obtain ⟨kind, a, b, c, rfl, hp⟩ := h
    have sl : ∀ n, n ≤ 100000 → n ≤ sizeLine := fun n h => Nat.le_of_lt (szl n h)
    show Ws K (wOf E) _ [some (.str kind), some (.lst (strsD [a, b, c]))] μ _
    walk_at "w"
    refine iteD (fun h => ?_) (fun h => ?_)
    · rw [if_pos h] at hp
      walk_at "w"
      exact ret_of hp
    · rw [if_neg h] at hp
      refine we_lst ?_
      walk_at "w"
      refine dIx_l (atI_nat (j := 2) (show (strsD [a, b, c])[2]? = some (.str c) from rfl)) ?_
      walk_at "w"
      refine dIx_l (atI_nat (j := 1) (show (strsD [a, b, c])[1]? = some (.str b) from rfl)) ?_
      walk_at "w"
      refine dIx_l (atI_nat (j := 0) (show (strsD [a, b, c])[0]? = some (.str a) from rfl)) ?_
      walk_at "w"
      exact ⟨sl 3 (by decide), ret_of hp⟩
theorem ok_Script_names (Z : Zs mg) (cl : Cls K (cS K)) (n1 : NoAttr K (cS K) "inputs") {f : Addr} {fd : FuncData} (F : FunD K "names" "Script.names" (defArgs s_Script_names) (defBody s_Script_names) (defScope s_Script_names) [] [] f fd) :
    FnOk P w K mg base (L2.CX P w) 1 f fd ["self"] (toSp K (sd_Script_names K)) := by
  refine fun_ok F sc_Script_names (fun ds μ P X h => ?_) fun cdv A outer s H E hr => ⟨_, (pss_one (ps_ret (pe_callTy (call_listK (K := K) rfl) (by rfl) Z.z_list (by decide +kernel) (pa_cons (pe_fldK (K := K) rfl (pv 0)) pa_nil)))), fun ds μ Pd X h => ?_⟩
  · obtain ⟨d, names, steps, rfl, _⟩ := h; rfl
  · obtain ⟨d, names, steps, rfl, hw, hp⟩ := h
    show Ws K (wOf E) _ [some d] μ _
    refine ws_ret (we_cb cbS_listM ?_)
    walk_at "w"
    refine hw.use fun a => ⟨cl, n1, _, zl0, ?_⟩
    walk_at "w"
    exact dListM_l fun p hp0 => ret_of (hp p hp0)
theorem ok_Script_steps (Z : Zs mg) (cl : Cls K (cS K)) (n2 : NoAttr K (cS K) "rows") {f : Addr} {fd : FuncData} (F : FunD K "steps" "Script.steps" (defArgs s_Script_steps) (defBody s_Script_steps) (defScope s_Script_steps) [] [] f fd) :
    FnOk P w K mg base (L2.CX P w) 1 f fd ["self"] (toSp K (sd_Script_steps K)) := by
  refine fun_ok F sc_Script_steps (fun ds μ P X h => ?_) fun cdv A outer s H E hr => ⟨_, (pss_one (ps_ret (pe_lc (own := [("name", 1), ("text", 2), ("kind", 3), ("parts", 4)]) rfl sc_Script_steps.nd (pi_listK (K := K) rfl (pe_fldK (K := K) rfl (pv 0))) (blkOk_by (own := [("name", 1), ("text", 2), ("kind", 3), ("parts", 4)]) (N := N_Script_steps) (sc := defScope s_Script_steps) (by decide +kernel)) (fun _ _ _ _ _ => (pg_tupK (K := K) rfl (n := 4) rfl (pgs_cons (pg_name (i := 1) sc_Script_steps.nd rfl (by first | exact Or.inl rfl | exact Or.inr rfl)) (pgs_cons (pg_name (i := 2) sc_Script_steps.nd rfl (by first | exact Or.inl rfl | exact Or.inr rfl)) (pgs_cons (pg_name (i := 3) sc_Script_steps.nd rfl (by first | exact Or.inl rfl | exact Or.inr rfl)) (pgs_cons (pg_name (i := 4) sc_Script_steps.nd rfl (by first | exact Or.inl rfl | exact Or.inr rfl)) pgs_nil)))))) (fun _ _ _ _ _ => pts_nil) (fun _ _ _ _ _ => (pe_tup (pa_cons (pv 1) (pa_cons (pv 2) pa_nil))))))), fun ds μ Pd X h => ?_⟩
  · obtain ⟨d, names, steps, rfl, _⟩ := h; rfl
  · obtain ⟨d, names, steps, rfl, hw, hsl, hp⟩ := h
    have e21 : (("rows" : Str) == "inputs") = false := by decide +kernel
    show Ws K (wOf E) _ [some d, none, none, none, none] μ _
    refine ws_ret (we_lcM (own_tup (owns_cons (by simp) (owns_cons (by simp) (owns_cons (by simp) (owns_cons (by simp) owns_nil))))) ?_)
    walk_at "w"
    refine hw.use fun a => ⟨cl, n2, _, zlS e21 zl0, ?_⟩
    walk_at "w"
    refine ⟨_, .inl rfl, fun i acc μ4 => μ4 = μ ∧ acc = pairsD (steps.take i), ⟨rfl, rfl⟩, ?_, by rw [List.length_map]; exact szl _ (by omega), ?_, ?_⟩
    · rintro i acc μ4 ⟨_, rfl⟩
      rw [List.length_map, List.length_take]; exact Nat.min_le_left _ _
    · rintro i e acc μ4 hi ⟨rfl, rfl⟩
      rw [List.getElem?_map] at hi
      obtain ⟨s, hs, rfl⟩ := Option.map_eq_some_iff.mp hi
      refine wg_tup rfl ?_
      walk_at "w"
      refine ⟨Nat.le_of_lt (szl 2 (by decide)), rfl, ?_⟩
      rw [take_succ hs]
      exact (List.map_append (f := pairD) (l₁ := steps.take i) (l₂ := [s])).symm
    · rintro acc μ4 ⟨rfl, rfl⟩ p hp0
      rw [List.length_map, List.take_length]
      exact ret_of (hp p hp0)
theorem ok_Script_operands (Z : Zs mg) (G_step_parts : GF P w K mg base "step_parts" 3 ["text"] (toSp K (sd_step_parts K))) {f : Addr} {fd : FuncData} (F : FunD K "operands" "Script.operands" (defArgs s_Script_operands) (defBody s_Script_operands) (defScope s_Script_operands) [] [] f fd) :
    FnOk P w K mg base (L2.CX P w) 4 f fd ["text"] (toSp K (sd_step_parts K)) := by
  refine fun_ok F sc_Script_operands (fun ds μ P X h => ?_) fun cdv A outer s H E hr => ⟨_, (pss_one (ps_ret (pe_gf G_step_parts (hr.mono (by decide)) tk_def (pa_cons (pv 0) pa_nil)))), fun ds μ Pd X h => ?_⟩
  · obtain ⟨text, rfl, _⟩ := h; rfl
  · obtain ⟨text, rfl, hl, hp, hx⟩ := h
    show Ws K (wOf E) _ [some (.str text)] μ _
    walk_at "w"
    exact ⟨text, rfl, hl, fun ps h => ret_of (hp ps h), fun h => retX_of (hx h)⟩
end
end Nm
namespace Nm
open PySem PySem.Spec PyProof.Rows L2
local macro_rules | `(tactic| walk_at "s") => `(tactic| first
  | (guard_target =~ Ws _ _ _ _ _ _; first | with_reducible refine ws_seq ?_ | with_reducible refine ws_set ?_ | with_reducible refine ws_if ?_ | with_reducible refine ws_ret ?_ | with_reducible refine ws_asg ?_ | with_reducible refine ws_drop ?_ | with_reducible refine ws_next ?_ | with_reducible refine ws_for ?_ | with_reducible refine ws_brk ?_ | with_reducible refine ws_cont ?_ | with_reducible refine ws_retN ?_ | with_reducible refine ws_fld ?_)
  | (guard_target =~ Wa _ _ _ _ _ _ _; first | with_reducible refine wa_cons ?_ | with_reducible refine wa_nil ?_)
  | (guard_target =~ We _ _ _ _ _ _ _; first | (guard_target =~ We _ _ (tOp _ _ _) _ _ _ _; first | with_reducible refine we_op opS_add ?_ | with_reducible refine we_op opS_sub ?_ | with_reducible refine we_op opS_mul ?_ | with_reducible refine we_op opS_mod ?_ | with_reducible refine we_op opS_div ?_ | with_reducible refine we_op opS_ix ?_ | with_reducible refine we_op opS_eq ?_ | with_reducible refine we_op opS_ne ?_ | with_reducible refine we_op opS_lt ?_ | with_reducible refine we_op opS_le ?_ | with_reducible refine we_op opS_gt ?_ | with_reducible refine we_op opS_ge ?_ | with_reducible refine we_op opS_in ?_ | with_reducible refine we_op opS_notIn ?_ | with_reducible refine we_op opS_and ?_ | with_reducible refine we_op opS_or ?_ | with_reducible refine we_op opS_shr ?_ | with_reducible refine we_op opS_shl ?_ | with_reducible refine we_op opS_pow ?_ | with_reducible refine we_op opS_isN ?_ | with_reducible refine we_op opS_notN ?_ | with_reducible refine we_op opS_xor ?_) | (guard_target =~ We _ _ (tCB _ _) _ _ _ _; first | with_reducible refine we_cb cbS_len ?_ | with_reducible refine we_cb cbS_int ?_ | with_reducible refine we_cb cbS_bool ?_ | with_reducible refine we_cb cbS_max ?_ | with_reducible refine we_cb cbS_min ?_ | with_reducible refine we_cb cbS_isi ?_) | with_reducible refine we_var rfl ?_ | with_reducible refine we_int ?_ | with_reducible refine we_str ?_ | with_reducible refine we_bl ?_ | with_reducible refine we_non ?_ | with_reducible refine we_ty ?_ | with_reducible refine we_ref ?_ | with_reducible refine we_sl ?_ | with_reducible refine we_orT ?_ | with_reducible refine we_andT ?_ | with_reducible refine we_notT ?_ | with_reducible refine we_if ?_ | with_reducible refine we_tup ⟨?_, ?_⟩ | with_reducible refine we_tup ?_ | with_reducible refine we_fld ?_ | with_reducible refine we_call (dds := []) (fun _ => HasL.nil) ?_ | with_reducible refine we_call0 (dds := []) (fun _ => HasL.nil) ?_ | with_reducible refine we_meth (dds := []) (fun _ => HasL.nil) ?_ | with_reducible refine we_bm mS_append ?_ | with_reducible refine we_bm mS_extend ?_ | with_reducible refine we_bm0 mS_clear ?_ | with_reducible refine we_bm mS_indexS ?_ | with_reducible refine we_bm mS_join ?_ | with_reducible refine we_bm mS_split ?_ | with_reducible refine we_bm mS_part ?_ | with_reducible refine we_un unS_neg ?_ | with_reducible refine we_un unS_inv ?_)
  | (guard_target =~ Wt _ _ _ _ _ _ _; first | with_reducible refine wt_test ?_ | with_reducible refine wt_tr ?_ | with_reducible refine wt_not ?_ | with_reducible refine wt_and ?_ | with_reducible refine wt_or ?_ | with_reducible refine wt_val ?_ | with_reducible refine wt_yes ?_)
  | (guard_target =~ Wg _ _ _ _ _ _; first | with_reducible refine wg_name ?_)
  | (guard_target =~ Wgs _ _ _ _ _ _; first | with_reducible refine wgs_cons ?_ | with_reducible refine wgs_nil ?_)
  | (guard_target =~ Wi _ _ _ _ _ _ _; first | with_reducible refine wi_str ?_ | with_reducible refine wi_list ?_ | with_reducible refine wi_rngN ?_ | with_reducible refine wi_rng2 ?_)
  | (guard_target =~ Wo _ _ _ _ _ _ _; first | with_reducible refine wo_none ?_ | with_reducible refine wo_some ?_)
  | with_reducible refine dAdd_ii ?_
  | with_reducible refine dI_ii ?_
  | with_reducible refine dU_i ?_
  | with_reducible refine dEq_fi ?_
  | with_reducible refine dEq_ti ?_
  | with_reducible refine dEq_fs ?_
  | with_reducible refine dEq_ts ?_
  | with_reducible refine dEq_fb ?_
  | with_reducible refine dEq_tb ?_
  | with_reducible refine dEq_sn ?_
  | with_reducible refine dEq_ns ?_
  | with_reducible refine dEq_nn ?_
  | with_reducible refine dIn_fs ?_
  | with_reducible refine dIn_ts ?_
  | with_reducible refine dIn_fi ?_
  | with_reducible refine dIn_ti ?_
  | with_reducible refine dIn_tc ?_
  | with_reducible refine dIn_fc ?_
  | with_reducible refine dSl_l ?_
  | with_reducible refine dSl_q ?_
  | with_reducible refine dLen_l ?_
  | with_reducible refine dLen_q ?_
  | (guard_target =~ dLen [.ref _] _ _; with_reducible refine dLen_r (by first | exact um_same | assumption) ?_)
  | with_reducible refine ty_l ?_
  | with_reducible refine ty_s ?_
  | (guard_target =~ tyD _ "list" (.ref _) ∧ _; with_reducible refine ty_r (by first | exact um_same | assumption) ?_)
  | with_reducible refine dLen_t ?_
  | with_reducible refine dInt_i ?_
  | with_reducible refine dInt_b ?_
  | with_reducible refine dBool_i ?_
  | with_reducible refine dMax_ii ?_
  | with_reducible refine dMin_ii ?_
  | with_reducible refine dList_l ?_
  | with_reducible refine dIsN_s ?_
  | with_reducible refine dIsN_n ?_
  | with_reducible refine dIsN_i ?_
  | with_reducible refine bl_ex ?_
  | with_reducible refine tru_b ?_
  | with_reducible refine tru_i ?_
  | with_reducible refine tru_l ?_
  | with_reducible refine iteT ?_
  | with_reducible refine iteF ?_
  | with_reducible refine iteNT ?_
  | with_reducible refine iteNF ?_
  | with_reducible refine ⟨_, rfl, ?_⟩)
local macro_rules | `(tactic| walk_at "w") => `(tactic| repeat walk_at "s")

/-! ### step_gains -/
/-- the pairs whose gains a step takes -/
def gainsS (kind : Str) (ps : List Str) : List (Str × Str) :=
  if kind = "join" ∨ kind = "cut" then [] else if kind = "gain" ∨ kind = "pick" then [(ps.getD 0 "", ps.getD 1 "")]
  else if kind = "merge" then [(ps.getD 0 "", ps.getD 2 ""), (ps.getD 1 "", ps.getD 2 "")] else [(ps.getD 2 "", ps.getD 0 ""), (ps.getD 1 "", ps.getD 0 "")]
/-- as many operands as the kind asks -/
def fitK (kind : Str) (ps : List Str) : Prop := kind = "join" ∨ kind = "cut" ∨ ((kind = "gain" ∨ kind = "pick") ∧ 2 ≤ ps.length) ∨ (¬ (kind = "gain" ∨ kind = "pick") ∧ ps.length = 3)
def sd_step_gains : SpD := fun ds μ P _ => ∃ (kind : Str) (ps : List Str), ds = [.str kind, .lst (strsD ps)] ∧ fitK kind ps ∧ P (.lst (pairsD (gainsS kind ps))) μ
abbrev N_step_gains : List Str := ["kind", "parts", "one", "two", "base"]
theorem sc_step_gains : FnScope N_step_gains ["kind", "parts"] (defScope s_step_gains) := ⟨rfl, rfl, rfl, by decide +kernel, rfl, by decide +kernel, by decide +kernel⟩
abbrev D_step_gains (K : PySem.W.Frag) (mg : Str → Option Value) : Prop := DF K mg "step_gains" s_step_gains
theorem gf_step_gains {P : Program} {w : World} {K : PySem.W.Frag} {mg : Str → Option Value} {base : Heap} {k : Nat} {sp : Sp} (D : D_step_gains K mg) (h : ∀ {f : Addr} {fd : FuncData}, FunD K "step_gains" "step_gains" (defArgs s_step_gains) (defBody s_step_gains) (defScope s_step_gains) [] [] f fd → FnOk P w K mg base (L2.CX P w) k f fd ["kind", "parts"] sp) : GF P w K mg base "step_gains" k ["kind", "parts"] sp := by
  obtain ⟨f, fd, h1, h2⟩ := D.ex
  exact ⟨f, fd, h1, h2.kp, FunD.bindsN h2 fun _ _ _ _ _ _ us hl => match us, hl with | [_, _], _ => rfl, h h2⟩

section
variable {P : Program} {w : World} {K : PySem.W.Frag} {mg : Str → Option Value} {base : Heap}
theorem ok_step_gains (D : D_step_gains K mg) (Z : Zs mg) (G_merged : GF P w K mg base "merged" 1 ["kind", "parts"] (toSp K sd_merged)) : GF P w K mg base "step_gains" 2 ["kind", "parts"] (toSp K sd_step_gains) := by
  refine gf_step_gains D fun F => fun_ok F sc_step_gains (fun ds μ P X h => ?_) fun cdv A outer s H E hr => ⟨_, (pss_cons (ps_if (PW.pt (pw_or (pt_cmpR (op_eqK (K := K) rfl hr.units) (pv 0) pe_str (nomark _)) (pw_or1 (pt_cmpR (op_eqK (K := K) rfl hr.units) (pv 0) pe_str (nomark _)))))
      (pss_one (ps_ret (pe_lst pa_nil)))
      pss_nil)
    (pss_cons (ps_if (PW.pt (pw_or (pt_cmpR (op_eqK (K := K) rfl hr.units) (pv 0) pe_str (nomark _)) (pw_or1 (pt_cmpR (op_eqK (K := K) rfl hr.units) (pv 0) pe_str (nomark _)))))
      (pss_one (ps_ret (pe_lst (pa_cons (pe_tup (pa_cons (pe_ix (ix_seqK (K := K) rfl) (pv 1) pe_int (fun _ _ => rfl)) (pa_cons (pe_ix (ix_seqK (K := K) rfl) (pv 1) pe_int (fun _ _ => rfl)) pa_nil))) pa_nil))))
      pss_nil)
    (pss_cons (ps_asg (pe_gf G_merged (hr.mono (by decide)) tk_def (pa_cons (pv 0) (pa_cons (pv 1) pa_nil))) (pg_unlK (K := K) rfl (n := 3) rfl (pgs_cons (pg_name (i := 2) sc_step_gains.nd rfl (by first | exact Or.inl rfl | exact Or.inr rfl)) (pgs_cons (pg_name (i := 3) sc_step_gains.nd rfl (by first | exact Or.inl rfl | exact Or.inr rfl)) (pgs_cons (pg_name (i := 4) sc_step_gains.nd rfl (by first | exact Or.inl rfl | exact Or.inr rfl)) pgs_nil)))))
    (pss_one (ps_ret (pe_lst (pa_cons (pe_tup (pa_cons (pv 2) (pa_cons (pv 4) pa_nil))) (pa_cons (pe_tup (pa_cons (pv 3) (pa_cons (pv 4) pa_nil))) pa_nil)))))))), fun ds μ Pd X h => ?_⟩
  · obtain ⟨kind, ps, rfl, _⟩ := h; rfl
  · obtain ⟨kind, ps, rfl, hf, hp⟩ := h
    have sl : ∀ n, n ≤ 100000 → n ≤ sizeLine := fun n h => Nat.le_of_lt (szl n h)
    show Ws K (wOf E) _ [some (.str kind), some (.lst (strsD ps)), none, none, none] μ _
    unfold gainsS at hp
    walk_at "w"
    refine iteD (fun k1 => ?_) (fun k1 => ?_)
    · rw [if_pos (Or.inl k1)] at hp
      refine iteT ?_
      walk_at "w"
      refine we_lst ?_
      walk_at "w"
      exact ⟨sl 0 (by decide), ret_of hp⟩
    walk_at "w"
    refine iteD (fun k2 => ?_) (fun k2 => ?_)
    · rw [if_pos (Or.inr k2)] at hp
      walk_at "w"
      refine we_lst ?_
      walk_at "w"
      exact ⟨sl 0 (by decide), ret_of hp⟩
    have k12 : ¬ (kind = "join" ∨ kind = "cut") := fun h => h.elim k1 k2
    rw [if_neg k12] at hp
    have hf2 : ((kind = "gain" ∨ kind = "pick") ∧ 2 ≤ ps.length) ∨ (¬ (kind = "gain" ∨ kind = "pick") ∧ ps.length = 3) := by
      rcases hf with h | h | h
      · exact absurd h k1
      · exact absurd h k2
      · exact h
    walk_at "w"
    refine iteD (fun k3 => ?_) (fun k3 => ?_)
    · rw [if_pos (Or.inl k3)] at hp
      have h2 : 2 ≤ ps.length := by
        rcases hf2 with h | h
        · exact h.2
        · exact absurd (Or.inl k3) h.1
      refine iteT ?_
      walk_at "w"
      obtain ⟨p0, p1, rest, rfl⟩ : ∃ p0 p1 rest, ps = p0 :: p1 :: rest := by
        match ps, h2 with
        | a :: b :: r, _ => exact ⟨a, b, r, rfl⟩
      refine we_lst ?_
      walk_at "w"
      refine dIx_l (atI_nat (j := 0) (show (strsD (p0 :: p1 :: rest))[0]? = some (.str p0) from rfl)) ?_
      walk_at "w"
      refine dIx_l (atI_nat (j := 1) (show (strsD (p0 :: p1 :: rest))[1]? = some (.str p1) from rfl)) ?_
      walk_at "w"
      refine ⟨sl 2 (by decide), ?_⟩
      walk_at "w"
      exact ⟨sl 1 (by decide), ret_of hp⟩
    walk_at "w"
    refine iteD (fun k4 => ?_) (fun k4 => ?_)
    · rw [if_pos (Or.inr k4)] at hp
      have h2 : 2 ≤ ps.length := by
        rcases hf2 with h | h
        · exact h.2
        · exact absurd (Or.inr k4) h.1
      walk_at "w"
      obtain ⟨p0, p1, rest, rfl⟩ : ∃ p0 p1 rest, ps = p0 :: p1 :: rest := by
        match ps, h2 with
        | a :: b :: r, _ => exact ⟨a, b, r, rfl⟩
      refine we_lst ?_
      walk_at "w"
      refine dIx_l (atI_nat (j := 0) (show (strsD (p0 :: p1 :: rest))[0]? = some (.str p0) from rfl)) ?_
      walk_at "w"
      refine dIx_l (atI_nat (j := 1) (show (strsD (p0 :: p1 :: rest))[1]? = some (.str p1) from rfl)) ?_
      walk_at "w"
      refine ⟨sl 2 (by decide), ?_⟩
      walk_at "w"
      exact ⟨sl 1 (by decide), ret_of hp⟩
    have k34 : ¬ (kind = "gain" ∨ kind = "pick") := fun h => h.elim k3 k4
    rw [if_neg k34] at hp
    have h3 : ps.length = 3 := by
      rcases hf2 with h | h
      · exact absurd h.1 k34
      · exact h.2
    obtain ⟨a, b, c, rfl⟩ : ∃ a b c, ps = [a, b, c] := by
      match ps, h3 with
      | [a, b, c], _ => exact ⟨a, b, c, rfl⟩
    walk_at "w"
    refine ⟨kind, a, b, c, rfl, ?_⟩
    have key : ∀ x y z : Str, Pd (.lst (pairsD [(x, z), (y, z)])) μ → Wg K (gUnl K 3 (gCons (gName 2) (gCons (gName 3) (gCons (gName 4) gNil)))) (.lst (strsD [x, y, z])) [some (Nm.D.str kind), some (Nm.D.lst (strsD [a, b, c])), none, none, none] μ fun Γ' μ' =>
        Ws K (wOf E) (tRet (tLst (tCons (tTup (tCons (tVar 2) (tCons (tVar 4) tNil))) (tCons (tTup (tCons (tVar 3) (tCons (tVar 4) tNil))) tNil)))) Γ' μ' (retE Pd X) := by
      intro x y z h
      refine wg_unl ⟨rfl, ?_⟩
      show Wgs K _ [.str x, .str y, .str z] _ μ _
      walk_at "w"
      refine we_lst ?_
      walk_at "w"
      refine ⟨sl 2 (by decide), ?_⟩
      walk_at "w"
      refine ⟨sl 2 (by decide), ?_⟩
      walk_at "w"
      exact ⟨sl 2 (by decide), ret_of h⟩
    by_cases km : kind = "merge"
    · rw [if_pos km] at hp ⊢
      exact key a b c hp
    · rw [if_neg km] at hp ⊢
      exact key c b a hp
end
end Nm
namespace Nm
open PySem PySem.Spec PyProof.Rows L2
local macro_rules | `(tactic| walk_at "s") => `(tactic| first
  | (guard_target =~ Ws _ _ _ _ _ _; first | with_reducible refine ws_seq ?_ | with_reducible refine ws_set ?_ | with_reducible refine ws_if ?_ | with_reducible refine ws_ret ?_ | with_reducible refine ws_asg ?_ | with_reducible refine ws_drop ?_ | with_reducible refine ws_next ?_ | with_reducible refine ws_for ?_ | with_reducible refine ws_brk ?_ | with_reducible refine ws_cont ?_ | with_reducible refine ws_retN ?_ | with_reducible refine ws_fld ?_)
  | (guard_target =~ Wa _ _ _ _ _ _ _; first | with_reducible refine wa_cons ?_ | with_reducible refine wa_nil ?_)
  | (guard_target =~ We _ _ _ _ _ _ _; first | (guard_target =~ We _ _ (tOp _ _ _) _ _ _ _; first | with_reducible refine we_op opS_add ?_ | with_reducible refine we_op opS_sub ?_ | with_reducible refine we_op opS_mul ?_ | with_reducible refine we_op opS_mod ?_ | with_reducible refine we_op opS_div ?_ | with_reducible refine we_op opS_ix ?_ | with_reducible refine we_op opS_eq ?_ | with_reducible refine we_op opS_ne ?_ | with_reducible refine we_op opS_lt ?_ | with_reducible refine we_op opS_le ?_ | with_reducible refine we_op opS_gt ?_ | with_reducible refine we_op opS_ge ?_ | with_reducible refine we_op opS_in ?_ | with_reducible refine we_op opS_notIn ?_ | with_reducible refine we_op opS_and ?_ | with_reducible refine we_op opS_or ?_ | with_reducible refine we_op opS_shr ?_ | with_reducible refine we_op opS_shl ?_ | with_reducible refine we_op opS_pow ?_ | with_reducible refine we_op opS_isN ?_ | with_reducible refine we_op opS_notN ?_ | with_reducible refine we_op opS_xor ?_) | (guard_target =~ We _ _ (tCB _ _) _ _ _ _; first | with_reducible refine we_cb cbS_len ?_ | with_reducible refine we_cb cbS_int ?_ | with_reducible refine we_cb cbS_bool ?_ | with_reducible refine we_cb cbS_max ?_ | with_reducible refine we_cb cbS_min ?_ | with_reducible refine we_cb cbS_isi ?_) | with_reducible refine we_var rfl ?_ | with_reducible refine we_int ?_ | with_reducible refine we_str ?_ | with_reducible refine we_bl ?_ | with_reducible refine we_non ?_ | with_reducible refine we_ty ?_ | with_reducible refine we_ref ?_ | with_reducible refine we_sl ?_ | with_reducible refine we_orT ?_ | with_reducible refine we_andT ?_ | with_reducible refine we_notT ?_ | with_reducible refine we_if ?_ | with_reducible refine we_tup ⟨?_, ?_⟩ | with_reducible refine we_tup ?_ | with_reducible refine we_fld ?_ | with_reducible refine we_call (dds := []) (fun _ => HasL.nil) ?_ | with_reducible refine we_call0 (dds := []) (fun _ => HasL.nil) ?_ | with_reducible refine we_meth (dds := []) (fun _ => HasL.nil) ?_ | with_reducible refine we_bm mS_append ?_ | with_reducible refine we_bm mS_extend ?_ | with_reducible refine we_bm0 mS_clear ?_ | with_reducible refine we_bm mS_indexS ?_ | with_reducible refine we_bm mS_join ?_ | with_reducible refine we_bm mS_split ?_ | with_reducible refine we_bm mS_part ?_ | with_reducible refine we_un unS_neg ?_ | with_reducible refine we_un unS_inv ?_)
  | (guard_target =~ Wt _ _ _ _ _ _ _; first | with_reducible refine wt_test ?_ | with_reducible refine wt_tr ?_ | with_reducible refine wt_not ?_ | with_reducible refine wt_and ?_ | with_reducible refine wt_or ?_ | with_reducible refine wt_val ?_ | with_reducible refine wt_yes ?_)
  | (guard_target =~ Wg _ _ _ _ _ _; first | with_reducible refine wg_name ?_)
  | (guard_target =~ Wgs _ _ _ _ _ _; first | with_reducible refine wgs_cons ?_ | with_reducible refine wgs_nil ?_)
  | (guard_target =~ Wi _ _ _ _ _ _ _; first | with_reducible refine wi_str ?_ | with_reducible refine wi_list ?_ | with_reducible refine wi_rngN ?_ | with_reducible refine wi_rng2 ?_)
  | (guard_target =~ Wo _ _ _ _ _ _ _; first | with_reducible refine wo_none ?_ | with_reducible refine wo_some ?_)
  | with_reducible refine dAdd_ii ?_
  | with_reducible refine dI_ii ?_
  | with_reducible refine dU_i ?_
  | with_reducible refine dEq_fi ?_
  | with_reducible refine dEq_ti ?_
  | with_reducible refine dEq_fs ?_
  | with_reducible refine dEq_ts ?_
  | with_reducible refine dEq_fb ?_
  | with_reducible refine dEq_tb ?_
  | with_reducible refine dEq_sn ?_
  | with_reducible refine dEq_ns ?_
  | with_reducible refine dEq_nn ?_
  | with_reducible refine dIn_fs ?_
  | with_reducible refine dIn_ts ?_
  | with_reducible refine dIn_fi ?_
  | with_reducible refine dIn_ti ?_
  | with_reducible refine dIn_tc ?_
  | with_reducible refine dIn_fc ?_
  | with_reducible refine dSl_l ?_
  | with_reducible refine dSl_q ?_
  | with_reducible refine dLen_l ?_
  | with_reducible refine dLen_q ?_
  | (guard_target =~ dLen [.ref _] _ _; with_reducible refine dLen_r (by first | exact um_same | assumption) ?_)
  | with_reducible refine ty_l ?_
  | with_reducible refine ty_s ?_
  | (guard_target =~ tyD _ "list" (.ref _) ∧ _; with_reducible refine ty_r (by first | exact um_same | assumption) ?_)
  | with_reducible refine dLen_t ?_
  | with_reducible refine dInt_i ?_
  | with_reducible refine dInt_b ?_
  | with_reducible refine dBool_i ?_
  | with_reducible refine dMax_ii ?_
  | with_reducible refine dMin_ii ?_
  | with_reducible refine dList_l ?_
  | with_reducible refine dIsN_s ?_
  | with_reducible refine dIsN_n ?_
  | with_reducible refine dIsN_i ?_
  | with_reducible refine bl_ex ?_
  | with_reducible refine tru_b ?_
  | with_reducible refine tru_i ?_
  | with_reducible refine tru_l ?_
  | with_reducible refine iteT ?_
  | with_reducible refine iteF ?_
  | with_reducible refine iteNT ?_
  | with_reducible refine iteNF ?_
  | with_reducible refine ⟨_, rfl, ?_⟩)
local macro_rules | `(tactic| walk_at "w") => `(tactic| repeat walk_at "s")

/-! ### Script.gains -/
def addNew (found : List (Str × Str)) (p : Str × Str) : List (Str × Str) := if p ∈ found then found else found ++ [p]
def kindS (text : Str) : Str := (Txt.split text " ").headD ""
def partS (text : Str) : List Str := (partsOf text).getD []
def pairsS (s : Str × Str) : List (Str × Str) := gainsS (kindS s.2) (partS s.2)
/-- the pairs whose gains a script takes -/
def gainsOf (steps : List (Str × Str)) : List (Str × Str) := (steps.flatMap pairsS).foldl addNew []
def okP (p : Str × Str) : Prop := PyData.strOk p.1 = true ∧ PyData.strOk p.2 = true
theorem pairD_pl {p : Str × Str} (h : okP p) : Pl 7 (pairD p) := by
  intro d hd
  rcases List.mem_cons.mp hd with rfl | hd
  · exact h.1
  · rw [List.mem_singleton.mp hd]; exact h.2
theorem dinL_pairs (p : Str × Str) : ∀ ps : List (Str × Str), dinL (pairD p) (pairsD ps) = decide (p ∈ ps)
  | [] => rfl
  | q :: r => by
    show (deq (pairD q) (pairD p) || dinL (pairD p) (pairsD r)) = _
    rw [dinL_pairs p r]
    have e : deq (pairD q) (pairD p) = decide (q = p) := by
      show deq (.tup [.str q.1, .str q.2]) (.tup [.str p.1, .str p.2]) = _
      rw [deq_tup, deqL_cons, deqL_cons, deqL_nil, deq_str, deq_str, Bool.and_true, Bool.eq_iff_iff, Bool.and_eq_true, beq_iff_eq, beq_iff_eq, decide_eq_true_eq]
      exact ⟨fun h => Prod.ext h.1 h.2, fun h => ⟨congrArg (·.1) h, congrArg (·.2) h⟩⟩
    rw [e, ← Bool.decide_or]
    apply decide_eq_decide.mpr
    rw [List.mem_cons]
    exact ⟨fun h => h.elim (fun z => .inl z.symm) .inr, fun h => h.elim (fun z => .inl z.symm) .inr⟩
theorem addNew_ok {found : List (Str × Str)} {p : Str × Str} (h : ∀ q ∈ found, okP q) (hp : okP p) : ∀ q ∈ addNew found p, okP q := fun q hq => by
  unfold addNew at hq
  split at hq
  · exact h q hq
  · rcases List.mem_append.mp hq with hq | hq
    · exact h q hq
    · rw [List.mem_singleton.mp hq]; exact hp
theorem ScD.new {K : PySem.W.Frag} {μ : Mu} {d : D} {names : List Str} {steps : List (Str × Str)} {l : Addr} {c : C} (h : ScD K μ d names steps) (hl : μ l = none) : ScD K (um μ l c) d names steps := by
  cases d with
  | ins a k ns ds => exact h
  | ref a =>
    obtain ⟨k, ns, ds, hz, h⟩ := h
    exact ⟨k, ns, ds, by rw [um_ne (mu_ne hz hl)]; exact hz, h⟩
  | _ => exact h.elim
def sd_Script_gains (K : PySem.W.Frag) : SpD := fun ds μ P _ => ∃ (d : D) (names : List Str) (steps : List (Str × Str)), ds = [d] ∧ ScD K μ d names steps ∧ steps.length ≤ 1000 ∧ (∀ s ∈ steps, fitK (kindS s.2) (partS s.2) ∧ ∀ q ∈ pairsS s, okP q) ∧ ∀ p, μ p = none → P (.ref p) (um μ p (.lst (pairsD (gainsOf steps))))
abbrev N_Script_gains : List Str := ["self", "found", "name", "text", "kind", "parts", "pair"]
theorem sc_Script_gains : FnScope N_Script_gains ["self"] (defScope s_Script_gains) := ⟨rfl, rfl, rfl, by decide +kernel, rfl, by decide +kernel, by decide +kernel⟩
abbrev D_Script_gains (K : PySem.W.Frag) : Prop := DM K (cA K "Script") "gains" "Script.gains" s_Script_gains
theorem gm_Script_gains {P : Program} {w : World} {K : PySem.W.Frag} {mg : Str → Option Value} {base : Heap} {k : Nat} {sp : Sp} (D : D_Script_gains K) (cl : Cls K (cA K "Script")) (h : ∀ {f : Addr} {fd : FuncData}, FunD K "gains" "Script.gains" (defArgs s_Script_gains) (defBody s_Script_gains) (defScope s_Script_gains) [] [] f fd → FnOk P w K mg base (L2.CX P w) k f fd ["self"] sp) : GM P w K mg base (cA K "Script") "gains" k ["self"] sp := by
  obtain ⟨f, fd, h1, h2⟩ := D.ex
  exact ⟨cl, f, fd, h1, FunD.bindsN h2 fun _ _ _ _ _ _ us hl => match us, hl with | [_], _ => rfl, h h2⟩

section
variable {P : Program} {w : World} {K : PySem.W.Frag} {mg : Str → Option Value} {base : Heap}
theorem ok_Script_gains (D : D_Script_gains K) (cl : Cls K (cS K)) (n2 : NoAttr K (cS K) "rows") (G_step_gains : GF P w K mg base "step_gains" 2 ["kind", "parts"] (toSp K sd_step_gains)) : GM P w K mg base (cS K) "gains" 3 ["self"] (toSp K (sd_Script_gains K)) := by
  refine gm_Script_gains D cl fun F => fun_ok F sc_Script_gains (fun ds μ P X h => ?_) fun cdv A outer s H E hr => ⟨_, (pss_cons (ps_set (i := 1) sc_Script_gains.nd rfl (by first | exact Or.inl rfl | exact Or.inr rfl) (pe_lst pa_nil))
    (pss_cons (ps_for po_def rfl (pi_listK (K := K) rfl (pe_fldK (K := K) rfl (pv 0))) (pg_tupK (K := K) rfl (n := 4) rfl (pgs_cons (pg_name (i := 2) sc_Script_gains.nd rfl (by first | exact Or.inl rfl | exact Or.inr rfl)) (pgs_cons (pg_name (i := 3) sc_Script_gains.nd rfl (by first | exact Or.inl rfl | exact Or.inr rfl)) (pgs_cons (pg_name (i := 4) sc_Script_gains.nd rfl (by first | exact Or.inl rfl | exact Or.inr rfl)) (pgs_cons (pg_name (i := 5) sc_Script_gains.nd rfl (by first | exact Or.inl rfl | exact Or.inr rfl)) pgs_nil)))))
      (pss_one (ps_for po_def rfl (pi_listK (K := K) rfl (pe_gf G_step_gains (hr.mono (by decide)) tk_def (pa_cons (pv 4) (pa_cons (pv 5) pa_nil)))) (pg_name (i := 6) sc_Script_gains.nd rfl (by first | exact Or.inl rfl | exact Or.inr rfl))
          (pss_one (ps_if (pt_cmpR (op_notInK (K := K) rfl (room65 hr)) (pv 6) (pv 1) (by rfl))
              (pss_one (ps_expr (pe_bmK (K := K) rfl PySem.F.plainAttrs_list PySem.F.slot_list_append PySem.F.type_list_append mt_append (pv 1) (pa_cons (pv 6) pa_nil))))
              pss_nil)))))
    (pss_one (ps_ret (pv 1))))), fun ds μ Pd X h => ?_⟩
  · obtain ⟨d, names, steps, rfl, _⟩ := h; rfl
  · obtain ⟨d, names, steps, rfl, hw, hsl, hfit, hp⟩ := h
    have e21 : (("rows" : Str) == "inputs") = false := by decide +kernel
    have two : ∀ (k : Str) (ps : List Str), (gainsS k ps).length ≤ 2 := fun k ps => by
      unfold gainsS
      split
      · exact Nat.zero_le _
      · split
        · exact Nat.le_succ _
        · split <;> exact Nat.le_refl _
    show Ws K (wOf E) _ [some d, none, none, none, none, none, none] μ _
    refine ws_seq (ws_set (we_lstM ?_))
    walk_at "w"
    refine ⟨Nat.zero_le _, fun l hl0 => ?_⟩
    have hw2 : ScD K (um μ l (.lst (pairsD []))) d names steps := hw.new hl0
    walk_at "w"
    refine hw2.use fun a => ⟨cl, n2, _, zlS e21 zl0, ?_⟩
    have fle : ∀ (xs acc : List (Str × Str)), (xs.foldl addNew acc).length ≤ acc.length + xs.length := by
      intro xs
      induction xs with
      | nil => intro acc; exact Nat.le_refl _
      | cons x r ih =>
        intro acc
        have h1 := ih (addNew acc x)
        have h2 : (addNew acc x).length ≤ acc.length + 1 := by
          unfold addNew
          split
          · exact Nat.le_succ _
          · rw [List.length_append]; exact Nat.le_refl _
        show (r.foldl addNew (addNew acc x)).length ≤ _
        rw [List.length_cons]
        omega
    have fok : ∀ (xs acc : List (Str × Str)), (∀ q ∈ acc, okP q) → (∀ q ∈ xs, okP q) → ∀ q ∈ xs.foldl addNew acc, okP q := by
      intro xs
      induction xs with
      | nil => exact fun acc h _ => h
      | cons x r ih => exact fun acc h hx => ih (addNew acc x) (addNew_ok h (hx x List.mem_cons_self)) fun q hq => hx q (List.mem_cons_of_mem _ hq)
    refine ⟨_, .inl rfl, fun i Γ' μ' => (∃ g2 g3 g4 g5 g6, Γ' = [some d, some (.ref l), g2, g3, g4, g5, g6]) ∧ μ' = um μ l (.lst (pairsD (gainsOf (steps.take i)))), ⟨⟨_, _, _, _, _, rfl⟩, rfl⟩, ?_, ?_⟩
    · rintro i e Γ' μ' hi ⟨⟨g2, g3, g4, g5, g6, rfl⟩, rfl⟩
      rw [List.getElem?_map] at hi
      obtain ⟨s, hs, rfl⟩ := Option.map_eq_some_iff.mp hi
      obtain ⟨hf, hok⟩ := hfit s (List.mem_of_getElem? hs)
      refine wg_tup rfl ?_
      walk_at "w"
      refine ⟨kindS s.2, partS s.2, rfl, hf, ?_⟩
      refine ⟨_, .inl rfl, fun u Γ' μ' => (∃ g6, Γ' = [some d, some (.ref l), some (.str s.1), some (.str s.2), some (.str (kindS s.2)), some (.lst (strsD (partS s.2))), g6]) ∧ μ' = um μ l (.lst (pairsD (((pairsS s).take u).foldl addNew (gainsOf (steps.take i))))), ⟨⟨_, rfl⟩, rfl⟩, ?_, ?_⟩
      · rintro u e Γ' μ' hu ⟨⟨g6, rfl⟩, rfl⟩
        rw [List.getElem?_map] at hu
        obtain ⟨p, hpp, rfl⟩ := Option.map_eq_some_iff.mp hu
        have hpp : (pairsS s)[u]? = some p := hpp
        obtain ⟨acc, hacc⟩ : ∃ acc, acc = ((pairsS s).take u).foldl addNew (gainsOf (steps.take i)) := ⟨_, rfl⟩
        have hnext : ((pairsS s).take (u + 1)).foldl addNew (gainsOf (steps.take i)) = addNew acc p := by rw [take_succ hpp, List.foldl_append, hacc]; rfl
        have hgl : (gainsOf (steps.take i)).length ≤ 2 * steps.length := by
          unfold gainsOf
          refine Nat.le_trans (fle _ _) ?_
          rw [List.length_nil, Nat.zero_add]
          have : ∀ xs : List (Str × Str), (xs.flatMap pairsS).length ≤ 2 * xs.length := by
            intro xs
            induction xs with
            | nil => exact Nat.zero_le _
            | cons x r ih =>
              rw [List.flatMap_cons, List.length_append, List.length_cons]
              have := two (kindS x.2) (partS x.2)
              show (gainsS (kindS x.2) (partS x.2)).length + _ ≤ _
              omega
          have h1 := this (steps.take i)
          rw [List.length_take] at h1
          omega
        have hal : acc.length ≤ 90000 := by
          rw [hacc]
          have h1 := fle ((pairsS s).take u) (gainsOf (steps.take i))
          have h2 := two (kindS s.2) (partS s.2)
          have h3 : ((pairsS s).take u).length ≤ 2 := by
            rw [List.length_take]
            show min u (gainsS (kindS s.2) (partS s.2)).length ≤ 2
            omega
          omega
        have haok : ∀ q ∈ acc, okP q := by
          rw [hacc]
          refine fok _ _ (fok _ _ (fun q hq => by cases hq) fun q hq => ?_) fun q hq => hok q (List.mem_of_mem_take hq)
          obtain ⟨s', hs', hq'⟩ := List.mem_flatMap.mp hq
          exact (hfit s' (List.mem_of_mem_take hs')).2 q hq'
        have hpok : okP p := hok p (List.mem_of_getElem? hpp)
        rw [← hacc]
        walk_at "w"
        show Pl 7 (pairD p) ∧ items _ (.ref l) _
        refine ⟨pairD_pl hpok, pairsD acc, um_same, ?_, ?_⟩
        · intro z hz
          obtain ⟨q, hq, rfl⟩ := List.mem_map.mp hz
          exact pairD_pl (haok q hq)
        rw [dinL_pairs, Bool.true_xor]
        walk_at "w"
        by_cases hm : p ∈ acc
        · rw [decide_eq_true hm]
          refine iteNF ?_
          walk_at "w"
          refine Fo.of ⟨⟨_, rfl⟩, ?_⟩
          rw [hnext]
          unfold addNew
          rw [if_pos hm]
        · rw [decide_eq_false hm]
          refine iteNT ?_
          walk_at "w"
          refine dApp um_same (szl _ (by rw [List.length_map]; omega)) ?_
          rw [um_um]
          refine Fo.of ⟨⟨_, rfl⟩, ?_⟩
          rw [hnext]
          unfold addNew
          rw [if_neg hm]
          exact congrArg (fun z => um μ l (.lst z)) (List.map_append (f := pairD) (l₁ := acc) (l₂ := [p])).symm
      · rintro Γ' μ' ⟨⟨g6, rfl⟩, rfl⟩
        refine Fo.of ⟨⟨_, _, _, _, _, rfl⟩, ?_⟩
        have e1 : (pairsD (gainsS (kindS s.2) (partS s.2))).length = (pairsS s).length := List.length_map ..
        rw [e1, List.take_length]
        unfold gainsOf
        rw [take_succ hs, List.flatMap_append, List.foldl_append]
        simp
    · rintro Γ' μ' ⟨⟨g2, g3, g4, g5, g6, rfl⟩, rfl⟩
      rw [List.length_map, List.take_length]
      walk_at "w"
      exact ret_of (hp l hl0)
end
end Nm
namespace Nm
open PySem PySem.Spec PyProof.Rows L2
local macro_rules | `(tactic| walk_at "s") => `(tactic| first
  | (guard_target =~ Ws _ _ _ _ _ _; first | with_reducible refine ws_seq ?_ | with_reducible refine ws_set ?_ | with_reducible refine ws_if ?_ | with_reducible refine ws_ret ?_ | with_reducible refine ws_asg ?_ | with_reducible refine ws_drop ?_ | with_reducible refine ws_next ?_ | with_reducible refine ws_for ?_ | with_reducible refine ws_brk ?_ | with_reducible refine ws_cont ?_ | with_reducible refine ws_retN ?_ | with_reducible refine ws_fld ?_)
  | (guard_target =~ Wa _ _ _ _ _ _ _; first | with_reducible refine wa_cons ?_ | with_reducible refine wa_nil ?_)
  | (guard_target =~ We _ _ _ _ _ _ _; first | (guard_target =~ We _ _ (tOp _ _ _) _ _ _ _; first | with_reducible refine we_op opS_add ?_ | with_reducible refine we_op opS_sub ?_ | with_reducible refine we_op opS_mul ?_ | with_reducible refine we_op opS_mod ?_ | with_reducible refine we_op opS_div ?_ | with_reducible refine we_op opS_ix ?_ | with_reducible refine we_op opS_eq ?_ | with_reducible refine we_op opS_ne ?_ | with_reducible refine we_op opS_lt ?_ | with_reducible refine we_op opS_le ?_ | with_reducible refine we_op opS_gt ?_ | with_reducible refine we_op opS_ge ?_ | with_reducible refine we_op opS_in ?_ | with_reducible refine we_op opS_notIn ?_ | with_reducible refine we_op opS_and ?_ | with_reducible refine we_op opS_or ?_ | with_reducible refine we_op opS_shr ?_ | with_reducible refine we_op opS_shl ?_ | with_reducible refine we_op opS_pow ?_ | with_reducible refine we_op opS_isN ?_ | with_reducible refine we_op opS_notN ?_ | with_reducible refine we_op opS_xor ?_) | (guard_target =~ We _ _ (tCB _ _) _ _ _ _; first | with_reducible refine we_cb cbS_len ?_ | with_reducible refine we_cb cbS_int ?_ | with_reducible refine we_cb cbS_bool ?_ | with_reducible refine we_cb cbS_max ?_ | with_reducible refine we_cb cbS_min ?_ | with_reducible refine we_cb cbS_isi ?_) | with_reducible refine we_var rfl ?_ | with_reducible refine we_int ?_ | with_reducible refine we_str ?_ | with_reducible refine we_bl ?_ | with_reducible refine we_non ?_ | with_reducible refine we_ty ?_ | with_reducible refine we_ref ?_ | with_reducible refine we_sl ?_ | with_reducible refine we_orT ?_ | with_reducible refine we_andT ?_ | with_reducible refine we_notT ?_ | with_reducible refine we_if ?_ | with_reducible refine we_tup ⟨?_, ?_⟩ | with_reducible refine we_tup ?_ | with_reducible refine we_fld ?_ | with_reducible refine we_call (dds := []) (fun _ => HasL.nil) ?_ | with_reducible refine we_call0 (dds := []) (fun _ => HasL.nil) ?_ | with_reducible refine we_meth (dds := []) (fun _ => HasL.nil) ?_ | with_reducible refine we_bm mS_append ?_ | with_reducible refine we_bm mS_extend ?_ | with_reducible refine we_bm0 mS_clear ?_ | with_reducible refine we_bm mS_indexS ?_ | with_reducible refine we_bm mS_join ?_ | with_reducible refine we_bm mS_split ?_ | with_reducible refine we_bm mS_part ?_ | with_reducible refine we_un unS_neg ?_ | with_reducible refine we_un unS_inv ?_)
  | (guard_target =~ Wt _ _ _ _ _ _ _; first | with_reducible refine wt_test ?_ | with_reducible refine wt_tr ?_ | with_reducible refine wt_not ?_ | with_reducible refine wt_and ?_ | with_reducible refine wt_or ?_ | with_reducible refine wt_val ?_ | with_reducible refine wt_yes ?_)
  | (guard_target =~ Wg _ _ _ _ _ _; first | with_reducible refine wg_name ?_)
  | (guard_target =~ Wgs _ _ _ _ _ _; first | with_reducible refine wgs_cons ?_ | with_reducible refine wgs_nil ?_)
  | (guard_target =~ Wi _ _ _ _ _ _ _; first | with_reducible refine wi_str ?_ | with_reducible refine wi_list ?_ | with_reducible refine wi_rngN ?_ | with_reducible refine wi_rng2 ?_)
  | (guard_target =~ Wo _ _ _ _ _ _ _; first | with_reducible refine wo_none ?_ | with_reducible refine wo_some ?_)
  | with_reducible refine dAdd_ii ?_
  | with_reducible refine dI_ii ?_
  | with_reducible refine dU_i ?_
  | with_reducible refine dEq_fi ?_
  | with_reducible refine dEq_ti ?_
  | with_reducible refine dEq_fs ?_
  | with_reducible refine dEq_ts ?_
  | with_reducible refine dEq_fb ?_
  | with_reducible refine dEq_tb ?_
  | with_reducible refine dEq_sn ?_
  | with_reducible refine dEq_ns ?_
  | with_reducible refine dEq_nn ?_
  | with_reducible refine dIn_fs ?_
  | with_reducible refine dIn_ts ?_
  | with_reducible refine dIn_fi ?_
  | with_reducible refine dIn_ti ?_
  | with_reducible refine dIn_tc ?_
  | with_reducible refine dIn_fc ?_
  | with_reducible refine dSl_l ?_
  | with_reducible refine dSl_q ?_
  | with_reducible refine dLen_l ?_
  | with_reducible refine dLen_q ?_
  | (guard_target =~ dLen [.ref _] _ _; with_reducible refine dLen_r (by first | exact um_same | assumption) ?_)
  | with_reducible refine ty_l ?_
  | with_reducible refine ty_s ?_
  | (guard_target =~ tyD _ "list" (.ref _) ∧ _; with_reducible refine ty_r (by first | exact um_same | assumption) ?_)
  | with_reducible refine dLen_t ?_
  | with_reducible refine dInt_i ?_
  | with_reducible refine dInt_b ?_
  | with_reducible refine dBool_i ?_
  | with_reducible refine dMax_ii ?_
  | with_reducible refine dMin_ii ?_
  | with_reducible refine dList_l ?_
  | with_reducible refine dIsN_s ?_
  | with_reducible refine dIsN_n ?_
  | with_reducible refine dIsN_i ?_
  | with_reducible refine bl_ex ?_
  | with_reducible refine tru_b ?_
  | with_reducible refine tru_i ?_
  | with_reducible refine tru_l ?_
  | with_reducible refine iteT ?_
  | with_reducible refine iteF ?_
  | with_reducible refine iteNT ?_
  | with_reducible refine iteNF ?_
  | with_reducible refine ⟨_, rfl, ?_⟩)
local macro_rules | `(tactic| walk_at "w") => `(tactic| repeat walk_at "s")

/-! ### drawn steps: _law_pairs, _law_gains, _law_steps -/
structure Stp where
  kd : Nat
  a : Nat
  b : Nat
  c : Nat
def stpD (s : Stp) : D := .tup [.int (s.kd : Int), .int (s.a : Int), .int (s.b : Int), .int (s.c : Int)]
abbrev stpsD (ss : List Stp) : List D := ss.map stpD
/-- the pairs whose gains a step takes, by places -/
def prs (s : Stp) : List (Nat × Nat) :=
  if s.kd = 2 ∨ s.kd = 4 then [(s.a, s.b)] else if s.kd = 3 then [(s.a, s.c), (s.b, s.c)] else if s.kd = 5 then [(s.c, s.a), (s.b, s.a)] else []
def ipD (p : Nat × Nat) : D := .tup [.int (p.1 : Int), .int (p.2 : Int)]
abbrev ipsD (ps : List (Nat × Nat)) : List D := ps.map ipD
def addN (found : List (Nat × Nat)) (p : Nat × Nat) : List (Nat × Nat) := if p ∈ found then found else found ++ [p]
/-- the pairs whose gains steps take, each once, by places -/
def lgains (ss : List Stp) : List (Nat × Nat) := (ss.flatMap prs).foldl addN []
theorem lgains_app (ss : List Stp) (s : Stp) : lgains (ss ++ [s]) = (prs s).foldl addN (lgains ss) := by
  unfold lgains
  rw [List.flatMap_append, List.foldl_append]
  simp
theorem prs_len (s : Stp) : (prs s).length ≤ 2 := by
  unfold prs
  split
  · exact Nat.le_succ _
  · split
    · exact Nat.le_refl _
    · split
      · exact Nat.le_refl _
      · exact Nat.zero_le _
theorem addN_len : ∀ (xs acc : List (Nat × Nat)), (xs.foldl addN acc).length ≤ acc.length + xs.length
  | [], acc => Nat.le_refl _
  | x :: r, acc => by
    have h1 := addN_len r (addN acc x)
    have h2 : (addN acc x).length ≤ acc.length + 1 := by
      unfold addN
      split
      · exact Nat.le_succ _
      · rw [List.length_append]; exact Nat.le_refl _
    show (r.foldl addN (addN acc x)).length ≤ _
    rw [List.length_cons]
    omega
theorem lgains_len : ∀ (ss : List Stp), (lgains ss).length ≤ 2 * ss.length := fun ss => by
  unfold lgains
  refine Nat.le_trans (addN_len _ _) ?_
  rw [List.length_nil, Nat.zero_add]
  induction ss with
  | nil => exact Nat.zero_le _
  | cons s r ih =>
    rw [List.flatMap_cons, List.length_append, List.length_cons]
    have := prs_len s
    omega
theorem ipD_pl (p : Nat × Nat) : Pl 7 (ipD p) := by
  intro d hd
  rcases List.mem_cons.mp hd with rfl | hd
  · trivial
  · rw [List.mem_singleton.mp hd]; trivial
theorem dinL_ips (p : Nat × Nat) : ∀ ps : List (Nat × Nat), dinL (ipD p) (ipsD ps) = decide (p ∈ ps)
  | [] => rfl
  | q :: r => by
    show (deq (ipD q) (ipD p) || dinL (ipD p) (ipsD r)) = _
    rw [dinL_ips p r]
    have e : deq (ipD q) (ipD p) = decide (q = p) := by
      show deq (.tup [.int (q.1 : Int), .int (q.2 : Int)]) (.tup [.int (p.1 : Int), .int (p.2 : Int)]) = _
      rw [deq_tup, deqL_cons, deqL_cons, deqL_nil, deq_int, deq_int, Bool.and_true, Bool.eq_iff_iff, Bool.and_eq_true, beq_iff_eq, beq_iff_eq, decide_eq_true_eq]
      exact ⟨fun h => Prod.ext (Int.ofNat.inj h.1) (Int.ofNat.inj h.2), fun h => ⟨congrArg (fun z : Nat × Nat => (z.1 : Int)) h, congrArg (fun z : Nat × Nat => (z.2 : Int)) h⟩⟩
    rw [e, ← Bool.decide_or]
    apply decide_eq_decide.mpr
    rw [List.mem_cons]
    exact ⟨fun h => h.elim (fun z => .inl z.symm) .inr, fun h => h.elim (fun z => .inl z.symm) .inr⟩
/-- steps over earlier names, the inputs and none -/
def OkS (inp : Nat) (ss : List Stp) : Prop := ∀ (j : Nat) (s : Stp), ss[j]? = some s → s.kd < 6 ∧ s.a < 1 + inp + j ∧ s.b < 1 + inp + j ∧ s.c < 1 + inp + j
theorem OkS.app {inp : Nat} {ss : List Stp} {s : Stp} (h : OkS inp ss) (hs : s.kd < 6 ∧ s.a < 1 + inp + ss.length ∧ s.b < 1 + inp + ss.length ∧ s.c < 1 + inp + ss.length) : OkS inp (ss ++ [s]) := fun j z hz => by
  rcases Nat.lt_or_ge j ss.length with q | q
  · rw [List.getElem?_append_left q] at hz
    exact h j z hz
  · rw [List.getElem?_append_right q] at hz
    cases e : j - ss.length with
    | zero =>
      rw [e] at hz
      obtain rfl : s = z := Option.some.inj hz
      have : j = ss.length := by omega
      rw [this]
      exact hs
    | succ n => rw [e] at hz; cases hz
def sd_lpairs : SpD := fun ds μ P _ => ∃ s : Stp, ds = [stpD s] ∧ P (.lst (ipsD (prs s))) μ
def sd_lgains : SpD := fun ds μ P _ => ∃ ss : List Stp, ds = [.lst (stpsD ss)] ∧ ss.length ≤ 1000 ∧ P (.lst (ipsD (lgains ss))) μ
def sd_steps : SpD := fun ds μ P _ => ∃ (zs : List Int) (a : Addr) (n : Int) (inp many wide : Nat), ds = [.lst (intsD zs), .ref a, .int (inp : Int), .int (many : Int), .int (wide : Int)] ∧ zs ≠ [] ∧ μ a = some (.lst [.int n]) ∧ inp ≤ 100 ∧ many ≤ 100 ∧
  ∀ (ss : List Stp) (n' : Int), ss.length = many → OkS inp ss → (inp ≤ wide → inp + (lgains ss).length ≤ wide) → P (.lst (stpsD ss)) (um μ a (.lst [.int n']))
abbrev N_law_pairs : List Str := ["_law_step"]
theorem sc_law_pairs : FnScope N_law_pairs ["_law_step"] (defScope s_law_pairs) := ⟨rfl, rfl, rfl, by decide +kernel, rfl, by decide +kernel, by decide +kernel⟩
abbrev D_law_pairs (K : PySem.W.Frag) (mg : Str → Option Value) : Prop := DF K mg "_law_pairs" s_law_pairs
theorem gf_law_pairs {P : Program} {w : World} {K : PySem.W.Frag} {mg : Str → Option Value} {base : Heap} {k : Nat} {sp : Sp} (D : D_law_pairs K mg) (h : ∀ {f : Addr} {fd : FuncData}, FunD K "_law_pairs" "_law_pairs" (defArgs s_law_pairs) (defBody s_law_pairs) (defScope s_law_pairs) [] [] f fd → FnOk P w K mg base (L2.CX P w) k f fd ["_law_step"] sp) : GF P w K mg base "_law_pairs" k ["_law_step"] sp := by
  obtain ⟨f, fd, h1, h2⟩ := D.ex
  exact ⟨f, fd, h1, h2.kp, FunD.bindsN h2 fun _ _ _ _ _ _ us hl => match us, hl with | [_], _ => rfl, h h2⟩

abbrev N_law_gains : List Str := ["_law_steps_here", "_law_pairs_here", "_law_step", "_law_pair"]
theorem sc_law_gains : FnScope N_law_gains ["_law_steps_here"] (defScope s_law_gains) := ⟨rfl, rfl, rfl, by decide +kernel, rfl, by decide +kernel, by decide +kernel⟩
abbrev D_law_gains (K : PySem.W.Frag) (mg : Str → Option Value) : Prop := DF K mg "_law_gains" s_law_gains
theorem gf_law_gains {P : Program} {w : World} {K : PySem.W.Frag} {mg : Str → Option Value} {base : Heap} {k : Nat} {sp : Sp} (D : D_law_gains K mg) (h : ∀ {f : Addr} {fd : FuncData}, FunD K "_law_gains" "_law_gains" (defArgs s_law_gains) (defBody s_law_gains) (defScope s_law_gains) [] [] f fd → FnOk P w K mg base (L2.CX P w) k f fd ["_law_steps_here"] sp) : GF P w K mg base "_law_gains" k ["_law_steps_here"] sp := by
  obtain ⟨f, fd, h1, h2⟩ := D.ex
  exact ⟨f, fd, h1, h2.kp, FunD.bindsN h2 fun _ _ _ _ _ _ us hl => match us, hl with | [_], _ => rfl, h h2⟩

abbrev N_law_steps : List Str := ["_law_pool_here", "_law_at", "_law_inputs", "_law_many", "_law_wide", "_law_steps_here", "_law_k", "_law_known", "_law_kind", "_law_parts", "_law_j", "_law_spot", "_law_step"]
theorem sc_law_steps : FnScope N_law_steps ["_law_pool_here", "_law_at", "_law_inputs", "_law_many", "_law_wide"] (defScope s_law_steps) := ⟨rfl, rfl, rfl, by decide +kernel, rfl, by decide +kernel, by decide +kernel⟩
abbrev D_law_steps (K : PySem.W.Frag) (mg : Str → Option Value) : Prop := DF K mg "_law_steps" s_law_steps
theorem gf_law_steps {P : Program} {w : World} {K : PySem.W.Frag} {mg : Str → Option Value} {base : Heap} {k : Nat} {sp : Sp} (D : D_law_steps K mg) (h : ∀ {f : Addr} {fd : FuncData}, FunD K "_law_steps" "_law_steps" (defArgs s_law_steps) (defBody s_law_steps) (defScope s_law_steps) [] [] f fd → FnOk P w K mg base (L2.CX P w) k f fd ["_law_pool_here", "_law_at", "_law_inputs", "_law_many", "_law_wide"] sp) : GF P w K mg base "_law_steps" k ["_law_pool_here", "_law_at", "_law_inputs", "_law_many", "_law_wide"] sp := by
  obtain ⟨f, fd, h1, h2⟩ := D.ex
  exact ⟨f, fd, h1, h2.kp, FunD.bindsN h2 fun _ _ _ _ _ _ us hl => match us, hl with | [_, _, _, _, _], _ => rfl, h h2⟩

section
variable {P : Program} {w : World} {K : PySem.W.Frag} {mg : Str → Option Value} {base : Heap}
theorem ok_lpairs (D : D_law_pairs K mg) (Z : Zs mg) : GF P w K mg base "_law_pairs" 1 ["_law_step"] (toSp K sd_lpairs) := by
  refine gf_law_pairs D fun F => fun_ok F sc_law_pairs (fun ds μ P X h => ?_) fun cdv A outer s H E hr => ⟨_, (pss_cons (ps_if (PW.pt (pw_or (pt_cmpR (op_eqK (K := K) rfl hr.units) (pe_ix (ix_seqK (K := K) rfl) (pv 0) pe_int (fun _ _ => rfl)) pe_int (nomark _)) (pw_or1 (pt_cmpR (op_eqK (K := K) rfl hr.units) (pe_ix (ix_seqK (K := K) rfl) (pv 0) pe_int (fun _ _ => rfl)) pe_int (nomark _)))))
      (pss_one (ps_ret (pe_lst (pa_cons (pe_tup (pa_cons (pe_ix (ix_seqK (K := K) rfl) (pv 0) pe_int (fun _ _ => rfl)) (pa_cons (pe_ix (ix_seqK (K := K) rfl) (pv 0) pe_int (fun _ _ => rfl)) pa_nil))) pa_nil))))
      pss_nil)
    (pss_cons (ps_if (pt_cmpR (op_eqK (K := K) rfl hr.units) (pe_ix (ix_seqK (K := K) rfl) (pv 0) pe_int (fun _ _ => rfl)) pe_int (nomark _))
      (pss_one (ps_ret (pe_lst (pa_cons (pe_tup (pa_cons (pe_ix (ix_seqK (K := K) rfl) (pv 0) pe_int (fun _ _ => rfl)) (pa_cons (pe_ix (ix_seqK (K := K) rfl) (pv 0) pe_int (fun _ _ => rfl)) pa_nil))) (pa_cons (pe_tup (pa_cons (pe_ix (ix_seqK (K := K) rfl) (pv 0) pe_int (fun _ _ => rfl)) (pa_cons (pe_ix (ix_seqK (K := K) rfl) (pv 0) pe_int (fun _ _ => rfl)) pa_nil))) pa_nil)))))
      pss_nil)
    (pss_cons (ps_if (pt_cmpR (op_eqK (K := K) rfl hr.units) (pe_ix (ix_seqK (K := K) rfl) (pv 0) pe_int (fun _ _ => rfl)) pe_int (nomark _))
      (pss_one (ps_ret (pe_lst (pa_cons (pe_tup (pa_cons (pe_ix (ix_seqK (K := K) rfl) (pv 0) pe_int (fun _ _ => rfl)) (pa_cons (pe_ix (ix_seqK (K := K) rfl) (pv 0) pe_int (fun _ _ => rfl)) pa_nil))) (pa_cons (pe_tup (pa_cons (pe_ix (ix_seqK (K := K) rfl) (pv 0) pe_int (fun _ _ => rfl)) (pa_cons (pe_ix (ix_seqK (K := K) rfl) (pv 0) pe_int (fun _ _ => rfl)) pa_nil))) pa_nil)))))
      pss_nil)
    (pss_one (ps_ret (pe_lst pa_nil)))))), fun ds μ Pd X h => ?_⟩
  · obtain ⟨s, rfl, _⟩ := h; rfl
  · obtain ⟨s, rfl, hp⟩ := h
    have sl : ∀ n, n ≤ 100000 → n ≤ sizeLine := fun n h => Nat.le_of_lt (szl n h)
    show Ws K (wOf E) _ [some (stpD s)] μ _
    have at0 : atI [Nm.D.int (s.kd : Int), .int (s.a : Int), .int (s.b : Int), .int (s.c : Int)] 0 = some (.int (s.kd : Int)) := atI_nat (j := 0) rfl
    have at1 : atI [Nm.D.int (s.kd : Int), .int (s.a : Int), .int (s.b : Int), .int (s.c : Int)] 1 = some (.int (s.a : Int)) := atI_nat (j := 1) rfl
    have at2 : atI [Nm.D.int (s.kd : Int), .int (s.a : Int), .int (s.b : Int), .int (s.c : Int)] 2 = some (.int (s.b : Int)) := atI_nat (j := 2) rfl
    have at3 : atI [Nm.D.int (s.kd : Int), .int (s.a : Int), .int (s.b : Int), .int (s.c : Int)] 3 = some (.int (s.c : Int)) := atI_nat (j := 3) rfl
    unfold prs at hp
    have one : ∀ (x y : Nat), Pd (.lst (ipsD [(x, y)])) μ → ∀ {A : Prop}, A → True := fun _ _ _ _ _ => trivial
    walk_at "w"
    refine dIx_t at0 ?_
    walk_at "w"
    refine iteD (fun h2 => ?_) (fun h2 => ?_)
    · rw [if_pos (.inl (by omega))] at hp
      refine iteT ?_
      walk_at "w"
      refine we_lst ?_
      walk_at "w"
      refine dIx_t at1 ?_
      walk_at "w"
      refine dIx_t at2 ?_
      walk_at "w"
      refine ⟨sl 2 (by decide), ?_⟩
      walk_at "w"
      exact ⟨sl 1 (by decide), ret_of hp⟩
    walk_at "w"
    refine dIx_t at0 ?_
    walk_at "w"
    refine iteD (fun h4 => ?_) (fun h4 => ?_)
    · rw [if_pos (.inr (by omega))] at hp
      walk_at "w"
      refine we_lst ?_
      walk_at "w"
      refine dIx_t at1 ?_
      walk_at "w"
      refine dIx_t at2 ?_
      walk_at "w"
      refine ⟨sl 2 (by decide), ?_⟩
      walk_at "w"
      exact ⟨sl 1 (by decide), ret_of hp⟩
    rw [if_neg (by omega)] at hp
    walk_at "w"
    refine dIx_t at0 ?_
    walk_at "w"
    refine iteD (fun h3 => ?_) (fun h3 => ?_)
    · rw [if_pos (by omega)] at hp
      walk_at "w"
      refine we_lst ?_
      walk_at "w"
      refine dIx_t at1 ?_
      walk_at "w"
      refine dIx_t at3 ?_
      walk_at "w"
      refine ⟨sl 2 (by decide), ?_⟩
      walk_at "w"
      refine dIx_t at2 ?_
      walk_at "w"
      refine dIx_t at3 ?_
      walk_at "w"
      refine ⟨sl 2 (by decide), ?_⟩
      walk_at "w"
      exact ⟨sl 2 (by decide), ret_of hp⟩
    rw [if_neg (by omega)] at hp
    walk_at "w"
    refine dIx_t at0 ?_
    walk_at "w"
    refine iteD (fun h5 => ?_) (fun h5 => ?_)
    · rw [if_pos (by omega)] at hp
      walk_at "w"
      refine we_lst ?_
      walk_at "w"
      refine dIx_t at3 ?_
      walk_at "w"
      refine dIx_t at1 ?_
      walk_at "w"
      refine ⟨sl 2 (by decide), ?_⟩
      walk_at "w"
      refine dIx_t at2 ?_
      walk_at "w"
      refine dIx_t at1 ?_
      walk_at "w"
      refine ⟨sl 2 (by decide), ?_⟩
      walk_at "w"
      exact ⟨sl 2 (by decide), ret_of hp⟩
    rw [if_neg (by omega)] at hp
    walk_at "w"
    refine we_lst ?_
    walk_at "w"
    exact ⟨sl 0 (by decide), ret_of hp⟩
theorem ok_lgains (D : D_law_gains K mg) (Z : Zs mg) (G_law_pairs : GF P w K mg base "_law_pairs" 1 ["_law_step"] (toSp K sd_lpairs)) : GF P w K mg base "_law_gains" 2 ["_law_steps_here"] (toSp K sd_lgains) := by
  refine gf_law_gains D fun F => fun_ok F sc_law_gains (fun ds μ P X h => ?_) fun cdv A outer s H E hr => ⟨_, (pss_cons (ps_set (i := 1) sc_law_gains.nd rfl (by first | exact Or.inl rfl | exact Or.inr rfl) (pe_lst pa_nil))
    (pss_cons (ps_for po_def rfl (pi_listK (K := K) rfl (pv 0)) (pg_name (i := 2) sc_law_gains.nd rfl (by first | exact Or.inl rfl | exact Or.inr rfl))
      (pss_one (ps_for po_def rfl (pi_listK (K := K) rfl (pe_gf G_law_pairs (hr.mono (by decide)) tk_def (pa_cons (pv 2) pa_nil))) (pg_name (i := 3) sc_law_gains.nd rfl (by first | exact Or.inl rfl | exact Or.inr rfl))
          (pss_one (ps_if (pt_cmpR (op_notInK (K := K) rfl (room65 hr)) (pv 3) (pv 1) (by rfl))
              (pss_one (ps_expr (pe_bmK (K := K) rfl PySem.F.plainAttrs_list PySem.F.slot_list_append PySem.F.type_list_append mt_append (pv 1) (pa_cons (pv 3) pa_nil))))
              pss_nil)))))
    (pss_one (ps_ret (pv 1))))), fun ds μ Pd X h => ?_⟩
  · obtain ⟨ss, rfl, _⟩ := h; rfl
  · obtain ⟨ss, rfl, hsl, hp⟩ := h
    show Ws K (wOf E) _ [some (.lst (stpsD ss)), none, none, none] μ _
    refine ws_seq (ws_set (we_lstM ?_))
    walk_at "w"
    refine ⟨Nat.zero_le _, fun l hl0 => ?_⟩
    walk_at "w"
    refine ⟨_, .inl rfl, fun i Γ' μ' => (∃ g2 g3, Γ' = [some (.lst (stpsD ss)), some (.ref l), g2, g3]) ∧ μ' = um μ l (.lst (ipsD (lgains (ss.take i)))), ⟨⟨_, _, rfl⟩, rfl⟩, ?_, ?_⟩
    · rintro i e Γ' μ' hi ⟨⟨g2, g3, rfl⟩, rfl⟩
      rw [List.getElem?_map] at hi
      obtain ⟨s, hs, rfl⟩ := Option.map_eq_some_iff.mp hi
      walk_at "w"
      refine ⟨s, rfl, ?_⟩
      refine ⟨_, .inl rfl, fun u Γ' μ' => (∃ g3, Γ' = [some (.lst (stpsD ss)), some (.ref l), some (stpD s), g3]) ∧ μ' = um μ l (.lst (ipsD (((prs s).take u).foldl addN (lgains (ss.take i))))), ⟨⟨_, rfl⟩, rfl⟩, ?_, ?_⟩
      · rintro u e Γ' μ' hu ⟨⟨g3, rfl⟩, rfl⟩
        rw [List.getElem?_map] at hu
        obtain ⟨p, hpp, rfl⟩ := Option.map_eq_some_iff.mp hu
        obtain ⟨acc, hacc⟩ : ∃ acc, acc = ((prs s).take u).foldl addN (lgains (ss.take i)) := ⟨_, rfl⟩
        have hnext : ((prs s).take (u + 1)).foldl addN (lgains (ss.take i)) = addN acc p := by rw [take_succ hpp, List.foldl_append, hacc]; rfl
        have hal : acc.length ≤ 90000 := by
          rw [hacc]
          have h1 := addN_len ((prs s).take u) (lgains (ss.take i))
          have h2 := lgains_len (ss.take i)
          have h3 : ((prs s).take u).length ≤ 2 := by
            rw [List.length_take]
            have := prs_len s
            omega
          rw [List.length_take] at h2
          omega
        rw [← hacc]
        walk_at "w"
        show Pl 7 (ipD p) ∧ items _ (.ref l) _
        refine ⟨ipD_pl p, ipsD acc, um_same, ?_, ?_⟩
        · intro z hz
          obtain ⟨q, hq, rfl⟩ := List.mem_map.mp hz
          exact ipD_pl q
        rw [dinL_ips, Bool.true_xor]
        walk_at "w"
        by_cases hm : p ∈ acc
        · rw [decide_eq_true hm]
          refine iteNF ?_
          walk_at "w"
          refine Fo.of ⟨⟨_, rfl⟩, ?_⟩
          rw [hnext]
          unfold addN
          rw [if_pos hm]
        · rw [decide_eq_false hm]
          refine iteNT ?_
          walk_at "w"
          refine dApp um_same (szl _ (by rw [List.length_map]; omega)) ?_
          rw [um_um]
          refine Fo.of ⟨⟨_, rfl⟩, ?_⟩
          rw [hnext]
          unfold addN
          rw [if_neg hm]
          exact congrArg (fun z => um μ l (.lst z)) (List.map_append (f := ipD) (l₁ := acc) (l₂ := [p])).symm
      · rintro Γ' μ' ⟨⟨g3, rfl⟩, rfl⟩
        refine Fo.of ⟨⟨_, _, rfl⟩, ?_⟩
        rw [List.length_map, List.take_length, take_succ hs, lgains_app]
    · rintro Γ' μ' ⟨⟨g2, g3, rfl⟩, rfl⟩
      rw [List.length_map, List.take_length]
      refine ws_freeze (i := 1) um_same rfl ?_
      rw [dm_um hl0]
      show Ws K (wOf E) _ [some (.lst (stpsD ss)), some (.lst (ipsD (lgains ss))), g2, g3] μ _
      walk_at "w"
      exact ret_of hp
theorem ok_steps (D : D_law_steps K mg) (Z : Zs mg) (G_law_take : GF P w K mg base "_law_take" 1 ["_law_pool_here", "_law_at", "_law_many"] (toSp K sd_take)) (G_law_gains : GF P w K mg base "_law_gains" 2 ["_law_steps_here"] (toSp K sd_lgains)) : GF P w K mg base "_law_steps" 3 ["_law_pool_here", "_law_at", "_law_inputs", "_law_many", "_law_wide"] (toSp K sd_steps) := by
  refine gf_law_steps D fun F => fun_ok F sc_law_steps (fun ds μ P X h => ?_) fun cdv A outer s H E hr => ⟨_, (pss_cons (ps_set (i := 5) sc_law_steps.nd rfl (by first | exact Or.inl rfl | exact Or.inr rfl) (pe_lst pa_nil))
    (pss_cons (ps_for po_def rfl (pi_range1 (by rfl) Z.z_range (pa_cons (pv 3) pa_nil)) (pg_name (i := 6) sc_law_steps.nd rfl (by first | exact Or.inl rfl | exact Or.inr rfl))
      (pss_cons (ps_set (i := 7) sc_law_steps.nd rfl (by first | exact Or.inl rfl | exact Or.inr rfl) (pe_op op_addU (pe_op op_addU pe_int (pv 2)) (pv 6)))
        (pss_cons (ps_set (i := 8) sc_law_steps.nd rfl (by first | exact Or.inl rfl | exact Or.inr rfl) (pe_gf G_law_take (hr.mono (by decide)) tk_def (pa_cons (pv 0) (pa_cons (pv 1) (pa_cons pe_int pa_nil)))))
        (pss_cons (ps_set (i := 9) sc_law_steps.nd rfl (by first | exact Or.inl rfl | exact Or.inr rfl) (pe_lst pa_nil))
        (pss_cons (ps_for po_def rfl (pi_range1 (by rfl) Z.z_range (pa_cons pe_int pa_nil)) (pg_name (i := 10) sc_law_steps.nd rfl (by first | exact Or.inl rfl | exact Or.inr rfl))
          (pss_cons (ps_set (i := 11) sc_law_steps.nd rfl (by first | exact Or.inl rfl | exact Or.inr rfl) (pe_gf G_law_take (hr.mono (by decide)) tk_def (pa_cons (pv 0) (pa_cons (pv 1) (pa_cons (pe_op op_addU (pv 7) pe_int) pa_nil)))))
            (pss_one (ps_expr (pe_bmK (K := K) rfl PySem.F.plainAttrs_list PySem.F.slot_list_append PySem.F.type_list_append mt_append (pv 9) (pa_cons (pe_op op_sub (pv 11) (pe_op op_mul (pe_callTy call_intU (by rfl) Z.z_int (by decide +kernel) (pa_cons (pe_cmpR op_ge (pv 11) (pv 7) (nomark _)) pa_nil)) (pe_op op_addU (pe_op op_sub (pv 11) (pv 7)) pe_int))) pa_nil))))))
        (pss_cons (ps_set (i := 12) sc_law_steps.nd rfl (by first | exact Or.inl rfl | exact Or.inr rfl) (pe_tup (pa_cons (pv 8) (pa_cons (pe_ix (ix_seqK (K := K) rfl) (pv 9) pe_int (fun _ _ => rfl)) (pa_cons (pe_ix (ix_seqK (K := K) rfl) (pv 9) pe_int (fun _ _ => rfl)) (pa_cons (pe_ix (ix_seqK (K := K) rfl) (pv 9) pe_int (fun _ _ => rfl)) pa_nil))))))
        (pss_cons (ps_if (pt_cmpR op_gt (pe_op op_addU (pv 2) (pe_callB (call_lenK (K := K) rfl) (by rfl) Z.z_len (by decide +kernel) (pa_cons (pe_gf G_law_gains (hr.mono (by decide)) tk_def (pa_cons (pe_op op_addU (pv 5) (pe_lst (pa_cons (pv 12) pa_nil))) pa_nil)) pa_nil))) (pv 4) (nomark _))
          (pss_one (ps_set (i := 12) sc_law_steps.nd rfl (by first | exact Or.inl rfl | exact Or.inr rfl) (pe_tup (pa_cons (pe_op op_mod (pe_callTy call_intU (by rfl) Z.z_int (by decide +kernel) (pa_cons (pv 8) pa_nil)) pe_int) (pa_cons (pe_ix (ix_seqK (K := K) rfl) (pv 9) pe_int (fun _ _ => rfl)) (pa_cons (pe_ix (ix_seqK (K := K) rfl) (pv 9) pe_int (fun _ _ => rfl)) (pa_cons (pe_ix (ix_seqK (K := K) rfl) (pv 9) pe_int (fun _ _ => rfl)) pa_nil)))))))
          pss_nil)
        (pss_one (ps_expr (pe_bmK (K := K) rfl PySem.F.plainAttrs_list PySem.F.slot_list_append PySem.F.type_list_append mt_append (pv 5) (pa_cons (pv 12) pa_nil)))))))))))
    (pss_one (ps_ret (pv 5))))), fun ds μ Pd X h => ?_⟩
  · obtain ⟨zs, a, n, inp, many, wide, rfl, _⟩ := h; rfl
  · obtain ⟨zs, a, n, inp, many, wide, rfl, hz, ha, hin, hmn, hp⟩ := h
    have sl : ∀ n, n ≤ 100000 → n ≤ sizeLine := fun n h => Nat.le_of_lt (szl n h)
    let Γs : Option Nm.D → Option Nm.D → Option Nm.D → Option Nm.D → Option Nm.D → Option Nm.D → Option Nm.D → Option Nm.D → Gm := fun g5 g6 g7 g8 g9 g10 g11 g12 => [some (.lst (intsD zs)), some (.ref a), some (.int (inp : Int)), some (.int (many : Int)), some (.int (wide : Int)), g5, g6, g7, g8, g9, g10, g11, g12]
    show Ws K (wOf E) _ (Γs none none none none none none none none) μ _
    refine ws_seq (ws_set (we_lstM ?_))
    walk_at "w"
    refine ⟨Nat.zero_le _, fun l hl0 => ?_⟩
    have al : a ≠ l := mu_ne ha hl0
    have hla : ∀ n', um μ a (.lst [.int n']) l = none := fun n' => by rw [um_ne (Ne.symm al)]; exact hl0
    show Ws K (wOf E) _ (Γs (some (.ref l)) none none none none none none none) (um μ l (.lst (stpsD []))) _
    have e0 : um μ l (.lst (stpsD [])) = um (um μ a (.lst [.int n])) l (.lst (stpsD [])) := by rw [um_self ha]
    rw [e0]
    walk_at "w"
    refine ⟨by omega, ?_⟩
    refine ⟨fun i Γ' μ' => (∃ g6 g7 g8 g9 g10 g11 g12, Γ' = Γs (some (.ref l)) g6 g7 g8 g9 g10 g11 g12) ∧ ∃ (ss : List Stp) (n' : Int), μ' = um (um μ a (.lst [.int n'])) l (.lst (stpsD ss)) ∧ ss.length = i ∧ OkS inp ss ∧ (inp ≤ wide → inp + (lgains ss).length ≤ wide),
      ⟨⟨_, _, _, _, _, _, _, rfl⟩, [], n, rfl, rfl, fun j s hj => (by cases hj), fun h => h⟩, ?_, ?_⟩
    · rintro i d Γ' μ' hi ⟨⟨g6, g7, g8, g9, g10, g11, g12, rfl⟩, ss, n1, rfl, hsl, hok, hwd⟩
      obtain ⟨hi1, rfl⟩ := rng0_get hi
      walk_at "w"
      refine ⟨zs, a, n1, 6, rfl, hz, by decide, by rw [um_ne al]; exact um_same, fun kd n2 h0 h6 => ?_⟩
      obtain ⟨kd, rfl⟩ := Int.eq_ofNat_of_zero_le h0
      have e1 : ∀ (x y : Int), um (um (um μ a (.lst [.int x])) l (.lst (stpsD ss))) a (.lst [.int y]) = um (um μ a (.lst [.int y])) l (.lst (stpsD ss)) := fun x y => um_swap (Ne.symm al)
      rw [e1]
      walk_at "w"
      refine we_lstM ?_
      walk_at "w"
      refine ⟨Nat.zero_le _, fun q hq0 => ?_⟩
      have lq : l ≠ q := mu_ne um_same hq0
      have aq : a ≠ q := mu_ne (by rw [um_ne al]; exact um_same) hq0
      have hq1 : ∀ n : Int, um (um μ a (.lst [.int n])) l (.lst (stpsD ss)) q = none := fun n => by
        rw [um_ne (Ne.symm lq), um_ne (Ne.symm aq)] at hq0 ⊢; exact hq0
      walk_at "w"
      have hsw : ∀ (n n' : Int) (row : List Nat), um (um (um (um μ a (.lst [.int n])) l (.lst (stpsD ss))) q (.lst (numsD row))) a (.lst [.int n']) = um (um (um μ a (.lst [.int n'])) l (.lst (stpsD ss))) q (.lst (numsD row)) := fun n n' row => by
        rw [um_comm (Ne.symm aq), um_swap (Ne.symm al)]
      refine ⟨by decide, ?_⟩
      refine ⟨fun j Γ' μ' => (∃ g10 g11, Γ' = Γs (some (.ref l)) (some (.int (i : Int))) (some (.int (1 + inp + i : Nat))) (some (.int (kd : Int))) (some (.ref q)) g10 g11 g12) ∧ ∃ (row : List Nat) (n' : Int), μ' = um (um (um μ a (.lst [.int n'])) l (.lst (stpsD ss))) q (.lst (numsD row)) ∧ row.length = j ∧ ∀ x ∈ row, x < 1 + inp + i,
        ⟨⟨_, _, by
          refine congrArg (fun z => [some (.lst (intsD zs)), some (.ref a), some (.int (inp : Int)), some (.int (many : Int)), some (.int (wide : Int)), some (.ref l), some (.int (i : Int)), some (Nm.D.int z), some (.int (kd : Int)), some (.ref q), g10, g11, g12]) ?_
          omega⟩, [], n2, rfl, rfl, fun x hx => (by cases hx)⟩, ?_, ?_⟩
      · rintro j d Γ' μ' hj ⟨⟨g10, g11, rfl⟩, row, n3, rfl, hrw, hrm⟩
        obtain ⟨hj1, rfl⟩ := rng0_get hj
        have hj1 : j < 3 := hj1
        walk_at "w"
        refine ⟨zs, a, n3, _, rfl, hz, by omega, by rw [um_ne aq, um_ne al]; exact um_same, fun sp n4 h4 h5 => ?_⟩
        rw [hsw]
        obtain ⟨sp, rfl⟩ := Int.eq_ofNat_of_zero_le h4
        walk_at "w"
        refine dIC_ii ?_ ?_
        · refine cmulL ?_ ?_ <;> split <;> decide
        walk_at "w"
        refine dApp um_same (szl _ (by rw [numsD_length]; omega)) ?_
        rw [um_um]
        have ev : (sp : Int) - (if decide (((1 + inp + i : Nat) : Int) ≤ (sp : Int)) = true then 1 else 0) * ((sp : Int) - ((1 + inp + i : Nat) : Int) + 1) = ((if 1 + inp + i ≤ sp then inp + i else sp : Nat) : Int) := by
          by_cases q : 1 + inp + i ≤ sp
          · rw [if_pos q, decide_eq_true (show ((1 + inp + i : Nat) : Int) ≤ (sp : Int) by omega), if_pos rfl]
            omega
          · rw [if_neg q, decide_eq_false (show ¬ ((1 + inp + i : Nat) : Int) ≤ (sp : Int) by omega), if_neg Bool.false_ne_true]
            omega
        rw [ev, numsD_app]
        refine Fo.of ⟨⟨_, _, rfl⟩, row ++ [_], n4, rfl, by rw [List.length_append, hrw]; rfl, fun x hx => ?_⟩
        rcases List.mem_append.mp hx with hx | hx
        · exact hrm x hx
        · rw [List.mem_singleton.mp hx]
          split <;> omega
      · rintro Γ' μ' ⟨⟨g10, g11, rfl⟩, row, n3, rfl, hrw, hrm⟩
        have hrw : row.length = 3 := by rw [rng0_length] at hrw; exact hrw
        obtain ⟨x, y, z, rfl⟩ : ∃ x y z, row = [x, y, z] := by
          match row, hrw with
          | [x, y, z], _ => exact ⟨x, y, z, rfl⟩
        have hx := hrm x (by simp)
        have hy := hrm y (by simp)
        have hz' := hrm z (by simp)
        refine ws_freeze (i := 9) um_same rfl ?_
        rw [dm_um (hq1 n3)]
        show Ws K (wOf E) _ (Γs (some (.ref l)) (some (.int (i : Int))) (some (.int (1 + inp + i : Nat))) (some (.int (kd : Int))) (some (.lst (numsD [x, y, z]))) g10 g11 g12) _ _
        walk_at "w"
        refine dIx_l (atI_nat (j := 0) (show (numsD [x, y, z])[0]? = some (.int (x : Int)) from rfl)) ?_
        walk_at "w"
        refine dIx_l (atI_nat (j := 1) (show (numsD [x, y, z])[1]? = some (.int (y : Int)) from rfl)) ?_
        walk_at "w"
        refine dIx_l (atI_nat (j := 2) (show (numsD [x, y, z])[2]? = some (.int (z : Int)) from rfl)) ?_
        walk_at "w"
        refine ⟨sl 4 (by decide), ?_⟩
        walk_at "w"
        refine we_lst ?_
        walk_at "w"
        refine ⟨sl 1 (by decide), ?_⟩
        refine ⟨_, um_same, sl _ (by rw [List.length_map]; show _ + 1 ≤ _; omega), ?_⟩
        have e2 : stpsD ss ++ [Nm.D.tup [.int (kd : Int), .int (x : Int), .int (y : Int), .int (z : Int)]] = stpsD (ss ++ [⟨kd, x, y, z⟩]) := (List.map_append (f := stpD) (l₁ := ss) (l₂ := [⟨kd, x, y, z⟩])).symm
        rw [e2]
        walk_at "w"
        refine ⟨ss ++ [⟨kd, x, y, z⟩], rfl, by rw [List.length_append]; show _ + 1 ≤ _; omega, ?_⟩
        walk_at "w"
        refine iteD (fun hw => ?_) (fun hw => ?_)
        · rw [List.length_map] at hw
          walk_at "w"
          refine dIC_ii (by decide) ?_
          walk_at "w"
          refine dIx_l (atI_nat (j := 0) (show (numsD [x, y, z])[0]? = some (.int (x : Int)) from rfl)) ?_
          walk_at "w"
          refine dIx_l (atI_nat (j := 1) (show (numsD [x, y, z])[1]? = some (.int (y : Int)) from rfl)) ?_
          walk_at "w"
          refine dIx_l (atI_nat (j := 2) (show (numsD [x, y, z])[2]? = some (.int (z : Int)) from rfl)) ?_
          walk_at "w"
          refine ⟨sl 4 (by decide), ?_⟩
          walk_at "w"
          refine dApp um_same (szl _ (by rw [List.length_map]; omega)) ?_
          rw [um_um]
          have e3 : stpsD ss ++ [Nm.D.tup [.int ((kd : Int) % 2), .int (x : Int), .int (y : Int), .int (z : Int)]] = stpsD (ss ++ [⟨kd % 2, x, y, z⟩]) := (List.map_append (f := stpD) (l₁ := ss) (l₂ := [⟨kd % 2, x, y, z⟩])).symm
          rw [e3]
          refine Fo.of ⟨⟨_, _, _, _, _, _, _, rfl⟩, _, n3, rfl, by rw [List.length_append, hsl]; rfl, hok.app ⟨by show kd % 2 < 6; omega, by rw [hsl]; exact hx, by rw [hsl]; exact hy, by rw [hsl]; exact hz'⟩, fun hle => ?_⟩
          rw [lgains_app]
          have : prs ⟨kd % 2, x, y, z⟩ = [] := by
            unfold prs
            have h2 : kd % 2 < 2 := Nat.mod_lt _ (by decide)
            rw [if_neg (by show ¬ (kd % 2 = 2 ∨ kd % 2 = 4); omega), if_neg (by show ¬ (kd % 2 = 3); omega), if_neg (by show ¬ (kd % 2 = 5); omega)]
          rw [this]
          exact hwd hle
        · rw [List.length_map] at hw
          walk_at "w"
          refine dApp um_same (szl _ (by rw [List.length_map]; omega)) ?_
          rw [um_um, e2]
          refine Fo.of ⟨⟨_, _, _, _, _, _, _, rfl⟩, _, n3, rfl, by rw [List.length_append, hsl]; rfl, hok.app ⟨by show kd < 6; omega, by rw [hsl]; exact hx, by rw [hsl]; exact hy, by rw [hsl]; exact hz'⟩, fun hle => by omega⟩
    · rintro Γ' μ' ⟨⟨g6, g7, g8, g9, g10, g11, g12, rfl⟩, ss, n', rfl, hsl, hok, hwd⟩
      rw [rng0_length] at hsl
      refine ws_freeze (i := 5) um_same rfl ?_
      rw [dm_um (hla n')]
      show Ws K (wOf E) _ (Γs (some (.lst (stpsD ss))) g6 g7 g8 g9 g10 g11 g12) _ _
      walk_at "w"
      exact ret_of (hp ss n' hsl hok hwd)
end
end Nm
namespace Nm
open PySem PySem.Spec PyProof.Rows L2
local macro_rules | `(tactic| walk_at "s") => `(tactic| first
  | (guard_target =~ Ws _ _ _ _ _ _; first | with_reducible refine ws_seq ?_ | with_reducible refine ws_set ?_ | with_reducible refine ws_if ?_ | with_reducible refine ws_ret ?_ | with_reducible refine ws_asg ?_ | with_reducible refine ws_drop ?_ | with_reducible refine ws_next ?_ | with_reducible refine ws_for ?_ | with_reducible refine ws_brk ?_ | with_reducible refine ws_cont ?_ | with_reducible refine ws_retN ?_ | with_reducible refine ws_fld ?_)
  | (guard_target =~ Wa _ _ _ _ _ _ _; first | with_reducible refine wa_cons ?_ | with_reducible refine wa_nil ?_)
  | (guard_target =~ We _ _ _ _ _ _ _; first | (guard_target =~ We _ _ (tOp _ _ _) _ _ _ _; first | with_reducible refine we_op opS_add ?_ | with_reducible refine we_op opS_sub ?_ | with_reducible refine we_op opS_mul ?_ | with_reducible refine we_op opS_mod ?_ | with_reducible refine we_op opS_div ?_ | with_reducible refine we_op opS_ix ?_ | with_reducible refine we_op opS_eq ?_ | with_reducible refine we_op opS_ne ?_ | with_reducible refine we_op opS_lt ?_ | with_reducible refine we_op opS_le ?_ | with_reducible refine we_op opS_gt ?_ | with_reducible refine we_op opS_ge ?_ | with_reducible refine we_op opS_in ?_ | with_reducible refine we_op opS_notIn ?_ | with_reducible refine we_op opS_and ?_ | with_reducible refine we_op opS_or ?_ | with_reducible refine we_op opS_shr ?_ | with_reducible refine we_op opS_shl ?_ | with_reducible refine we_op opS_pow ?_ | with_reducible refine we_op opS_isN ?_ | with_reducible refine we_op opS_notN ?_ | with_reducible refine we_op opS_xor ?_) | (guard_target =~ We _ _ (tCB _ _) _ _ _ _; first | with_reducible refine we_cb cbS_len ?_ | with_reducible refine we_cb cbS_int ?_ | with_reducible refine we_cb cbS_bool ?_ | with_reducible refine we_cb cbS_max ?_ | with_reducible refine we_cb cbS_min ?_ | with_reducible refine we_cb cbS_isi ?_) | with_reducible refine we_var rfl ?_ | with_reducible refine we_int ?_ | with_reducible refine we_str ?_ | with_reducible refine we_bl ?_ | with_reducible refine we_non ?_ | with_reducible refine we_ty ?_ | with_reducible refine we_ref ?_ | with_reducible refine we_sl ?_ | with_reducible refine we_orT ?_ | with_reducible refine we_andT ?_ | with_reducible refine we_notT ?_ | with_reducible refine we_if ?_ | with_reducible refine we_tup ⟨?_, ?_⟩ | with_reducible refine we_tup ?_ | with_reducible refine we_fld ?_ | with_reducible refine we_call (dds := []) (fun _ => HasL.nil) ?_ | with_reducible refine we_call0 (dds := []) (fun _ => HasL.nil) ?_ | with_reducible refine we_meth (dds := []) (fun _ => HasL.nil) ?_ | with_reducible refine we_bm mS_append ?_ | with_reducible refine we_bm mS_extend ?_ | with_reducible refine we_bm0 mS_clear ?_ | with_reducible refine we_bm mS_indexS ?_ | with_reducible refine we_bm mS_join ?_ | with_reducible refine we_bm mS_split ?_ | with_reducible refine we_bm mS_part ?_ | with_reducible refine we_un unS_neg ?_ | with_reducible refine we_un unS_inv ?_)
  | (guard_target =~ Wt _ _ _ _ _ _ _; first | with_reducible refine wt_test ?_ | with_reducible refine wt_tr ?_ | with_reducible refine wt_not ?_ | with_reducible refine wt_and ?_ | with_reducible refine wt_or ?_ | with_reducible refine wt_val ?_ | with_reducible refine wt_yes ?_)
  | (guard_target =~ Wg _ _ _ _ _ _; first | with_reducible refine wg_name ?_)
  | (guard_target =~ Wgs _ _ _ _ _ _; first | with_reducible refine wgs_cons ?_ | with_reducible refine wgs_nil ?_)
  | (guard_target =~ Wi _ _ _ _ _ _ _; first | with_reducible refine wi_str ?_ | with_reducible refine wi_list ?_ | with_reducible refine wi_rngN ?_ | with_reducible refine wi_rng2 ?_)
  | (guard_target =~ Wo _ _ _ _ _ _ _; first | with_reducible refine wo_none ?_ | with_reducible refine wo_some ?_)
  | with_reducible refine dAdd_ii ?_
  | with_reducible refine dI_ii ?_
  | with_reducible refine dU_i ?_
  | with_reducible refine dEq_fi ?_
  | with_reducible refine dEq_ti ?_
  | with_reducible refine dEq_fs ?_
  | with_reducible refine dEq_ts ?_
  | with_reducible refine dEq_fb ?_
  | with_reducible refine dEq_tb ?_
  | with_reducible refine dEq_sn ?_
  | with_reducible refine dEq_ns ?_
  | with_reducible refine dEq_nn ?_
  | with_reducible refine dIn_fs ?_
  | with_reducible refine dIn_ts ?_
  | with_reducible refine dIn_fi ?_
  | with_reducible refine dIn_ti ?_
  | with_reducible refine dIn_tc ?_
  | with_reducible refine dIn_fc ?_
  | with_reducible refine dSl_l ?_
  | with_reducible refine dSl_q ?_
  | with_reducible refine dLen_l ?_
  | with_reducible refine dLen_q ?_
  | (guard_target =~ dLen [.ref _] _ _; with_reducible refine dLen_r (by first | exact um_same | assumption) ?_)
  | with_reducible refine ty_l ?_
  | with_reducible refine ty_s ?_
  | (guard_target =~ tyD _ "list" (.ref _) ∧ _; with_reducible refine ty_r (by first | exact um_same | assumption) ?_)
  | with_reducible refine dLen_t ?_
  | with_reducible refine dInt_i ?_
  | with_reducible refine dInt_b ?_
  | with_reducible refine dBool_i ?_
  | with_reducible refine dMax_ii ?_
  | with_reducible refine dMin_ii ?_
  | with_reducible refine dList_l ?_
  | with_reducible refine dIsN_s ?_
  | with_reducible refine dIsN_n ?_
  | with_reducible refine dIsN_i ?_
  | with_reducible refine bl_ex ?_
  | with_reducible refine tru_b ?_
  | with_reducible refine tru_i ?_
  | with_reducible refine tru_l ?_
  | with_reducible refine iteT ?_
  | with_reducible refine iteF ?_
  | with_reducible refine iteNT ?_
  | with_reducible refine iteNF ?_
  | with_reducible refine ⟨_, rfl, ?_⟩)
local macro_rules | `(tactic| walk_at "w") => `(tactic| repeat walk_at "s")

/-! ### _law_words -/
def wordsS (k : Nat) (a b c : Str) : Str :=
  if k = 0 then "join " ++ a ++ " " ++ b else if k = 1 then "cut " ++ a ++ " " ++ b else if k = 2 then "gain " ++ a ++ " over " ++ b
  else if k = 3 then "merge " ++ a ++ " " ++ b ++ " over " ++ c else if k = 4 then "pick " ++ a ++ " over " ++ b ++ " onto " ++ c else "undo " ++ a ++ " over " ++ b ++ " in " ++ c
def sd_words : SpD := fun ds μ P _ => ∃ (s : Stp) (nm : List Str) (a b c : Str), ds = [stpD s, .lst (strsD nm)] ∧ nm[s.a]? = some a ∧ nm[s.b]? = some b ∧ nm[s.c]? = some c ∧ a.length ≤ 1000 ∧ b.length ≤ 1000 ∧ c.length ≤ 1000 ∧ P (.str (wordsS s.kd a b c)) μ
abbrev N_law_words : List Str := ["_law_step", "_law_names_here", "_law_a", "_law_b", "_law_c"]
theorem sc_law_words : FnScope N_law_words ["_law_step", "_law_names_here"] (defScope s_law_words) := ⟨rfl, rfl, rfl, by decide +kernel, rfl, by decide +kernel, by decide +kernel⟩
abbrev D_law_words (K : PySem.W.Frag) (mg : Str → Option Value) : Prop := DF K mg "_law_words" s_law_words
theorem gf_law_words {P : Program} {w : World} {K : PySem.W.Frag} {mg : Str → Option Value} {base : Heap} {k : Nat} {sp : Sp} (D : D_law_words K mg) (h : ∀ {f : Addr} {fd : FuncData}, FunD K "_law_words" "_law_words" (defArgs s_law_words) (defBody s_law_words) (defScope s_law_words) [] [] f fd → FnOk P w K mg base (L2.CX P w) k f fd ["_law_step", "_law_names_here"] sp) : GF P w K mg base "_law_words" k ["_law_step", "_law_names_here"] sp := by
  obtain ⟨f, fd, h1, h2⟩ := D.ex
  exact ⟨f, fd, h1, h2.kp, FunD.bindsN h2 fun _ _ _ _ _ _ us hl => match us, hl with | [_, _], _ => rfl, h h2⟩

section
variable {P : Program} {w : World} {K : PySem.W.Frag} {mg : Str → Option Value} {base : Heap}
theorem ok_words (D : D_law_words K mg) (Z : Zs mg) : GF P w K mg base "_law_words" 1 ["_law_step", "_law_names_here"] (toSp K sd_words) := by
  refine gf_law_words D fun F => fun_ok F sc_law_words (fun ds μ P X h => ?_) fun cdv A outer s H E hr => ⟨_, (pss_cons (ps_set (i := 2) sc_law_words.nd rfl (by first | exact Or.inl rfl | exact Or.inr rfl) (pe_ix (ix_seqK (K := K) rfl) (pv 1) (pe_ix (ix_seqK (K := K) rfl) (pv 0) pe_int (fun _ _ => rfl)) (fun _ _ => rfl)))
    (pss_cons (ps_set (i := 3) sc_law_words.nd rfl (by first | exact Or.inl rfl | exact Or.inr rfl) (pe_ix (ix_seqK (K := K) rfl) (pv 1) (pe_ix (ix_seqK (K := K) rfl) (pv 0) pe_int (fun _ _ => rfl)) (fun _ _ => rfl)))
    (pss_cons (ps_set (i := 4) sc_law_words.nd rfl (by first | exact Or.inl rfl | exact Or.inr rfl) (pe_ix (ix_seqK (K := K) rfl) (pv 1) (pe_ix (ix_seqK (K := K) rfl) (pv 0) pe_int (fun _ _ => rfl)) (fun _ _ => rfl)))
    (pss_cons (ps_if (pt_cmpR (op_eqK (K := K) rfl hr.units) (pe_ix (ix_seqK (K := K) rfl) (pv 0) pe_int (fun _ _ => rfl)) pe_int (nomark _))
      (pss_one (ps_ret (pe_op op_addU (pe_op op_addU (pe_op op_addU pe_str (pv 2)) pe_str) (pv 3))))
      pss_nil)
    (pss_cons (ps_if (pt_cmpR (op_eqK (K := K) rfl hr.units) (pe_ix (ix_seqK (K := K) rfl) (pv 0) pe_int (fun _ _ => rfl)) pe_int (nomark _))
      (pss_one (ps_ret (pe_op op_addU (pe_op op_addU (pe_op op_addU pe_str (pv 2)) pe_str) (pv 3))))
      pss_nil)
    (pss_cons (ps_if (pt_cmpR (op_eqK (K := K) rfl hr.units) (pe_ix (ix_seqK (K := K) rfl) (pv 0) pe_int (fun _ _ => rfl)) pe_int (nomark _))
      (pss_one (ps_ret (pe_op op_addU (pe_op op_addU (pe_op op_addU pe_str (pv 2)) pe_str) (pv 3))))
      pss_nil)
    (pss_cons (ps_if (pt_cmpR (op_eqK (K := K) rfl hr.units) (pe_ix (ix_seqK (K := K) rfl) (pv 0) pe_int (fun _ _ => rfl)) pe_int (nomark _))
      (pss_one (ps_ret (pe_op op_addU (pe_op op_addU (pe_op op_addU (pe_op op_addU (pe_op op_addU pe_str (pv 2)) pe_str) (pv 3)) pe_str) (pv 4))))
      pss_nil)
    (pss_cons (ps_if (pt_cmpR (op_eqK (K := K) rfl hr.units) (pe_ix (ix_seqK (K := K) rfl) (pv 0) pe_int (fun _ _ => rfl)) pe_int (nomark _))
      (pss_one (ps_ret (pe_op op_addU (pe_op op_addU (pe_op op_addU (pe_op op_addU (pe_op op_addU pe_str (pv 2)) pe_str) (pv 3)) pe_str) (pv 4))))
      pss_nil)
    (pss_one (ps_ret (pe_op op_addU (pe_op op_addU (pe_op op_addU (pe_op op_addU (pe_op op_addU pe_str (pv 2)) pe_str) (pv 3)) pe_str) (pv 4)))))))))))), fun ds μ Pd X h => ?_⟩
  · obtain ⟨s, nm, a, b, c, rfl, _⟩ := h; rfl
  · obtain ⟨s, nm, a, b, c, rfl, ha, hb, hc, la, lb, lc, hp⟩ := h
    have sl : ∀ n, n ≤ 100000 → n ≤ sizeLine := fun n h => Nat.le_of_lt (szl n h)
    show Ws K (wOf E) _ [some (stpD s), some (.lst (strsD nm)), none, none, none] μ _
    have at0 : atI [Nm.D.int (s.kd : Int), .int (s.a : Int), .int (s.b : Int), .int (s.c : Int)] 0 = some (.int (s.kd : Int)) := atI_nat (j := 0) rfl
    have at1 : atI [Nm.D.int (s.kd : Int), .int (s.a : Int), .int (s.b : Int), .int (s.c : Int)] 1 = some (.int (s.a : Int)) := atI_nat (j := 1) rfl
    have at2 : atI [Nm.D.int (s.kd : Int), .int (s.a : Int), .int (s.b : Int), .int (s.c : Int)] 2 = some (.int (s.b : Int)) := atI_nat (j := 2) rfl
    have at3 : atI [Nm.D.int (s.kd : Int), .int (s.a : Int), .int (s.b : Int), .int (s.c : Int)] 3 = some (.int (s.c : Int)) := atI_nat (j := 3) rfl
    unfold wordsS at hp
    have ca : ∀ {x y : Str} {P : PD}, x.length + y.length ≤ 100000 → P (.str (x ++ y)) μ → dAdd (.str x) (.str y) μ P := fun h p => dAdd_ss (sl _ h) p
    have l1 : (" " : Str).length = 1 := by decide +kernel
    have l2 : (" over " : Str).length = 6 := by decide +kernel
    have l3 : (" onto " : Str).length = 6 := by decide +kernel
    have l4 : (" in " : Str).length = 4 := by decide +kernel
    have m0 : ("join " : Str).length = 5 := by decide +kernel
    have m1 : ("cut " : Str).length = 4 := by decide +kernel
    have m2 : ("gain " : Str).length = 5 := by decide +kernel
    have m3 : ("merge " : Str).length = 6 := by decide +kernel
    have m4 : ("pick " : Str).length = 5 := by decide +kernel
    have m5 : ("undo " : Str).length = 5 := by decide +kernel
    walk_at "w"
    refine dIx_t at1 ?_
    walk_at "w"
    refine dIx_l (atI_nat (strsD_get ha)) ?_
    walk_at "w"
    refine dIx_t at2 ?_
    walk_at "w"
    refine dIx_l (atI_nat (strsD_get hb)) ?_
    walk_at "w"
    refine dIx_t at3 ?_
    walk_at "w"
    refine dIx_l (atI_nat (strsD_get hc)) ?_
    walk_at "w"
    refine dIx_t at0 ?_
    walk_at "w"
    refine iteD (fun h0 => ?_) (fun h0 => ?_)
    · rw [if_pos (by omega)] at hp
      walk_at "w"
      refine ca (by omega) ?_
      walk_at "w"
      refine ca (by rw [len_app]; omega) ?_
      walk_at "w"
      refine ca (by rw [len_app, len_app]; omega) ?_
      exact ret_of hp
    rw [if_neg (by omega)] at hp
    walk_at "w"
    refine dIx_t at0 ?_
    walk_at "w"
    refine iteD (fun h1 => ?_) (fun h1 => ?_)
    · rw [if_pos (by omega)] at hp
      walk_at "w"
      refine ca (by omega) ?_
      walk_at "w"
      refine ca (by rw [len_app]; omega) ?_
      walk_at "w"
      refine ca (by rw [len_app, len_app]; omega) ?_
      exact ret_of hp
    rw [if_neg (by omega)] at hp
    walk_at "w"
    refine dIx_t at0 ?_
    walk_at "w"
    refine iteD (fun h2 => ?_) (fun h2 => ?_)
    · rw [if_pos (by omega)] at hp
      walk_at "w"
      refine ca (by omega) ?_
      walk_at "w"
      refine ca (by rw [len_app]; omega) ?_
      walk_at "w"
      refine ca (by rw [len_app, len_app]; omega) ?_
      exact ret_of hp
    rw [if_neg (by omega)] at hp
    walk_at "w"
    refine dIx_t at0 ?_
    walk_at "w"
    refine iteD (fun h3 => ?_) (fun h3 => ?_)
    · rw [if_pos (by omega)] at hp
      walk_at "w"
      refine ca (by omega) ?_
      walk_at "w"
      refine ca (by rw [len_app]; omega) ?_
      walk_at "w"
      refine ca (by rw [len_app, len_app]; omega) ?_
      walk_at "w"
      refine ca (by rw [len_app, len_app, len_app]; omega) ?_
      walk_at "w"
      refine ca (by rw [len_app, len_app, len_app, len_app]; omega) ?_
      exact ret_of hp
    rw [if_neg (by omega)] at hp
    walk_at "w"
    refine dIx_t at0 ?_
    walk_at "w"
    refine iteD (fun h4 => ?_) (fun h4 => ?_)
    · rw [if_pos (by omega)] at hp
      walk_at "w"
      refine ca (by omega) ?_
      walk_at "w"
      refine ca (by rw [len_app]; omega) ?_
      walk_at "w"
      refine ca (by rw [len_app, len_app]; omega) ?_
      walk_at "w"
      refine ca (by rw [len_app, len_app, len_app]; omega) ?_
      walk_at "w"
      refine ca (by rw [len_app, len_app, len_app, len_app]; omega) ?_
      exact ret_of hp
    rw [if_neg (by omega)] at hp
    walk_at "w"
    refine ca (by omega) ?_
    walk_at "w"
    refine ca (by rw [len_app]; omega) ?_
    walk_at "w"
    refine ca (by rw [len_app, len_app]; omega) ?_
    walk_at "w"
    refine ca (by rw [len_app, len_app, len_app]; omega) ?_
    walk_at "w"
    refine ca (by rw [len_app, len_app, len_app, len_app]; omega) ?_
    exact ret_of hp
end
/-! plain: what these texts are as steps -/
def kindN (k : Nat) : Str := if k = 0 then "join" else if k = 1 then "cut" else if k = 2 then "gain" else if k = 3 then "merge" else if k = 4 then "pick" else "undo"
def wordL (k : Nat) (a b c : Str) : List Str :=
  if k = 0 then ["join", a, b] else if k = 1 then ["cut", a, b] else if k = 2 then ["gain", a, "over", b]
  else if k = 3 then ["merge", a, b, "over", c] else if k = 4 then ["pick", a, "over", b, "onto", c] else ["undo", a, "over", b, "in", c]
def opsN (k : Nat) (a b c : Str) : List Str := if k < 3 then [a, b] else [a, b, c]
theorem k6 {k : Nat} {Q : Nat → Prop} (hk : k < 6) (h0 : Q 0) (h1 : Q 1) (h2 : Q 2) (h3 : Q 3) (h4 : Q 4) (h5 : Q 5) : Q k := by
  match k, hk with
  | 0, _ => exact h0
  | 1, _ => exact h1
  | 2, _ => exact h2
  | 3, _ => exact h3
  | 4, _ => exact h4
  | 5, _ => exact h5
theorem words_join {k : Nat} {a b c : Str} (hk : k < 6) : wordsS k a b c = Txt.join " " (wordL k a b c) := by
  rw [TL.join_eq]
  refine TL.ext_tl ?_
  have s1 : TL.tl (" over " : Str) = [32] ++ (TL.tl ("over" : Str) ++ [32]) := by decide +kernel
  have s2 : TL.tl (" onto " : Str) = [32] ++ (TL.tl ("onto" : Str) ++ [32]) := by decide +kernel
  have s3 : TL.tl (" in " : Str) = [32] ++ (TL.tl ("in" : Str) ++ [32]) := by decide +kernel
  have t0 : TL.tl ("join " : Str) = TL.tl ("join" : Str) ++ [32] := by decide +kernel
  have t1 : TL.tl ("cut " : Str) = TL.tl ("cut" : Str) ++ [32] := by decide +kernel
  have t2 : TL.tl ("gain " : Str) = TL.tl ("gain" : Str) ++ [32] := by decide +kernel
  have t3 : TL.tl ("merge " : Str) = TL.tl ("merge" : Str) ++ [32] := by decide +kernel
  have t4 : TL.tl ("pick " : Str) = TL.tl ("pick" : Str) ++ [32] := by decide +kernel
  have t5 : TL.tl ("undo " : Str) = TL.tl ("undo" : Str) ++ [32] := by decide +kernel
  refine k6 (Q := fun k => TL.tl (wordsS k a b c) = TL.tl (Str.join " " (wordL k a b c))) hk ?_ ?_ ?_ ?_ ?_ ?_
  · show TL.tl ("join " ++ a ++ " " ++ b) = TL.tl ("join" ++ " " ++ (a ++ " " ++ b))
    simp only [TL.tl_append, t0, tl_sp, List.append_assoc]
  · show TL.tl ("cut " ++ a ++ " " ++ b) = TL.tl ("cut" ++ " " ++ (a ++ " " ++ b))
    simp only [TL.tl_append, t1, tl_sp, List.append_assoc]
  · show TL.tl ("gain " ++ a ++ " over " ++ b) = TL.tl ("gain" ++ " " ++ (a ++ " " ++ ("over" ++ " " ++ b)))
    simp only [TL.tl_append, t2, s1, tl_sp, List.append_assoc]
  · show TL.tl ("merge " ++ a ++ " " ++ b ++ " over " ++ c) = TL.tl ("merge" ++ " " ++ (a ++ " " ++ (b ++ " " ++ ("over" ++ " " ++ c))))
    simp only [TL.tl_append, t3, s1, tl_sp, List.append_assoc]
  · show TL.tl ("pick " ++ a ++ " over " ++ b ++ " onto " ++ c) = TL.tl ("pick" ++ " " ++ (a ++ " " ++ ("over" ++ " " ++ (b ++ " " ++ ("onto" ++ " " ++ c)))))
    simp only [TL.tl_append, t4, s1, s2, tl_sp, List.append_assoc]
  · show TL.tl ("undo " ++ a ++ " over " ++ b ++ " in " ++ c) = TL.tl ("undo" ++ " " ++ (a ++ " " ++ ("over" ++ " " ++ (b ++ " " ++ ("in" ++ " " ++ c)))))
    simp only [TL.tl_append, t5, s1, s3, tl_sp, List.append_assoc]
theorem wordL_names {k : Nat} {a b c : Str} (ha : isName a = true) (hb : isName b = true) (hc : isName c = true) (hk : k < 6) : ∀ x ∈ wordL k a b c, isName x = true := by
  have e : ∀ x ∈ (["join", "cut", "gain", "merge", "pick", "undo", "over", "onto", "in"] : List Str), isName x = true := by decide +kernel
  have el : ∀ x : Str, x = a ∨ x = b ∨ x = c ∨ x ∈ (["join", "cut", "gain", "merge", "pick", "undo", "over", "onto", "in"] : List Str) → isName x = true := fun x h => by
    rcases h with rfl | rfl | rfl | h
    · exact ha
    · exact hb
    · exact hc
    · exact e x h
  intro x hx
  refine el x ?_
  revert hx
  refine k6 (Q := fun k => x ∈ wordL k a b c → _) hk ?_ ?_ ?_ ?_ ?_ ?_ <;>
  · intro hx
    simp [wordL] at hx
    simp only [List.mem_cons]
    rcases hx with h | h | h | h | h | h <;> first | (subst h; simp) | (rcases h with h | h | h <;> subst h <;> simp) | (rcases h with h | h <;> subst h <;> simp) | simp_all
theorem words_split {k : Nat} {a b c : Str} (ha : isName a = true) (hb : isName b = true) (hc : isName c = true) (hk : k < 6) : Txt.split (wordsS k a b c) " " = wordL k a b c := by
  rw [words_join hk]
  refine TL.split_join tl_sp (by decide +kernel) ?_ fun p hp => name_no (wordL_names ha hb hc hk p hp) (by decide)
  refine k6 (Q := fun k => wordL k a b c ≠ []) hk ?_ ?_ ?_ ?_ ?_ ?_ <;> (simp [wordL])
theorem words_kind {k : Nat} {a b c : Str} (ha : isName a = true) (hb : isName b = true) (hc : isName c = true) (hk : k < 6) : (Txt.split (wordsS k a b c) " ").headD "" = kindN k := by
  rw [words_split ha hb hc hk]
  exact k6 (Q := fun k => (wordL k a b c).headD "" = kindN k) hk rfl rfl rfl rfl rfl rfl
theorem words_parts {k : Nat} {a b c : Str} (ha : isName a = true) (hb : isName b = true) (hc : isName c = true) (hk : k < 6) : partsOf (wordsS k a b c) = some (opsN k a b c) := by
  unfold partsOf
  rw [words_kind ha hb hc hk, words_split ha hb hc hk]
  have f0 : rowAt tFORMS "join" = some ([some "join", none, none] : List (Option Str)) := by decide +kernel
  have f1 : rowAt tFORMS "cut" = some ([some "cut", none, none] : List (Option Str)) := by decide +kernel
  have f2 : rowAt tFORMS "gain" = some ([some "gain", none, some "over", none] : List (Option Str)) := by decide +kernel
  have f3 : rowAt tFORMS "merge" = some ([some "merge", none, none, some "over", none] : List (Option Str)) := by decide +kernel
  have f4 : rowAt tFORMS "pick" = some ([some "pick", none, some "over", none, some "onto", none] : List (Option Str)) := by decide +kernel
  have f5 : rowAt tFORMS "undo" = some ([some "undo", none, some "over", none, some "in", none] : List (Option Str)) := by decide +kernel
  refine k6 (Q := fun k => (match rowAt tFORMS (kindN k) with
    | some fs => if fitsF (wordL k a b c) fs = true then some (pickF (wordL k a b c) fs) else none
    | none => none) = some (opsN k a b c)) hk ?_ ?_ ?_ ?_ ?_ ?_
  · show (match rowAt tFORMS "join" with | some fs => if fitsF ["join", a, b] fs = true then some (pickF ["join", a, b] fs) else none | none => none) = some [a, b]
    rw [f0]; simp [fitsF, pickF]
  · show (match rowAt tFORMS "cut" with | some fs => if fitsF ["cut", a, b] fs = true then some (pickF ["cut", a, b] fs) else none | none => none) = some [a, b]
    rw [f1]; simp [fitsF, pickF]
  · show (match rowAt tFORMS "gain" with | some fs => if fitsF ["gain", a, "over", b] fs = true then some (pickF ["gain", a, "over", b] fs) else none | none => none) = some [a, b]
    rw [f2]; simp [fitsF, pickF]
  · show (match rowAt tFORMS "merge" with | some fs => if fitsF ["merge", a, b, "over", c] fs = true then some (pickF ["merge", a, b, "over", c] fs) else none | none => none) = some [a, b, c]
    rw [f3]; simp [fitsF, pickF]
  · show (match rowAt tFORMS "pick" with | some fs => if fitsF ["pick", a, "over", b, "onto", c] fs = true then some (pickF ["pick", a, "over", b, "onto", c] fs) else none | none => none) = some [a, b, c]
    rw [f4]; simp [fitsF, pickF]
  · show (match rowAt tFORMS "undo" with | some fs => if fitsF ["undo", a, "over", b, "in", c] fs = true then some (pickF ["undo", a, "over", b, "in", c] fs) else none | none => none) = some [a, b, c]
    rw [f5]; simp [fitsF, pickF]
theorem words_fit {k : Nat} {a b c : Str} (hk : k < 6) : fitK (kindN k) (opsN k a b c) := by
  refine k6 (Q := fun k => fitK (kindN k) (opsN k a b c)) hk (.inl rfl) (.inr (.inl rfl)) (.inr (.inr (.inl ⟨.inl rfl, Nat.le_refl _⟩))) (.inr (.inr (.inr ⟨?_, rfl⟩))) (.inr (.inr (.inl ⟨.inr rfl, by show 2 ≤ 3; decide⟩))) (.inr (.inr (.inr ⟨?_, rfl⟩))) <;> (show ¬ ((_ : Str) = _ ∨ _); decide +kernel)
/-- the pairs of names whose gains a step takes -/
def prsN (k : Nat) (a b c : Str) : List (Str × Str) := if k = 2 ∨ k = 4 then [(a, b)] else if k = 3 then [(a, c), (b, c)] else if k = 5 then [(c, a), (b, a)] else []
theorem words_pairs {k : Nat} {a b c : Str} (hk : k < 6) : gainsS (kindN k) (opsN k a b c) = prsN k a b c := by
  refine k6 (Q := fun k => gainsS (kindN k) (opsN k a b c) = prsN k a b c) hk ?_ ?_ ?_ ?_ ?_ ?_
  · show (if ("join" : Str) = "join" ∨ ("join" : Str) = "cut" then _ else _) = _
    rw [if_pos (.inl rfl)]; rfl
  · show (if ("cut" : Str) = "join" ∨ ("cut" : Str) = "cut" then _ else _) = _
    rw [if_pos (.inr rfl)]; rfl
  · show (if ("gain" : Str) = "join" ∨ ("gain" : Str) = "cut" then _ else if ("gain" : Str) = "gain" ∨ ("gain" : Str) = "pick" then _ else _) = _
    rw [if_neg (by decide +kernel), if_pos (.inl rfl)]; rfl
  · show (if ("merge" : Str) = "join" ∨ ("merge" : Str) = "cut" then _ else if ("merge" : Str) = "gain" ∨ ("merge" : Str) = "pick" then _ else if ("merge" : Str) = "merge" then _ else _) = _
    rw [if_neg (by decide +kernel), if_neg (by decide +kernel), if_pos rfl]; rfl
  · show (if ("pick" : Str) = "join" ∨ ("pick" : Str) = "cut" then _ else if ("pick" : Str) = "gain" ∨ ("pick" : Str) = "pick" then _ else _) = _
    rw [if_neg (by decide +kernel), if_pos (.inr rfl)]; rfl
  · show (if ("undo" : Str) = "join" ∨ ("undo" : Str) = "cut" then _ else if ("undo" : Str) = "gain" ∨ ("undo" : Str) = "pick" then _ else if ("undo" : Str) = "merge" then _ else _) = _
    rw [if_neg (by decide +kernel), if_neg (by decide +kernel), if_neg (by decide +kernel)]; rfl
theorem wordsS_len {k : Nat} {a b c : Str} (ha : isName a = true) (hb : isName b = true) (hc : isName c = true) (hk : k < 6) : (wordsS k a b c).length ≤ 54 := by
  rw [words_join hk]
  have h := join_len (y := " ") (b := 8) (parts := wordL k a b c) fun p hp => name_len (wordL_names ha hb hc hk p hp)
  have e : ((" " : Str)).length = 1 := by decide +kernel
  have : (wordL k a b c).length ≤ 6 := by
    refine k6 (Q := fun k => (wordL k a b c).length ≤ 6) hk ?_ ?_ ?_ ?_ ?_ ?_ <;> (simp [wordL])
  rw [e] at h
  omega
theorem wordsS_son {k : Nat} {a b c : Str} (ha : isName a = true) (hb : isName b = true) (hc : isName c = true) (hk : k < 6) : SoN (wordsS k a b c) := by
  rw [words_join hk]
  exact son_join (by decide +kernel) fun p hp => son_name (wordL_names ha hb hc hk p hp)
end Nm
namespace Nm
open PySem PySem.Spec PyProof.Rows L2
local macro_rules | `(tactic| walk_at "s") => `(tactic| first
  | (guard_target =~ Ws _ _ _ _ _ _; first | with_reducible refine ws_seq ?_ | with_reducible refine ws_set ?_ | with_reducible refine ws_if ?_ | with_reducible refine ws_ret ?_ | with_reducible refine ws_asg ?_ | with_reducible refine ws_drop ?_ | with_reducible refine ws_next ?_ | with_reducible refine ws_for ?_ | with_reducible refine ws_brk ?_ | with_reducible refine ws_cont ?_ | with_reducible refine ws_retN ?_ | with_reducible refine ws_fld ?_)
  | (guard_target =~ Wa _ _ _ _ _ _ _; first | with_reducible refine wa_cons ?_ | with_reducible refine wa_nil ?_)
  | (guard_target =~ We _ _ _ _ _ _ _; first | (guard_target =~ We _ _ (tOp _ _ _) _ _ _ _; first | with_reducible refine we_op opS_add ?_ | with_reducible refine we_op opS_sub ?_ | with_reducible refine we_op opS_mul ?_ | with_reducible refine we_op opS_mod ?_ | with_reducible refine we_op opS_div ?_ | with_reducible refine we_op opS_ix ?_ | with_reducible refine we_op opS_eq ?_ | with_reducible refine we_op opS_ne ?_ | with_reducible refine we_op opS_lt ?_ | with_reducible refine we_op opS_le ?_ | with_reducible refine we_op opS_gt ?_ | with_reducible refine we_op opS_ge ?_ | with_reducible refine we_op opS_in ?_ | with_reducible refine we_op opS_notIn ?_ | with_reducible refine we_op opS_and ?_ | with_reducible refine we_op opS_or ?_ | with_reducible refine we_op opS_shr ?_ | with_reducible refine we_op opS_shl ?_ | with_reducible refine we_op opS_pow ?_ | with_reducible refine we_op opS_isN ?_ | with_reducible refine we_op opS_notN ?_ | with_reducible refine we_op opS_xor ?_) | (guard_target =~ We _ _ (tCB _ _) _ _ _ _; first | with_reducible refine we_cb cbS_len ?_ | with_reducible refine we_cb cbS_int ?_ | with_reducible refine we_cb cbS_bool ?_ | with_reducible refine we_cb cbS_max ?_ | with_reducible refine we_cb cbS_min ?_ | with_reducible refine we_cb cbS_isi ?_) | with_reducible refine we_var rfl ?_ | with_reducible refine we_int ?_ | with_reducible refine we_str ?_ | with_reducible refine we_bl ?_ | with_reducible refine we_non ?_ | with_reducible refine we_ty ?_ | with_reducible refine we_ref ?_ | with_reducible refine we_sl ?_ | with_reducible refine we_orT ?_ | with_reducible refine we_andT ?_ | with_reducible refine we_notT ?_ | with_reducible refine we_if ?_ | with_reducible refine we_tup ⟨?_, ?_⟩ | with_reducible refine we_tup ?_ | with_reducible refine we_fld ?_ | with_reducible refine we_call (dds := []) (fun _ => HasL.nil) ?_ | with_reducible refine we_call0 (dds := []) (fun _ => HasL.nil) ?_ | with_reducible refine we_meth (dds := []) (fun _ => HasL.nil) ?_ | with_reducible refine we_bm mS_append ?_ | with_reducible refine we_bm mS_extend ?_ | with_reducible refine we_bm0 mS_clear ?_ | with_reducible refine we_bm mS_indexS ?_ | with_reducible refine we_bm mS_join ?_ | with_reducible refine we_bm mS_split ?_ | with_reducible refine we_bm mS_part ?_ | with_reducible refine we_un unS_neg ?_ | with_reducible refine we_un unS_inv ?_)
  | (guard_target =~ Wt _ _ _ _ _ _ _; first | with_reducible refine wt_test ?_ | with_reducible refine wt_tr ?_ | with_reducible refine wt_not ?_ | with_reducible refine wt_and ?_ | with_reducible refine wt_or ?_ | with_reducible refine wt_val ?_ | with_reducible refine wt_yes ?_)
  | (guard_target =~ Wg _ _ _ _ _ _; first | with_reducible refine wg_name ?_)
  | (guard_target =~ Wgs _ _ _ _ _ _; first | with_reducible refine wgs_cons ?_ | with_reducible refine wgs_nil ?_)
  | (guard_target =~ Wi _ _ _ _ _ _ _; first | with_reducible refine wi_str ?_ | with_reducible refine wi_list ?_ | with_reducible refine wi_rngN ?_ | with_reducible refine wi_rng2 ?_)
  | (guard_target =~ Wo _ _ _ _ _ _ _; first | with_reducible refine wo_none ?_ | with_reducible refine wo_some ?_)
  | with_reducible refine dAdd_ii ?_
  | with_reducible refine dI_ii ?_
  | with_reducible refine dU_i ?_
  | with_reducible refine dEq_fi ?_
  | with_reducible refine dEq_ti ?_
  | with_reducible refine dEq_fs ?_
  | with_reducible refine dEq_ts ?_
  | with_reducible refine dEq_fb ?_
  | with_reducible refine dEq_tb ?_
  | with_reducible refine dEq_sn ?_
  | with_reducible refine dEq_ns ?_
  | with_reducible refine dEq_nn ?_
  | with_reducible refine dIn_fs ?_
  | with_reducible refine dIn_ts ?_
  | with_reducible refine dIn_fi ?_
  | with_reducible refine dIn_ti ?_
  | with_reducible refine dIn_tc ?_
  | with_reducible refine dIn_fc ?_
  | with_reducible refine dSl_l ?_
  | with_reducible refine dSl_q ?_
  | with_reducible refine dLen_l ?_
  | with_reducible refine dLen_q ?_
  | (guard_target =~ dLen [.ref _] _ _; with_reducible refine dLen_r (by first | exact um_same | assumption) ?_)
  | with_reducible refine ty_l ?_
  | with_reducible refine ty_s ?_
  | (guard_target =~ tyD _ "list" (.ref _) ∧ _; with_reducible refine ty_r (by first | exact um_same | assumption) ?_)
  | with_reducible refine dLen_t ?_
  | with_reducible refine dInt_i ?_
  | with_reducible refine dInt_b ?_
  | with_reducible refine dBool_i ?_
  | with_reducible refine dMax_ii ?_
  | with_reducible refine dMin_ii ?_
  | with_reducible refine dList_l ?_
  | with_reducible refine dIsN_s ?_
  | with_reducible refine dIsN_n ?_
  | with_reducible refine dIsN_i ?_
  | with_reducible refine bl_ex ?_
  | with_reducible refine tru_b ?_
  | with_reducible refine tru_i ?_
  | with_reducible refine tru_l ?_
  | with_reducible refine iteT ?_
  | with_reducible refine iteF ?_
  | with_reducible refine iteNT ?_
  | with_reducible refine iteNF ?_
  | with_reducible refine ⟨_, rfl, ?_⟩)
local macro_rules | `(tactic| walk_at "w") => `(tactic| repeat walk_at "s")

/-! ### MergeError.__init__ -/
abbrev N_MergeErroru_initu : List Str := ["self", "subject"]
theorem sc_MergeErroru_initu : FnScope N_MergeErroru_initu ["self", "subject"] (defScope s_MergeErroru_initu) := ⟨rfl, rfl, rfl, by decide +kernel, rfl, by decide +kernel, by decide +kernel⟩
abbrev D_MergeErroru_initu (K : PySem.W.Frag) : Prop := DM K (cA K "MergeError") "__init__" "MergeError.__init__" s_MergeErroru_initu
theorem gm_MergeErroru_initu {P : Program} {w : World} {K : PySem.W.Frag} {mg : Str → Option Value} {base : Heap} {k : Nat} {sp : Sp} (D : D_MergeErroru_initu K) (cl : Cls K (cA K "MergeError")) (h : ∀ {f : Addr} {fd : FuncData}, FunD K "__init__" "MergeError.__init__" (defArgs s_MergeErroru_initu) (defBody s_MergeErroru_initu) (defScope s_MergeErroru_initu) [] [] f fd → FnOk P w K mg base (L2.CX P w) k f fd ["self", "subject"] sp) : GM P w K mg base (cA K "MergeError") "__init__" k ["self", "subject"] sp := by
  obtain ⟨f, fd, h1, h2⟩ := D.ex
  exact ⟨cl, f, fd, h1, FunD.bindsN h2 fun _ _ _ _ _ _ us hl => match us, hl with | [_, _], _ => rfl, h h2⟩

theorem ok_exc_init {P : Program} {w : World} {K : PySem.W.Frag} {mg : Str → Option Value} {base : Heap} (D : D_MergeErroru_initu K) (zVE : mg "ValueError" = none) (vV : PySem.W.findCls K (.type "ValueError") (.type "type") "__init__" = some (.val (.builtin "ValueError.__init__"))) :
    ∃ f fd, Meth K (cA K "MergeError") "__init__" f ∧ L2.Binds K fd ["self", "subject"] [] ∧ FnOk P w K mg base (L2.CX P w) 1 f fd ["self", "subject"] (spExc K) := by
  obtain ⟨f, fd, h1, h2⟩ := D.ex
  refine ⟨f, fd, h1, FunD.bindsN h2 fun _ _ _ _ _ _ us hl => match us, hl with | [_, _], _ => rfl, FunD.ok h2 sc_MergeErroru_initu (fun vs H Q E h => ?_) fun cdv A outer s H vs Q E hr p =>
    ⟨_, pss_cons (ps_expr (pe_veinit (by rfl) zVE vV (pa_cons (pv 0) (pa_cons pe_str pa_nil)))) (pss_one (ps_ost (pv 0) (pv 1))), ?_⟩⟩
  · obtain ⟨a, C, y, rfl, _⟩ := h; rfl
  · obtain ⟨a, C, y, rfl, oex, sub, ha, hq⟩ := p
    exact ⟨_, rfl, a, C, [.str "refused"], rfl, by decide, oex, ha, _, rfl, _, rfl, a, C, rfl, oex, sub, .inl ⟨ha, fun dx n ne => hq dx n ne⟩⟩
end Nm
namespace Nm
open PySem PySem.Spec PyProof.Rows L2
local macro_rules | `(tactic| walk_at "s") => `(tactic| first
  | (guard_target =~ Ws _ _ _ _ _ _; first | with_reducible refine ws_seq ?_ | with_reducible refine ws_set ?_ | with_reducible refine ws_if ?_ | with_reducible refine ws_ret ?_ | with_reducible refine ws_asg ?_ | with_reducible refine ws_drop ?_ | with_reducible refine ws_next ?_ | with_reducible refine ws_for ?_ | with_reducible refine ws_brk ?_ | with_reducible refine ws_cont ?_ | with_reducible refine ws_retN ?_ | with_reducible refine ws_fld ?_)
  | (guard_target =~ Wa _ _ _ _ _ _ _; first | with_reducible refine wa_cons ?_ | with_reducible refine wa_nil ?_)
  | (guard_target =~ We _ _ _ _ _ _ _; first | (guard_target =~ We _ _ (tOp _ _ _) _ _ _ _; first | with_reducible refine we_op opS_add ?_ | with_reducible refine we_op opS_sub ?_ | with_reducible refine we_op opS_mul ?_ | with_reducible refine we_op opS_mod ?_ | with_reducible refine we_op opS_div ?_ | with_reducible refine we_op opS_ix ?_ | with_reducible refine we_op opS_eq ?_ | with_reducible refine we_op opS_ne ?_ | with_reducible refine we_op opS_lt ?_ | with_reducible refine we_op opS_le ?_ | with_reducible refine we_op opS_gt ?_ | with_reducible refine we_op opS_ge ?_ | with_reducible refine we_op opS_in ?_ | with_reducible refine we_op opS_notIn ?_ | with_reducible refine we_op opS_and ?_ | with_reducible refine we_op opS_or ?_ | with_reducible refine we_op opS_shr ?_ | with_reducible refine we_op opS_shl ?_ | with_reducible refine we_op opS_pow ?_ | with_reducible refine we_op opS_isN ?_ | with_reducible refine we_op opS_notN ?_ | with_reducible refine we_op opS_xor ?_) | (guard_target =~ We _ _ (tCB _ _) _ _ _ _; first | with_reducible refine we_cb cbS_len ?_ | with_reducible refine we_cb cbS_int ?_ | with_reducible refine we_cb cbS_bool ?_ | with_reducible refine we_cb cbS_max ?_ | with_reducible refine we_cb cbS_min ?_ | with_reducible refine we_cb cbS_isi ?_) | with_reducible refine we_var rfl ?_ | with_reducible refine we_int ?_ | with_reducible refine we_str ?_ | with_reducible refine we_bl ?_ | with_reducible refine we_non ?_ | with_reducible refine we_ty ?_ | with_reducible refine we_ref ?_ | with_reducible refine we_sl ?_ | with_reducible refine we_orT ?_ | with_reducible refine we_andT ?_ | with_reducible refine we_notT ?_ | with_reducible refine we_if ?_ | with_reducible refine we_tup ⟨?_, ?_⟩ | with_reducible refine we_tup ?_ | with_reducible refine we_fld ?_ | with_reducible refine we_call (dds := []) (fun _ => HasL.nil) ?_ | with_reducible refine we_call0 (dds := []) (fun _ => HasL.nil) ?_ | with_reducible refine we_meth (dds := []) (fun _ => HasL.nil) ?_ | with_reducible refine we_bm mS_append ?_ | with_reducible refine we_bm mS_extend ?_ | with_reducible refine we_bm0 mS_clear ?_ | with_reducible refine we_bm mS_indexS ?_ | with_reducible refine we_bm mS_join ?_ | with_reducible refine we_bm mS_split ?_ | with_reducible refine we_bm mS_part ?_ | with_reducible refine we_un unS_neg ?_ | with_reducible refine we_un unS_inv ?_)
  | (guard_target =~ Wt _ _ _ _ _ _ _; first | with_reducible refine wt_test ?_ | with_reducible refine wt_tr ?_ | with_reducible refine wt_not ?_ | with_reducible refine wt_and ?_ | with_reducible refine wt_or ?_ | with_reducible refine wt_val ?_ | with_reducible refine wt_yes ?_)
  | (guard_target =~ Wg _ _ _ _ _ _; first | with_reducible refine wg_name ?_)
  | (guard_target =~ Wgs _ _ _ _ _ _; first | with_reducible refine wgs_cons ?_ | with_reducible refine wgs_nil ?_)
  | (guard_target =~ Wi _ _ _ _ _ _ _; first | with_reducible refine wi_str ?_ | with_reducible refine wi_list ?_ | with_reducible refine wi_rngN ?_ | with_reducible refine wi_rng2 ?_)
  | (guard_target =~ Wo _ _ _ _ _ _ _; first | with_reducible refine wo_none ?_ | with_reducible refine wo_some ?_)
  | with_reducible refine dAdd_ii ?_
  | with_reducible refine dI_ii ?_
  | with_reducible refine dU_i ?_
  | with_reducible refine dEq_fi ?_
  | with_reducible refine dEq_ti ?_
  | with_reducible refine dEq_fs ?_
  | with_reducible refine dEq_ts ?_
  | with_reducible refine dEq_fb ?_
  | with_reducible refine dEq_tb ?_
  | with_reducible refine dEq_sn ?_
  | with_reducible refine dEq_ns ?_
  | with_reducible refine dEq_nn ?_
  | with_reducible refine dIn_fs ?_
  | with_reducible refine dIn_ts ?_
  | with_reducible refine dIn_fi ?_
  | with_reducible refine dIn_ti ?_
  | with_reducible refine dIn_tc ?_
  | with_reducible refine dIn_fc ?_
  | with_reducible refine dSl_l ?_
  | with_reducible refine dSl_q ?_
  | with_reducible refine dLen_l ?_
  | with_reducible refine dLen_q ?_
  | (guard_target =~ dLen [.ref _] _ _; with_reducible refine dLen_r (by first | exact um_same | assumption) ?_)
  | with_reducible refine ty_l ?_
  | with_reducible refine ty_s ?_
  | (guard_target =~ tyD _ "list" (.ref _) ∧ _; with_reducible refine ty_r (by first | exact um_same | assumption) ?_)
  | with_reducible refine dLen_t ?_
  | with_reducible refine dInt_i ?_
  | with_reducible refine dInt_b ?_
  | with_reducible refine dBool_i ?_
  | with_reducible refine dMax_ii ?_
  | with_reducible refine dMin_ii ?_
  | with_reducible refine dList_l ?_
  | with_reducible refine dIsN_s ?_
  | with_reducible refine dIsN_n ?_
  | with_reducible refine dIsN_i ?_
  | with_reducible refine bl_ex ?_
  | with_reducible refine tru_b ?_
  | with_reducible refine tru_i ?_
  | with_reducible refine tru_l ?_
  | with_reducible refine iteT ?_
  | with_reducible refine iteF ?_
  | with_reducible refine iteNT ?_
  | with_reducible refine iteNF ?_
  | with_reducible refine ⟨_, rfl, ?_⟩)
local macro_rules | `(tactic| walk_at "w") => `(tactic| repeat walk_at "s")

/-! ### _law_is_name -/
def sd_lname : SpD := fun ds μ P _ => ∃ x : Str, ds = [.str x] ∧ x.length ≤ 100000 ∧ P (.bl (isName x)) μ
abbrev N_law_is_name : List Str := ["_law_word", "_law_letters", "_law_sign"]
theorem sc_law_is_name : FnScope N_law_is_name ["_law_word"] (defScope s_law_is_name) := ⟨rfl, rfl, rfl, by decide +kernel, rfl, by decide +kernel, by decide +kernel⟩
abbrev D_law_is_name (K : PySem.W.Frag) (mg : Str → Option Value) : Prop := DF K mg "_law_is_name" s_law_is_name
theorem gf_law_is_name {P : Program} {w : World} {K : PySem.W.Frag} {mg : Str → Option Value} {base : Heap} {k : Nat} {sp : Sp} (D : D_law_is_name K mg) (h : ∀ {f : Addr} {fd : FuncData}, FunD K "_law_is_name" "_law_is_name" (defArgs s_law_is_name) (defBody s_law_is_name) (defScope s_law_is_name) [] [] f fd → FnOk P w K mg base (L2.CX P w) k f fd ["_law_word"] sp) : GF P w K mg base "_law_is_name" k ["_law_word"] sp := by
  obtain ⟨f, fd, h1, h2⟩ := D.ex
  exact ⟨f, fd, h1, h2.kp, FunD.bindsN h2 fun _ _ _ _ _ _ us hl => match us, hl with | [_], _ => rfl, h h2⟩

section
variable {P : Program} {w : World} {K : PySem.W.Frag} {mg : Str → Option Value} {base : Heap}
theorem ok_lname (D : D_law_is_name K mg) (Z : Zs mg) : GF P w K mg base "_law_is_name" 1 ["_law_word"] (toSp K sd_lname) := by
  refine gf_law_is_name D fun F => fun_ok F sc_law_is_name (fun ds μ P X h => ?_) fun cdv A outer s H E hr => ⟨_, (pss_cons (ps_set (i := 1) sc_law_is_name.nd rfl (by first | exact Or.inl rfl | exact Or.inr rfl) pe_str)
    (pss_cons (ps_if (PW.pt (pw_or (pt_cmpR op_lt (pe_callB (call_lenK (K := K) rfl) (by rfl) Z.z_len (by decide +kernel) (pa_cons (pv 0) pa_nil)) pe_int (nomark _)) (pw_or (pt_cmpR op_gt (pe_callB (call_lenK (K := K) rfl) (by rfl) Z.z_len (by decide +kernel) (pa_cons (pv 0) pa_nil)) pe_int (nomark _)) (pw_or1 (pt_cmpR (op_notInK (K := K) rfl (room65 hr)) (pe_ix (ix_seqK (K := K) rfl) (pv 0) pe_int (fun _ _ => rfl)) (pv 1) (by rfl))))))
      (pss_one (ps_ret pe_bl))
      pss_nil)
    (pss_cons (ps_for po_def rfl (pi_str (pv 0)) (pg_name (i := 2) sc_law_is_name.nd rfl (by first | exact Or.inl rfl | exact Or.inr rfl))
      (pss_one (ps_if (pt_cmpR (op_notInK (K := K) rfl (room65 hr)) (pv 2) (pe_op op_addU (pv 1) pe_str) (by rfl))
          (pss_one (ps_ret pe_bl))
          pss_nil)))
    (pss_one (ps_ret pe_bl))))), fun ds μ Pd X h => ?_⟩
  · obtain ⟨x, rfl, _⟩ := h; rfl
  · obtain ⟨x, rfl, hl, hp⟩ := h
    show Ws K (wOf E) _ [some (.str x), none, none] μ _
    have hs8 : x.length ≤ sizeLine := Nat.le_of_lt (szl _ hl)
    have ecs := len_cps x
    have e36 : (tLETTERS ++ ("0123456789" : Str)).cps.toList = tSIGNS.cps.toList := by decide +kernel
    walk_at "w"
    refine dLen_s hs8 ?_
    walk_at "w"
    cases hc : x.cps.toList with
    | nil =>
      have e : isName x = false := by unfold isName; rw [hc]
      rw [hc] at ecs
      rw [e] at hp
      refine iteD (fun h => ?_) (fun h => absurd (show (x.length : Int) < 1 by rw [ecs]; decide) h)
      walk_at "w"
      exact ret_of hp
    | cons c r =>
      have en : isName x = (decide ((c :: r).length ≤ 8) && letter c && (c :: r).all sign) := by unfold isName; rw [hc]
      rw [hc] at ecs
      rw [en] at hp
      refine iteD (fun h => absurd h (by rw [ecs, List.length_cons]; omega)) (fun _ => ?_)
      walk_at "w"
      refine dLen_s hs8 ?_
      walk_at "w"
      refine iteD (fun h => ?_) (fun h => ?_)
      · rw [decide_eq_false (show ¬ (c :: r).length ≤ 8 by rw [← ecs]; omega)] at hp
        walk_at "w"
        exact ret_of hp
      rw [decide_eq_true (show (c :: r).length ≤ 8 by rw [← ecs]; omega)] at hp
      walk_at "w"
      refine dIx_s (c := c) hs8 (by rw [hc]; exact atI_nat (j := 0) rfl) ?_
      walk_at "w"
      rw [show decide (c ∈ (Str.ofString "abcdefghijklmnopqrstuvwxyz").cps.toList) = letter c from in_letters c]
      cases hlc : letter c with
      | false =>
        rw [hlc] at hp
        refine iteNT ?_
        walk_at "w"
        exact ret_of hp
      | true =>
        rw [hlc] at hp
        refine iteNF ?_
        walk_at "w"
        refine ⟨fun i Γ' μ' => μ' = μ ∧ (∃ g, Γ' = [some (.str x), some (.str tLETTERS), g]) ∧ ∀ j k, j < i → x.cps.toList[j]? = some k → sign k = true, ⟨rfl, ⟨_, rfl⟩, fun j k hj => absurd hj (Nat.not_lt_zero j)⟩, ?_, ?_⟩
        · rintro i d Γ' μ' hd ⟨rfl, ⟨g, rfl⟩, hs⟩
          rw [List.getElem?_map] at hd
          obtain ⟨k, ek, rfl⟩ := Option.map_eq_some_iff.mp hd
          walk_at "w"
          refine dAdd_ss (Nat.le_of_lt (szl _ (by decide +kernel))) ?_
          walk_at "w"
          rw [e36, in_signs]
          cases hk : sign k with
          | false =>
            have ef : (c :: r).all sign = false := by
              rw [hc] at ek
              refine Bool.eq_false_iff.mpr fun z => ?_
              have := List.all_eq_true.mp z k (List.mem_of_getElem? ek)
              rw [hk] at this
              cases this
            rw [ef] at hp
            refine iteNT ?_
            walk_at "w"
            exact ret_of hp
          | true =>
            refine iteNF ?_
            walk_at "w"
            refine Fo.of ⟨rfl, ⟨_, rfl⟩, fun j k' hj ej => ?_⟩
            rcases Nat.lt_succ_iff_lt_or_eq.mp hj with z | rfl
            · exact hs j k' z ej
            · obtain rfl := Option.some.inj (ek.symm.trans ej)
              exact hk
        · rintro Γ' μ' ⟨rfl, ⟨g, rfl⟩, hs⟩
          have et : (c :: r).all sign = true := by
            rw [← hc, List.all_eq_true]
            intro k hk
            obtain ⟨j, hj⟩ := List.getElem?_of_mem hk
            exact hs j k (by rw [List.length_map]; exact (List.getElem?_eq_some_iff.mp hj).1) hj
          rw [et] at hp
          walk_at "w"
          exact ret_of hp
end
end Nm
namespace Nm
open PySem PySem.Spec PyProof.Rows L2
/-! ### plain: texts of ASCII characters -/
abbrev Asc (x : Str) : Prop := ∀ c ∈ x.cps.toList, c < 128
theorem Asc.ok {x : Str} (h : Asc x) : PyData.strOk x = true := strOk_iff.mpr fun c hc => Nat.lt_trans (h c hc) (by decide)
theorem asc_app {x y : Str} (h1 : Asc x) (h2 : Asc y) : Asc (x ++ y) := by
  intro c hc
  rw [str_app] at hc
  rcases List.mem_append.mp hc with z | z
  · exact h1 c z
  · exact h2 c z
theorem asc_to {x : Str} {k : Nat} (h : Asc x) : Asc (cutS x none (some (k : Int))) := by
  intro c hc
  rw [cutS_to] at hc
  exact h c (List.mem_of_mem_take hc)
theorem asc_c {x : Str} {c : Nat} (h : Asc x) (hc : c ∈ x.cps.toList) : Asc ⟨#[c]⟩ := by
  intro d hd
  obtain rfl : d = c := by simpa using hd
  exact h d hc
theorem asc_name {x : Str} (h : isName x = true) : Asc x := by
  intro c hc
  unfold isName at h
  split at h
  · cases h
  · rename_i d r hq
    rw [hq] at hc
    have := List.all_eq_true.mp (Bool.and_eq_true_iff.mp h).2 c hc
    unfold sign at this
    simp only [Bool.or_eq_true, decide_eq_true_eq] at this
    omega
theorem asc_sub {x : Str} (h : Asc x) (i j : Nat) : Asc (Builtin.Str.strSub x i j) := by
  intro c hc
  refine h c ?_
  have e : (Builtin.Str.strSub x i j).cps = x.cps.extract i j := rfl
  rw [e, Array.toList_extract] at hc
  exact List.mem_of_mem_drop (List.mem_of_mem_take hc)
theorem asc_parts {x : Str} (h : Asc x) (w : Nat) : ∀ (cuts : List Nat) (a : Nat), ∀ q ∈ StrLaws.partsFrom x w a cuts, Asc q
  | [], _, q, hq => by
    obtain rfl := List.mem_singleton.mp hq
    exact asc_sub h _ _
  | _ :: r, _, q, hq => by
    rcases List.mem_cons.mp hq with rfl | hq
    · exact asc_sub h _ _
    · exact asc_parts h w r _ q hq
theorem asc_split {x y a : Str} (h : Asc x) (ha : a ∈ Txt.split x y) : Asc a := by
  unfold Txt.split at ha
  split at ha
  · rw [List.mem_singleton.mp ha]; exact h
  · split at ha
    · rw [List.mem_singleton.mp ha]; exact h
    · rw [StrLaws.partsBetween_eq] at ha
      exact asc_parts h _ _ _ a ha
theorem asc_join {y : Str} (hy : Asc y) : ∀ {ps : List Str}, (∀ q ∈ ps, Asc q) → Asc (Txt.join y ps)
  | [], _ => by rw [TL.join_eq]; show Asc ""; decide +kernel
  | [x], h => by rw [TL.join_eq]; exact h x List.mem_cons_self
  | x :: z :: r, h => by
    have ih := asc_join hy (ps := z :: r) fun q hq => h q (List.mem_cons_of_mem _ hq)
    rw [TL.join_eq] at ih ⊢
    exact asc_app (asc_app (h x List.mem_cons_self) hy) ih
theorem upper_eq {x : Str} (h : Asc x) : (Txt.upper x).cps.toList = x.cps.toList.map PyProof.Rows.up1 := by
  rw [PyProof.Rows.upper_ascii (x := x) h]
  show (x.cps.map PyProof.Rows.up1).toList = _
  rw [Array.toList_map]
theorem asc_upper {x : Str} (h : Asc x) : Asc (Txt.upper x) := by
  intro c hc
  rw [upper_eq h] at hc
  obtain ⟨d, hd, rfl⟩ := List.mem_map.mp hc
  have := h d hd
  unfold PyProof.Rows.up1
  split <;> omega
theorem upper_len {x : Str} (h : Asc x) : (Txt.upper x).length = x.length := by
  rw [len_cps, upper_eq h, List.length_map, ← len_cps]
theorem asc_from {x : Str} {k : Nat} (h : Asc x) : Asc (cutS x (some (k : Int)) none) := by
  intro c hc
  rw [cutS_from] at hc
  exact h c (List.mem_of_mem_drop hc)
end Nm
namespace Nm
open PySem PySem.Spec PyProof.Rows L2
local macro_rules | `(tactic| walk_at "s") => `(tactic| first
  | (guard_target =~ Ws _ _ _ _ _ _; first | with_reducible refine ws_seq ?_ | with_reducible refine ws_set ?_ | with_reducible refine ws_if ?_ | with_reducible refine ws_ret ?_ | with_reducible refine ws_asg ?_ | with_reducible refine ws_drop ?_ | with_reducible refine ws_next ?_ | with_reducible refine ws_for ?_ | with_reducible refine ws_brk ?_ | with_reducible refine ws_cont ?_ | with_reducible refine ws_retN ?_ | with_reducible refine ws_fld ?_)
  | (guard_target =~ Wa _ _ _ _ _ _ _; first | with_reducible refine wa_cons ?_ | with_reducible refine wa_nil ?_)
  | (guard_target =~ We _ _ _ _ _ _ _; first | (guard_target =~ We _ _ (tOp _ _ _) _ _ _ _; first | with_reducible refine we_op opS_add ?_ | with_reducible refine we_op opS_sub ?_ | with_reducible refine we_op opS_mul ?_ | with_reducible refine we_op opS_mod ?_ | with_reducible refine we_op opS_div ?_ | with_reducible refine we_op opS_ix ?_ | with_reducible refine we_op opS_eq ?_ | with_reducible refine we_op opS_ne ?_ | with_reducible refine we_op opS_lt ?_ | with_reducible refine we_op opS_le ?_ | with_reducible refine we_op opS_gt ?_ | with_reducible refine we_op opS_ge ?_ | with_reducible refine we_op opS_in ?_ | with_reducible refine we_op opS_notIn ?_ | with_reducible refine we_op opS_and ?_ | with_reducible refine we_op opS_or ?_ | with_reducible refine we_op opS_shr ?_ | with_reducible refine we_op opS_shl ?_ | with_reducible refine we_op opS_pow ?_ | with_reducible refine we_op opS_isN ?_ | with_reducible refine we_op opS_notN ?_ | with_reducible refine we_op opS_xor ?_) | (guard_target =~ We _ _ (tCB _ _) _ _ _ _; first | with_reducible refine we_cb cbS_len ?_ | with_reducible refine we_cb cbS_int ?_ | with_reducible refine we_cb cbS_bool ?_ | with_reducible refine we_cb cbS_max ?_ | with_reducible refine we_cb cbS_min ?_ | with_reducible refine we_cb cbS_isi ?_) | with_reducible refine we_var rfl ?_ | with_reducible refine we_int ?_ | with_reducible refine we_str ?_ | with_reducible refine we_bl ?_ | with_reducible refine we_non ?_ | with_reducible refine we_ty ?_ | with_reducible refine we_ref ?_ | with_reducible refine we_sl ?_ | with_reducible refine we_orT ?_ | with_reducible refine we_andT ?_ | with_reducible refine we_notT ?_ | with_reducible refine we_if ?_ | with_reducible refine we_tup ⟨?_, ?_⟩ | with_reducible refine we_tup ?_ | with_reducible refine we_fld ?_ | with_reducible refine we_call (dds := []) (fun _ => HasL.nil) ?_ | with_reducible refine we_call0 (dds := []) (fun _ => HasL.nil) ?_ | with_reducible refine we_meth (dds := []) (fun _ => HasL.nil) ?_ | with_reducible refine we_bm mS_append ?_ | with_reducible refine we_bm mS_extend ?_ | with_reducible refine we_bm0 mS_clear ?_ | with_reducible refine we_bm mS_indexS ?_ | with_reducible refine we_bm mS_join ?_ | with_reducible refine we_bm mS_split ?_ | with_reducible refine we_bm mS_part ?_ | with_reducible refine we_un unS_neg ?_ | with_reducible refine we_un unS_inv ?_)
  | (guard_target =~ Wt _ _ _ _ _ _ _; first | with_reducible refine wt_test ?_ | with_reducible refine wt_tr ?_ | with_reducible refine wt_not ?_ | with_reducible refine wt_and ?_ | with_reducible refine wt_or ?_ | with_reducible refine wt_val ?_ | with_reducible refine wt_yes ?_)
  | (guard_target =~ Wg _ _ _ _ _ _; first | with_reducible refine wg_name ?_)
  | (guard_target =~ Wgs _ _ _ _ _ _; first | with_reducible refine wgs_cons ?_ | with_reducible refine wgs_nil ?_)
  | (guard_target =~ Wi _ _ _ _ _ _ _; first | with_reducible refine wi_str ?_ | with_reducible refine wi_list ?_ | with_reducible refine wi_rngN ?_ | with_reducible refine wi_rng2 ?_)
  | (guard_target =~ Wo _ _ _ _ _ _ _; first | with_reducible refine wo_none ?_ | with_reducible refine wo_some ?_)
  | with_reducible refine dAdd_ii ?_
  | with_reducible refine dI_ii ?_
  | with_reducible refine dU_i ?_
  | with_reducible refine dEq_fi ?_
  | with_reducible refine dEq_ti ?_
  | with_reducible refine dEq_fs ?_
  | with_reducible refine dEq_ts ?_
  | with_reducible refine dEq_fb ?_
  | with_reducible refine dEq_tb ?_
  | with_reducible refine dEq_sn ?_
  | with_reducible refine dEq_ns ?_
  | with_reducible refine dEq_nn ?_
  | with_reducible refine dIn_fs ?_
  | with_reducible refine dIn_ts ?_
  | with_reducible refine dIn_fi ?_
  | with_reducible refine dIn_ti ?_
  | with_reducible refine dIn_tc ?_
  | with_reducible refine dIn_fc ?_
  | with_reducible refine dSl_l ?_
  | with_reducible refine dSl_q ?_
  | with_reducible refine dLen_l ?_
  | with_reducible refine dLen_q ?_
  | (guard_target =~ dLen [.ref _] _ _; with_reducible refine dLen_r (by first | exact um_same | assumption) ?_)
  | with_reducible refine ty_l ?_
  | with_reducible refine ty_s ?_
  | (guard_target =~ tyD _ "list" (.ref _) ∧ _; with_reducible refine ty_r (by first | exact um_same | assumption) ?_)
  | with_reducible refine dLen_t ?_
  | with_reducible refine dInt_i ?_
  | with_reducible refine dInt_b ?_
  | with_reducible refine dBool_i ?_
  | with_reducible refine dMax_ii ?_
  | with_reducible refine dMin_ii ?_
  | with_reducible refine dList_l ?_
  | with_reducible refine dIsN_s ?_
  | with_reducible refine dIsN_n ?_
  | with_reducible refine dIsN_i ?_
  | with_reducible refine bl_ex ?_
  | with_reducible refine tru_b ?_
  | with_reducible refine tru_i ?_
  | with_reducible refine tru_l ?_
  | with_reducible refine iteT ?_
  | with_reducible refine iteF ?_
  | with_reducible refine iteNT ?_
  | with_reducible refine iteNF ?_
  | with_reducible refine ⟨_, rfl, ?_⟩)
local macro_rules | `(tactic| walk_at "w") => `(tactic| repeat walk_at "s")

/-! ### _law_bad_name -/
def sd_bad : SpD := fun ds μ P _ => ∃ (zs : List Int) (a : Addr) (n : Int), ds = [.lst (intsD zs), .ref a] ∧ zs ≠ [] ∧ μ a = some (.lst [.int n]) ∧
  ∀ (x : Str) (n' : Int), isName x = false → x.length ≤ 100 → Asc x → P (.str x) (um μ a (.lst [.int n']))
theorem no_name {x : Str} {c : Nat} (h : c ∈ x.cps.toList) (hs : sign c = false) : isName x = false := by
  unfold isName
  cases q : x.cps.toList with
  | nil => rfl
  | cons d r =>
    rw [q] at h
    show (decide ((d :: r).length ≤ 8) && letter d && (d :: r).all sign) = false
    have : (d :: r).all sign = false := by
      rw [← Bool.not_eq_true, List.all_eq_true]
      intro z
      rw [z c h] at hs
      cases hs
    rw [this, Bool.and_false]
def bad16 : List Str := ["", "A", "1a", "a b", "abcdefghi", "a_b", "a-", "aB", " a", "a ", "0", "abcdefgh1", "a.", "zZ", "~", "a\n"]
theorem bad16_ok : ∀ x ∈ bad16, isName x = false ∧ x.length ≤ 100 ∧ Asc x := by
  have h : bad16.all (fun x => !isName x && (decide (x.length ≤ 100) && x.cps.toList.all (fun c => decide (c < 128)))) = true := by decide +kernel
  intro x hx
  have := List.all_eq_true.mp h x hx
  obtain ⟨h1, h2⟩ := Bool.and_eq_true_iff.mp this
  obtain ⟨h2, h3⟩ := Bool.and_eq_true_iff.mp h2
  exact ⟨by simpa using h1, of_decide_eq_true h2, fun c hc => of_decide_eq_true (List.all_eq_true.mp h3 c hc)⟩
abbrev tBAD : Str := " !\"#$&'()*+,-./:;<=>?@ABCDEFGHIJKLMNOPQRSTUVWXYZ[\\]^_`{|}~"
theorem tBAD_ok : ∀ c ∈ tBAD.cps.toList, sign c = false := by
  have h : tBAD.cps.toList.all (fun c => !sign c) = true := by decide +kernel
  intro c hc
  have := List.all_eq_true.mp h c hc
  simpa using this
theorem tBAD_so : Asc tBAD := by decide +kernel
theorem tBAD_len : tBAD.length = 58 := by decide +kernel
abbrev N_law_bad_name : List Str := ["_law_pool_here", "_law_at", "_law_rows", "_law_signs", "_law_k"]
theorem sc_law_bad_name : FnScope N_law_bad_name ["_law_pool_here", "_law_at"] (defScope s_law_bad_name) := ⟨rfl, rfl, rfl, by decide +kernel, rfl, by decide +kernel, by decide +kernel⟩
abbrev D_law_bad_name (K : PySem.W.Frag) (mg : Str → Option Value) : Prop := DF K mg "_law_bad_name" s_law_bad_name
theorem gf_law_bad_name {P : Program} {w : World} {K : PySem.W.Frag} {mg : Str → Option Value} {base : Heap} {k : Nat} {sp : Sp} (D : D_law_bad_name K mg) (h : ∀ {f : Addr} {fd : FuncData}, FunD K "_law_bad_name" "_law_bad_name" (defArgs s_law_bad_name) (defBody s_law_bad_name) (defScope s_law_bad_name) [] [] f fd → FnOk P w K mg base (L2.CX P w) k f fd ["_law_pool_here", "_law_at"] sp) : GF P w K mg base "_law_bad_name" k ["_law_pool_here", "_law_at"] sp := by
  obtain ⟨f, fd, h1, h2⟩ := D.ex
  exact ⟨f, fd, h1, h2.kp, FunD.bindsN h2 fun _ _ _ _ _ _ us hl => match us, hl with | [_, _], _ => rfl, h h2⟩

section
variable {P : Program} {w : World} {K : PySem.W.Frag} {mg : Str → Option Value} {base : Heap}
theorem ok_bad (D : D_law_bad_name K mg) (Z : Zs mg) (G_law_take : GF P w K mg base "_law_take" 1 ["_law_pool_here", "_law_at", "_law_many"] (toSp K sd_take)) : GF P w K mg base "_law_bad_name" 2 ["_law_pool_here", "_law_at"] (toSp K sd_bad) := by
  refine gf_law_bad_name D fun F => fun_ok F sc_law_bad_name (fun ds μ P X h => ?_) fun cdv A outer s H E hr => ⟨_, (pss_cons (ps_set (i := 2) sc_law_bad_name.nd rfl (by first | exact Or.inl rfl | exact Or.inr rfl) (pe_lst (pa_cons pe_str (pa_cons pe_str (pa_cons pe_str (pa_cons pe_str (pa_cons pe_str (pa_cons pe_str (pa_cons pe_str (pa_cons pe_str (pa_cons pe_str (pa_cons pe_str pa_nil))))))))))))
    (pss_cons (ps_set (i := 2) sc_law_bad_name.nd rfl (by first | exact Or.inl rfl | exact Or.inr rfl) (pe_op op_addU (pv 2) (pe_lst (pa_cons pe_str (pa_cons pe_str (pa_cons pe_str (pa_cons pe_str (pa_cons pe_str (pa_cons pe_str pa_nil)))))))))
    (pss_cons (ps_set (i := 2) sc_law_bad_name.nd rfl (by first | exact Or.inl rfl | exact Or.inr rfl) (pe_op op_addU (pe_op op_addU (pv 2) (pv 2)) (pv 2)))
    (pss_cons (ps_set (i := 3) sc_law_bad_name.nd rfl (by first | exact Or.inl rfl | exact Or.inr rfl) pe_str)
    (pss_cons (ps_for po_def rfl (pi_range1 (by rfl) Z.z_range (pa_cons (pe_callB (call_lenK (K := K) rfl) (by rfl) Z.z_len (by decide +kernel) (pa_cons (pv 3) pa_nil)) pa_nil)) (pg_name (i := 4) sc_law_bad_name.nd rfl (by first | exact Or.inl rfl | exact Or.inr rfl))
      (pss_one (ps_expr (pe_bmK (K := K) rfl PySem.F.plainAttrs_list PySem.F.slot_list_append PySem.F.type_list_append mt_append (pv 2) (pa_cons (pe_op op_addU (pe_op op_addU (pe_slice (sl_uK (K := K) rfl) pe_str po_none (po_some (pe_op op_addU pe_int (pe_op op_mod (pe_callTy call_intU (by rfl) Z.z_int (by decide +kernel) (pa_cons (pv 4) pa_nil)) pe_int)))) (pe_ix (ix_seqK (K := K) rfl) (pv 3) (pv 4) (fun _ _ => rfl))) (pe_slice (sl_uK (K := K) rfl) pe_str po_none (po_some (pe_op op_mod (pe_callTy call_intU (by rfl) Z.z_int (by decide +kernel) (pa_cons (pe_op op_fdiv (pv 4) pe_int) pa_nil)) pe_int)))) pa_nil)))))
    (pss_one (ps_ret (pe_ix (ix_seqK (K := K) rfl) (pv 2) (pe_gf G_law_take (hr.mono (by decide)) tk_def (pa_cons (pv 0) (pa_cons (pv 1) (pa_cons (pe_callB (call_lenK (K := K) rfl) (by rfl) Z.z_len (by decide +kernel) (pa_cons (pv 2) pa_nil)) pa_nil)))) (fun _ _ => rfl))))))))), fun ds μ Pd X h => ?_⟩
  · obtain ⟨zs, a, n, rfl, _⟩ := h; rfl
  · obtain ⟨zs, a, n, rfl, hz, ha, hp⟩ := h
    show Ws K (wOf E) _ [some (.lst (intsD zs)), some (.ref a), none, none, none] μ _
    have sl : ∀ n, n ≤ 100000 → n ≤ sizeLine := fun n h => Nat.le_of_lt (szl n h)
    refine ws_seq (ws_set (we_lst ?_))
    walk_at "w"
    refine ⟨sl _ (by decide), ?_⟩
    refine ws_seq (ws_set ?_)
    walk_at "w"
    refine we_lst ?_
    walk_at "w"
    refine ⟨sl _ (by decide), ?_⟩
    refine dAdd_ll (sl _ (by decide)) ?_
    refine ws_seq (ws_set (we_op opS_addM ?_))
    walk_at "w"
    refine dAdd_ll (sl _ (by decide)) ?_
    walk_at "w"
    refine dAddM_ll (sl _ (by decide)) fun l hl0 => ?_
    have al : a ≠ l := mu_ne ha hl0
    walk_at "w"
    refine dLen_s (sl _ (by rw [tBAD_len]; decide)) ?_
    walk_at "w"
    refine ⟨by rw [tBAD_len]; decide, ?_⟩
    refine ⟨fun i Γ' μ' => (∃ g, Γ' = [some (.lst (intsD zs)), some (.ref a), some (.ref l), some (.str tBAD), g]) ∧ ∃ xs : List Str, μ' = um μ l (.lst (strsD xs)) ∧ xs.length = 48 + i ∧ ∀ x ∈ xs, isName x = false ∧ x.length ≤ 100 ∧ Asc x, ⟨⟨_, rfl⟩, (bad16 ++ bad16) ++ bad16, rfl, rfl, fun x hx => ?_⟩, ?_, ?_⟩
    · rcases List.mem_append.mp hx with hx | hx
      · rcases List.mem_append.mp hx with hx | hx
        · exact bad16_ok x hx
        · exact bad16_ok x hx
      · exact bad16_ok x hx
    · rintro i d Γ' μ' hi ⟨⟨g, rfl⟩, xs, rfl, hx, hb⟩
      obtain ⟨hi1, rfl⟩ := rng0_get hi
      rw [tBAD_len] at hi1
      obtain ⟨c, hc⟩ := get_of_lt (l := tBAD.cps.toList) (i := i) (by rw [← len_cps, tBAD_len]; exact hi1)
      walk_at "w"
      refine dIC_ii (by decide) ?_
      walk_at "w"
      have e1 : (1 : Int) + (i : Int) % 2 = ((1 + i % 2 : Nat) : Int) := by omega
      rw [e1]
      refine dSl_s (z := ("ab" : Str)) (sl _ (by decide +kernel)) ?_
      walk_at "w"
      refine dIx_s (sl _ (by rw [tBAD_len]; decide)) (atI_nat hc) ?_
      have l1 : (cutS ("ab" : Str) none (some ((1 + i % 2 : Nat) : Int))).length ≤ 2 := by
        rw [len_cps, cutS_to]; exact List.length_take_le' _ _
      refine dAdd_ss (sl _ (by show _ + 1 ≤ _; omega)) ?_
      walk_at "w"
      refine dIC_ii (C := CDiv) ⟨by decide, by decide⟩ ?_
      walk_at "w"
      refine dIC_ii (by decide) ?_
      have e2 : (i : Int) / 2 % 3 = ((i / 2 % 3 : Nat) : Int) := by omega
      rw [e2]
      walk_at "w"
      refine dSl_s (z := ("z0" : Str)) (sl _ (by decide +kernel)) ?_
      have l2 : (cutS ("z0" : Str) none (some ((i / 2 % 3 : Nat) : Int))).length ≤ 2 := by
        rw [len_cps, cutS_to]; exact List.length_take_le' _ _
      have l3 : (cutS ("ab" : Str) none (some ((1 + i % 2 : Nat) : Int)) ++ (⟨#[c]⟩ : Str)).length ≤ 3 := by
        rw [len_cps, str_app, List.length_append, ← len_cps]; show _ + 1 ≤ 3; omega
      refine dAdd_ss (sl _ (by omega)) ?_
      have l4 : ((cutS ("ab" : Str) none (some ((1 + i % 2 : Nat) : Int)) ++ (⟨#[c]⟩ : Str)) ++ cutS ("z0" : Str) none (some ((i / 2 % 3 : Nat) : Int))).length ≤ 5 := by
        rw [len_cps, str_app, List.length_append, ← len_cps, ← len_cps]; omega
      walk_at "w"
      refine dApp um_same (szl _ (by rw [List.length_map]; omega)) ?_
      rw [um_um, strsD_app]
      refine Fo.of ⟨⟨_, rfl⟩, _, rfl, by rw [List.length_append, hx]; rfl, fun x hx => ?_⟩
      rcases List.mem_append.mp hx with hx | hx
      · exact hb x hx
      · rw [List.mem_singleton.mp hx]
        refine ⟨no_name (c := c) ?_ (tBAD_ok c (List.mem_of_getElem? hc)), Nat.le_trans l4 (by decide), asc_app (asc_app (asc_to (by decide +kernel)) (asc_c tBAD_so (List.mem_of_getElem? hc))) (asc_to (by decide +kernel))⟩
        rw [str_app, str_app]
        simp
    · rintro Γ' μ' ⟨⟨g, rfl⟩, xs, rfl, hx, hb⟩
      have hx : xs.length = 106 := by rw [rng0_length, tBAD_len] at hx; exact hx
      refine ws_freeze (i := 2) um_same rfl ?_
      rw [dm_um hl0]
      show Ws K (wOf E) _ [some (.lst (intsD zs)), some (.ref a), some (.lst (strsD xs)), some (.str tBAD), g] _ _
      walk_at "w"
      refine ⟨zs, a, n, _, rfl, hz, by rw [List.length_map, hx]; decide, ha, fun r n2 h0 h1 => ?_⟩
      obtain ⟨j, rfl⟩ := Int.eq_ofNat_of_zero_le h0
      rw [List.length_map] at h1
      obtain ⟨x, hxj⟩ := get_of_lt (l := xs) (i := j) (by omega)
      refine dIx_l (atI_nat (strsD_get hxj)) ?_
      obtain ⟨b1, b2, b3⟩ := hb x (List.mem_of_getElem? hxj)
      exact ret_of (hp x n2 b1 b2 b3)
end
end Nm
namespace Nm
open PySem PySem.Spec PyProof.Rows L2
local macro_rules | `(tactic| walk_at "s") => `(tactic| first
  | (guard_target =~ Ws _ _ _ _ _ _; first | with_reducible refine ws_seq ?_ | with_reducible refine ws_set ?_ | with_reducible refine ws_if ?_ | with_reducible refine ws_ret ?_ | with_reducible refine ws_asg ?_ | with_reducible refine ws_drop ?_ | with_reducible refine ws_next ?_ | with_reducible refine ws_for ?_ | with_reducible refine ws_brk ?_ | with_reducible refine ws_cont ?_ | with_reducible refine ws_retN ?_ | with_reducible refine ws_fld ?_)
  | (guard_target =~ Wa _ _ _ _ _ _ _; first | with_reducible refine wa_cons ?_ | with_reducible refine wa_nil ?_)
  | (guard_target =~ We _ _ _ _ _ _ _; first | (guard_target =~ We _ _ (tOp _ _ _) _ _ _ _; first | with_reducible refine we_op opS_add ?_ | with_reducible refine we_op opS_sub ?_ | with_reducible refine we_op opS_mul ?_ | with_reducible refine we_op opS_mod ?_ | with_reducible refine we_op opS_div ?_ | with_reducible refine we_op opS_ix ?_ | with_reducible refine we_op opS_eq ?_ | with_reducible refine we_op opS_ne ?_ | with_reducible refine we_op opS_lt ?_ | with_reducible refine we_op opS_le ?_ | with_reducible refine we_op opS_gt ?_ | with_reducible refine we_op opS_ge ?_ | with_reducible refine we_op opS_in ?_ | with_reducible refine we_op opS_notIn ?_ | with_reducible refine we_op opS_and ?_ | with_reducible refine we_op opS_or ?_ | with_reducible refine we_op opS_shr ?_ | with_reducible refine we_op opS_shl ?_ | with_reducible refine we_op opS_pow ?_ | with_reducible refine we_op opS_isN ?_ | with_reducible refine we_op opS_notN ?_ | with_reducible refine we_op opS_xor ?_) | (guard_target =~ We _ _ (tCB _ _) _ _ _ _; first | with_reducible refine we_cb cbS_len ?_ | with_reducible refine we_cb cbS_int ?_ | with_reducible refine we_cb cbS_bool ?_ | with_reducible refine we_cb cbS_max ?_ | with_reducible refine we_cb cbS_min ?_ | with_reducible refine we_cb cbS_isi ?_) | with_reducible refine we_var rfl ?_ | with_reducible refine we_int ?_ | with_reducible refine we_str ?_ | with_reducible refine we_bl ?_ | with_reducible refine we_non ?_ | with_reducible refine we_ty ?_ | with_reducible refine we_ref ?_ | with_reducible refine we_sl ?_ | with_reducible refine we_orT ?_ | with_reducible refine we_andT ?_ | with_reducible refine we_notT ?_ | with_reducible refine we_if ?_ | with_reducible refine we_tup ⟨?_, ?_⟩ | with_reducible refine we_tup ?_ | with_reducible refine we_fld ?_ | with_reducible refine we_call (dds := []) (fun _ => HasL.nil) ?_ | with_reducible refine we_call0 (dds := []) (fun _ => HasL.nil) ?_ | with_reducible refine we_meth (dds := []) (fun _ => HasL.nil) ?_ | with_reducible refine we_bm mS_append ?_ | with_reducible refine we_bm mS_extend ?_ | with_reducible refine we_bm0 mS_clear ?_ | with_reducible refine we_bm mS_indexS ?_ | with_reducible refine we_bm mS_join ?_ | with_reducible refine we_bm mS_split ?_ | with_reducible refine we_bm mS_part ?_ | with_reducible refine we_un unS_neg ?_ | with_reducible refine we_un unS_inv ?_)
  | (guard_target =~ Wt _ _ _ _ _ _ _; first | with_reducible refine wt_test ?_ | with_reducible refine wt_tr ?_ | with_reducible refine wt_not ?_ | with_reducible refine wt_and ?_ | with_reducible refine wt_or ?_ | with_reducible refine wt_val ?_ | with_reducible refine wt_yes ?_)
  | (guard_target =~ Wg _ _ _ _ _ _; first | with_reducible refine wg_name ?_)
  | (guard_target =~ Wgs _ _ _ _ _ _; first | with_reducible refine wgs_cons ?_ | with_reducible refine wgs_nil ?_)
  | (guard_target =~ Wi _ _ _ _ _ _ _; first | with_reducible refine wi_str ?_ | with_reducible refine wi_list ?_ | with_reducible refine wi_rngN ?_ | with_reducible refine wi_rng2 ?_)
  | (guard_target =~ Wo _ _ _ _ _ _ _; first | with_reducible refine wo_none ?_ | with_reducible refine wo_some ?_)
  | with_reducible refine dAdd_ii ?_
  | with_reducible refine dI_ii ?_
  | with_reducible refine dU_i ?_
  | with_reducible refine dEq_fi ?_
  | with_reducible refine dEq_ti ?_
  | with_reducible refine dEq_fs ?_
  | with_reducible refine dEq_ts ?_
  | with_reducible refine dEq_fb ?_
  | with_reducible refine dEq_tb ?_
  | with_reducible refine dEq_sn ?_
  | with_reducible refine dEq_ns ?_
  | with_reducible refine dEq_nn ?_
  | with_reducible refine dIn_fs ?_
  | with_reducible refine dIn_ts ?_
  | with_reducible refine dIn_fi ?_
  | with_reducible refine dIn_ti ?_
  | with_reducible refine dIn_tc ?_
  | with_reducible refine dIn_fc ?_
  | with_reducible refine dSl_l ?_
  | with_reducible refine dSl_q ?_
  | with_reducible refine dLen_l ?_
  | with_reducible refine dLen_q ?_
  | (guard_target =~ dLen [.ref _] _ _; with_reducible refine dLen_r (by first | exact um_same | assumption) ?_)
  | with_reducible refine ty_l ?_
  | with_reducible refine ty_s ?_
  | (guard_target =~ tyD _ "list" (.ref _) ∧ _; with_reducible refine ty_r (by first | exact um_same | assumption) ?_)
  | with_reducible refine dLen_t ?_
  | with_reducible refine dInt_i ?_
  | with_reducible refine dInt_b ?_
  | with_reducible refine dBool_i ?_
  | with_reducible refine dMax_ii ?_
  | with_reducible refine dMin_ii ?_
  | with_reducible refine dList_l ?_
  | with_reducible refine dIsN_s ?_
  | with_reducible refine dIsN_n ?_
  | with_reducible refine dIsN_i ?_
  | with_reducible refine bl_ex ?_
  | with_reducible refine tru_b ?_
  | with_reducible refine tru_i ?_
  | with_reducible refine tru_l ?_
  | with_reducible refine iteT ?_
  | with_reducible refine iteF ?_
  | with_reducible refine iteNT ?_
  | with_reducible refine iteNF ?_
  | with_reducible refine ⟨_, rfl, ?_⟩)
local macro_rules | `(tactic| walk_at "w") => `(tactic| repeat walk_at "s")

/-! ### _law_operands: the law's own reading of a step's text -/
def lopsL : List Str → Option (List Str)
  | [w, a, b] => if w = "join" ∨ w = "cut" then some [a, b] else none
  | [w, a, o, b] => if w = "gain" ∧ o = "over" then some [a, b] else none
  | [w, a, b, o, c] => if w = "merge" ∧ o = "over" then some [a, b, c] else none
  | [w, a, o, b, q, c] => if o = "over" ∧ ((w = "pick" ∧ q = "onto") ∨ (w = "undo" ∧ q = "in")) then some [a, b, c] else none
  | _ => none
theorem rowAt_eq (w : Str) : rowAt tFORMS w = if w = "join" then some ([some "join", none, none] : List (Option Str)) else if w = "cut" then some ([some "cut", none, none] : List (Option Str)) else if w = "gain" then some ([some "gain", none, some "over", none] : List (Option Str)) else if w = "merge" then some ([some "merge", none, none, some "over", none] : List (Option Str)) else if w = "pick" then some ([some "pick", none, some "over", none, some "onto", none] : List (Option Str)) else if w = "undo" then some ([some "undo", none, some "over", none, some "in", none] : List (Option Str)) else none := by
  have e : ∀ (k : Str) (r : FRow) (l : List (Str × FRow)), rowAt ((k, r) :: l) w = if w = k then some r else rowAt l w := fun k r l => by
    unfold rowAt
    rw [List.find?_cons]
    by_cases h : w = k
    · rw [if_pos h, decide_eq_true (show (k, r).1 = w from h.symm)]; rfl
    · rw [if_neg h, decide_eq_false (show ¬ (k, r).1 = w from fun z => h z.symm)]
  unfold tFORMS
  rw [e, e, e, e, e, e]
  rfl
theorem lops_join : ∀ r : List Str, (if fitsF ("join" :: r) ([some "join", none, none] : List (Option Str)) = true then some (pickF ("join" :: r) [some "join", none, none]) else none) = lopsL ("join" :: r) := by
  have n0 : ¬ (("join" : Str) = "cut") := by decide +kernel
  have n1 : ¬ (("join" : Str) = "gain") := by decide +kernel
  have n2 : ¬ (("join" : Str) = "merge") := by decide +kernel
  have n3 : ¬ (("join" : Str) = "pick") := by decide +kernel
  have n4 : ¬ (("join" : Str) = "undo") := by decide +kernel
  intro r
  match r with
  | [] => simp [fitsF, pickF, lopsL, n0, n1, n2, n3, n4]
  | [x0] => simp [fitsF, pickF, lopsL, n0, n1, n2, n3, n4]
  | [x0, x1] => simp [fitsF, pickF, lopsL, n0, n1, n2, n3, n4]
  | [x0, x1, x2] => simp [fitsF, pickF, lopsL, n0, n1, n2, n3, n4]
  | [x0, x1, x2, x3] => simp [fitsF, pickF, lopsL, n0, n1, n2, n3, n4]
  | [x0, x1, x2, x3, x4] => simp [fitsF, pickF, lopsL, n0, n1, n2, n3, n4]
  | x0 :: x1 :: x2 :: x3 :: x4 :: x5 :: z => simp [fitsF, pickF, lopsL, n0, n1, n2, n3, n4]
theorem lops_cut : ∀ r : List Str, (if fitsF ("cut" :: r) ([some "cut", none, none] : List (Option Str)) = true then some (pickF ("cut" :: r) [some "cut", none, none]) else none) = lopsL ("cut" :: r) := by
  have n0 : ¬ (("cut" : Str) = "join") := by decide +kernel
  have n1 : ¬ (("cut" : Str) = "gain") := by decide +kernel
  have n2 : ¬ (("cut" : Str) = "merge") := by decide +kernel
  have n3 : ¬ (("cut" : Str) = "pick") := by decide +kernel
  have n4 : ¬ (("cut" : Str) = "undo") := by decide +kernel
  intro r
  match r with
  | [] => simp [fitsF, pickF, lopsL, n0, n1, n2, n3, n4]
  | [x0] => simp [fitsF, pickF, lopsL, n0, n1, n2, n3, n4]
  | [x0, x1] => simp [fitsF, pickF, lopsL, n0, n1, n2, n3, n4]
  | [x0, x1, x2] => simp [fitsF, pickF, lopsL, n0, n1, n2, n3, n4]
  | [x0, x1, x2, x3] => simp [fitsF, pickF, lopsL, n0, n1, n2, n3, n4]
  | [x0, x1, x2, x3, x4] => simp [fitsF, pickF, lopsL, n0, n1, n2, n3, n4]
  | x0 :: x1 :: x2 :: x3 :: x4 :: x5 :: z => simp [fitsF, pickF, lopsL, n0, n1, n2, n3, n4]
theorem lops_gain : ∀ r : List Str, (if fitsF ("gain" :: r) ([some "gain", none, some "over", none] : List (Option Str)) = true then some (pickF ("gain" :: r) [some "gain", none, some "over", none]) else none) = lopsL ("gain" :: r) := by
  have n0 : ¬ (("gain" : Str) = "join") := by decide +kernel
  have n1 : ¬ (("gain" : Str) = "cut") := by decide +kernel
  have n2 : ¬ (("gain" : Str) = "merge") := by decide +kernel
  have n3 : ¬ (("gain" : Str) = "pick") := by decide +kernel
  have n4 : ¬ (("gain" : Str) = "undo") := by decide +kernel
  intro r
  match r with
  | [] => simp [fitsF, pickF, lopsL, n0, n1, n2, n3, n4]
  | [x0] => simp [fitsF, pickF, lopsL, n0, n1, n2, n3, n4]
  | [x0, x1] => simp [fitsF, pickF, lopsL, n0, n1, n2, n3, n4]
  | [x0, x1, x2] => simp [fitsF, pickF, lopsL, n0, n1, n2, n3, n4]
  | [x0, x1, x2, x3] => simp [fitsF, pickF, lopsL, n0, n1, n2, n3, n4]
  | [x0, x1, x2, x3, x4] => simp [fitsF, pickF, lopsL, n0, n1, n2, n3, n4]
  | x0 :: x1 :: x2 :: x3 :: x4 :: x5 :: z => simp [fitsF, pickF, lopsL, n0, n1, n2, n3, n4]
theorem lops_merge : ∀ r : List Str, (if fitsF ("merge" :: r) ([some "merge", none, none, some "over", none] : List (Option Str)) = true then some (pickF ("merge" :: r) [some "merge", none, none, some "over", none]) else none) = lopsL ("merge" :: r) := by
  have n0 : ¬ (("merge" : Str) = "join") := by decide +kernel
  have n1 : ¬ (("merge" : Str) = "cut") := by decide +kernel
  have n2 : ¬ (("merge" : Str) = "gain") := by decide +kernel
  have n3 : ¬ (("merge" : Str) = "pick") := by decide +kernel
  have n4 : ¬ (("merge" : Str) = "undo") := by decide +kernel
  intro r
  match r with
  | [] => simp [fitsF, pickF, lopsL, n0, n1, n2, n3, n4]
  | [x0] => simp [fitsF, pickF, lopsL, n0, n1, n2, n3, n4]
  | [x0, x1] => simp [fitsF, pickF, lopsL, n0, n1, n2, n3, n4]
  | [x0, x1, x2] => simp [fitsF, pickF, lopsL, n0, n1, n2, n3, n4]
  | [x0, x1, x2, x3] => simp [fitsF, pickF, lopsL, n0, n1, n2, n3, n4]
  | [x0, x1, x2, x3, x4] => simp [fitsF, pickF, lopsL, n0, n1, n2, n3, n4]
  | x0 :: x1 :: x2 :: x3 :: x4 :: x5 :: z => simp [fitsF, pickF, lopsL, n0, n1, n2, n3, n4]
theorem lops_pick : ∀ r : List Str, (if fitsF ("pick" :: r) ([some "pick", none, some "over", none, some "onto", none] : List (Option Str)) = true then some (pickF ("pick" :: r) [some "pick", none, some "over", none, some "onto", none]) else none) = lopsL ("pick" :: r) := by
  have n0 : ¬ (("pick" : Str) = "join") := by decide +kernel
  have n1 : ¬ (("pick" : Str) = "cut") := by decide +kernel
  have n2 : ¬ (("pick" : Str) = "gain") := by decide +kernel
  have n3 : ¬ (("pick" : Str) = "merge") := by decide +kernel
  have n4 : ¬ (("pick" : Str) = "undo") := by decide +kernel
  intro r
  match r with
  | [] => simp [fitsF, pickF, lopsL, n0, n1, n2, n3, n4]
  | [x0] => simp [fitsF, pickF, lopsL, n0, n1, n2, n3, n4]
  | [x0, x1] => simp [fitsF, pickF, lopsL, n0, n1, n2, n3, n4]
  | [x0, x1, x2] => simp [fitsF, pickF, lopsL, n0, n1, n2, n3, n4]
  | [x0, x1, x2, x3] => simp [fitsF, pickF, lopsL, n0, n1, n2, n3, n4]
  | [x0, x1, x2, x3, x4] => simp [fitsF, pickF, lopsL, n0, n1, n2, n3, n4]
  | x0 :: x1 :: x2 :: x3 :: x4 :: x5 :: z => simp [fitsF, pickF, lopsL, n0, n1, n2, n3, n4]
theorem lops_undo : ∀ r : List Str, (if fitsF ("undo" :: r) ([some "undo", none, some "over", none, some "in", none] : List (Option Str)) = true then some (pickF ("undo" :: r) [some "undo", none, some "over", none, some "in", none]) else none) = lopsL ("undo" :: r) := by
  have n0 : ¬ (("undo" : Str) = "join") := by decide +kernel
  have n1 : ¬ (("undo" : Str) = "cut") := by decide +kernel
  have n2 : ¬ (("undo" : Str) = "gain") := by decide +kernel
  have n3 : ¬ (("undo" : Str) = "merge") := by decide +kernel
  have n4 : ¬ (("undo" : Str) = "pick") := by decide +kernel
  intro r
  match r with
  | [] => simp [fitsF, pickF, lopsL, n0, n1, n2, n3, n4]
  | [x0] => simp [fitsF, pickF, lopsL, n0, n1, n2, n3, n4]
  | [x0, x1] => simp [fitsF, pickF, lopsL, n0, n1, n2, n3, n4]
  | [x0, x1, x2] => simp [fitsF, pickF, lopsL, n0, n1, n2, n3, n4]
  | [x0, x1, x2, x3] => simp [fitsF, pickF, lopsL, n0, n1, n2, n3, n4]
  | [x0, x1, x2, x3, x4] => simp [fitsF, pickF, lopsL, n0, n1, n2, n3, n4]
  | x0 :: x1 :: x2 :: x3 :: x4 :: x5 :: z => simp [fitsF, pickF, lopsL, n0, n1, n2, n3, n4]
theorem lops_no {w : Str} (h0 : ¬ w = "join") (h1 : ¬ w = "cut") (h2 : ¬ w = "gain") (h3 : ¬ w = "merge") (h4 : ¬ w = "pick") (h5 : ¬ w = "undo") : ∀ r : List Str, lopsL (w :: r) = none := by
  intro r
  match r with
  | [] => simp [lopsL, h0, h1, h2, h3, h4, h5]
  | [x0] => simp [lopsL, h0, h1, h2, h3, h4, h5]
  | [x0, x1] => simp [lopsL, h0, h1, h2, h3, h4, h5]
  | [x0, x1, x2] => simp [lopsL, h0, h1, h2, h3, h4, h5]
  | [x0, x1, x2, x3] => simp [lopsL, h0, h1, h2, h3, h4, h5]
  | [x0, x1, x2, x3, x4] => simp [lopsL, h0, h1, h2, h3, h4, h5]
  | x0 :: x1 :: x2 :: x3 :: x4 :: x5 :: z => simp [lopsL]
theorem lops_eq (w : Str) (r : List Str) : (match rowAt tFORMS w with
    | some fs => if fitsF (w :: r) fs = true then some (pickF (w :: r) fs) else none
    | none => none) = lopsL (w :: r) := by
  rw [rowAt_eq]
  by_cases h_join : w = "join"
  · subst h_join; rw [if_pos rfl]; exact lops_join r
  rw [if_neg h_join]
  by_cases h_cut : w = "cut"
  · subst h_cut; rw [if_pos rfl]; exact lops_cut r
  rw [if_neg h_cut]
  by_cases h_gain : w = "gain"
  · subst h_gain; rw [if_pos rfl]; exact lops_gain r
  rw [if_neg h_gain]
  by_cases h_merge : w = "merge"
  · subst h_merge; rw [if_pos rfl]; exact lops_merge r
  rw [if_neg h_merge]
  by_cases h_pick : w = "pick"
  · subst h_pick; rw [if_pos rfl]; exact lops_pick r
  rw [if_neg h_pick]
  by_cases h_undo : w = "undo"
  · subst h_undo; rw [if_pos rfl]; exact lops_undo r
  rw [if_neg h_undo]
  exact (lops_no h_join h_cut h_gain h_merge h_pick h_undo r).symm
theorem parts_lops (text : Str) : partsOf text = lopsL (Txt.split text " ") := by
  obtain ⟨w0, r0, hw0, _, _⟩ := split_head (x := text) (y := " ")
  unfold partsOf
  rw [hw0]
  exact lops_eq w0 r0
/-- what an operand list is as data -/
def optsD : Option (List Str) → D
  | some ps => .lst (strsD ps)
  | none => .non
def sd_lops : SpD := fun ds μ P _ => ∃ text : Str, ds = [.str text] ∧ text.length ≤ 90000 ∧ PyData.strOk text = true ∧ P (optsD (partsOf text)) μ
theorem strOk_split {x y a : Str} (h : PyData.strOk x = true) (ha : a ∈ Txt.split x y) : PyData.strOk a = true := by
  refine strOk_iff.mpr ?_
  have h := strOk_iff.mp h
  have sub : ∀ i j : Nat, ∀ c ∈ (Builtin.Str.strSub x i j).cps.toList, c < 0x110000 := fun i j c hc => by
    refine h c ?_
    have e : (Builtin.Str.strSub x i j).cps = x.cps.extract i j := rfl
    rw [e, Array.toList_extract] at hc
    exact List.mem_of_mem_drop (List.mem_of_mem_take hc)
  have parts : ∀ (w : Nat) (cuts : List Nat) (a : Nat), ∀ q ∈ StrLaws.partsFrom x w a cuts, ∀ c ∈ q.cps.toList, c < 0x110000 := by
    intro w cuts
    induction cuts with
    | nil => intro a q hq; obtain rfl := List.mem_singleton.mp hq; exact sub _ _
    | cons u r ih =>
      intro a q hq
      rcases List.mem_cons.mp hq with rfl | hq
      · exact sub _ _
      · exact ih _ q hq
  unfold Txt.split at ha
  split at ha
  · rw [List.mem_singleton.mp ha]; exact h
  · split at ha
    · rw [List.mem_singleton.mp ha]; exact h
    · rw [StrLaws.partsBetween_eq] at ha
      exact parts _ _ _ a ha
theorem pl_two {a b : Str} {n : Nat} (ha : PyData.strOk a = true) (hb : PyData.strOk b = true) : Pl (n + 1) (.lst [.str a, .str b]) := by
  intro d hd
  rcases List.mem_cons.mp hd with rfl | hd
  · cases n <;> exact ha
  · rw [List.mem_singleton.mp hd]; cases n <;> exact hb
theorem dinL_two (a b x y x' y' : Str) : dinL (.lst [.str a, .str b]) [.lst [.str x, .str y], .lst [.str x', .str y']] = decide ((a = x ∧ b = y) ∨ (a = x' ∧ b = y')) := by
  show (deq (.lst [.str x, .str y]) (.lst [.str a, .str b]) || (deq (.lst [.str x', .str y']) (.lst [.str a, .str b]) || false)) = _
  rw [deq_lst, deq_lst, deqL_cons, deqL_cons, deqL_nil, deqL_cons, deqL_cons, deqL_nil, deq_str, deq_str, deq_str, deq_str, Bool.and_true, Bool.and_true, Bool.or_false, Bool.eq_iff_iff]
  simp only [Bool.or_eq_true, Bool.and_eq_true, beq_iff_eq, decide_eq_true_eq]
  exact ⟨fun h => h.elim (fun z => .inl ⟨z.1.symm, z.2.symm⟩) (fun z => .inr ⟨z.1.symm, z.2.symm⟩), fun h => h.elim (fun z => .inl ⟨z.1.symm, z.2.symm⟩) (fun z => .inr ⟨z.1.symm, z.2.symm⟩)⟩
abbrev N_law_operands : List Str := ["_law_text", "_law_words_here"]
theorem sc_law_operands : FnScope N_law_operands ["_law_text"] (defScope s_law_operands) := ⟨rfl, rfl, rfl, by decide +kernel, rfl, by decide +kernel, by decide +kernel⟩
abbrev D_law_operands (K : PySem.W.Frag) (mg : Str → Option Value) : Prop := DF K mg "_law_operands" s_law_operands
theorem gf_law_operands {P : Program} {w : World} {K : PySem.W.Frag} {mg : Str → Option Value} {base : Heap} {k : Nat} {sp : Sp} (D : D_law_operands K mg) (h : ∀ {f : Addr} {fd : FuncData}, FunD K "_law_operands" "_law_operands" (defArgs s_law_operands) (defBody s_law_operands) (defScope s_law_operands) [] [] f fd → FnOk P w K mg base (L2.CX P w) k f fd ["_law_text"] sp) : GF P w K mg base "_law_operands" k ["_law_text"] sp := by
  obtain ⟨f, fd, h1, h2⟩ := D.ex
  exact ⟨f, fd, h1, h2.kp, FunD.bindsN h2 fun _ _ _ _ _ _ us hl => match us, hl with | [_], _ => rfl, h h2⟩

section
variable {P : Program} {w : World} {K : PySem.W.Frag} {mg : Str → Option Value} {base : Heap}
theorem ok_lops (D : D_law_operands K mg) (Z : Zs mg) : GF P w K mg base "_law_operands" 1 ["_law_text"] (toSp K sd_lops) := by
  refine gf_law_operands D fun F => fun_ok F sc_law_operands (fun ds μ P X h => ?_) fun cdv A outer s H E hr => ⟨_, (pss_cons (ps_set (i := 1) sc_law_operands.nd rfl (by first | exact Or.inl rfl | exact Or.inr rfl) (pe_bmK (K := K) rfl PySem.F.plainAttrs_str PySem.F.slot_str_split PySem.F.type_str_split mt_splitU (pv 0) (pa_cons pe_str pa_nil)))
    (pss_cons (ps_if (PW.pt (pw_and (pt_cmpR (op_inK (K := K) rfl (room65 hr)) (pe_ix (ix_seqK (K := K) rfl) (pv 1) pe_int (fun _ _ => rfl)) (pe_lst (pa_cons pe_str (pa_cons pe_str pa_nil))) (by rfl)) (pw_and1 (pt_cmpR (op_eqK (K := K) rfl hr.units) (pe_callB (call_lenK (K := K) rfl) (by rfl) Z.z_len (by decide +kernel) (pa_cons (pv 1) pa_nil)) pe_int (nomark _)))))
      (pss_one (ps_ret (pe_slice (sl_uK (K := K) rfl) (pv 1) (po_some pe_int) po_none)))
      pss_nil)
    (pss_cons (ps_if (PW.pt (pw_and (pt_cmpR (op_eqK (K := K) rfl hr.units) (pe_ix (ix_seqK (K := K) rfl) (pv 1) pe_int (fun _ _ => rfl)) pe_str (nomark _)) (pw_and (pt_cmpR (op_eqK (K := K) rfl hr.units) (pe_callB (call_lenK (K := K) rfl) (by rfl) Z.z_len (by decide +kernel) (pa_cons (pv 1) pa_nil)) pe_int (nomark _)) (pw_and1 (pt_cmpR (op_eqK (K := K) rfl hr.units) (pe_ix (ix_seqK (K := K) rfl) (pv 1) pe_int (fun _ _ => rfl)) pe_str (nomark _))))))
      (pss_one (ps_ret (pe_lst (pa_cons (pe_ix (ix_seqK (K := K) rfl) (pv 1) pe_int (fun _ _ => rfl)) (pa_cons (pe_ix (ix_seqK (K := K) rfl) (pv 1) pe_int (fun _ _ => rfl)) pa_nil)))))
      pss_nil)
    (pss_cons (ps_if (PW.pt (pw_and (pt_cmpR (op_eqK (K := K) rfl hr.units) (pe_ix (ix_seqK (K := K) rfl) (pv 1) pe_int (fun _ _ => rfl)) pe_str (nomark _)) (pw_and (pt_cmpR (op_eqK (K := K) rfl hr.units) (pe_callB (call_lenK (K := K) rfl) (by rfl) Z.z_len (by decide +kernel) (pa_cons (pv 1) pa_nil)) pe_int (nomark _)) (pw_and1 (pt_cmpR (op_eqK (K := K) rfl hr.units) (pe_ix (ix_seqK (K := K) rfl) (pv 1) pe_int (fun _ _ => rfl)) pe_str (nomark _))))))
      (pss_one (ps_ret (pe_lst (pa_cons (pe_ix (ix_seqK (K := K) rfl) (pv 1) pe_int (fun _ _ => rfl)) (pa_cons (pe_ix (ix_seqK (K := K) rfl) (pv 1) pe_int (fun _ _ => rfl)) (pa_cons (pe_ix (ix_seqK (K := K) rfl) (pv 1) pe_int (fun _ _ => rfl)) pa_nil))))))
      pss_nil)
    (pss_cons (ps_if (PW.pt (pw_and (pt_cmpR (op_eqK (K := K) rfl hr.units) (pe_callB (call_lenK (K := K) rfl) (by rfl) Z.z_len (by decide +kernel) (pa_cons (pv 1) pa_nil)) pe_int (nomark _)) (pw_and1 (pt_cmpR (op_eqK (K := K) rfl hr.units) (pe_ix (ix_seqK (K := K) rfl) (pv 1) pe_int (fun _ _ => rfl)) pe_str (nomark _)))))
      (pss_one (ps_if (pt_cmpR (op_inK (K := K) rfl (room65 hr)) (pe_lst (pa_cons (pe_ix (ix_seqK (K := K) rfl) (pv 1) pe_int (fun _ _ => rfl)) (pa_cons (pe_ix (ix_seqK (K := K) rfl) (pv 1) pe_int (fun _ _ => rfl)) pa_nil))) (pe_lst (pa_cons (pe_lst (pa_cons pe_str (pa_cons pe_str pa_nil))) (pa_cons (pe_lst (pa_cons pe_str (pa_cons pe_str pa_nil))) pa_nil))) (by rfl))
          (pss_one (ps_ret (pe_lst (pa_cons (pe_ix (ix_seqK (K := K) rfl) (pv 1) pe_int (fun _ _ => rfl)) (pa_cons (pe_ix (ix_seqK (K := K) rfl) (pv 1) pe_int (fun _ _ => rfl)) (pa_cons (pe_ix (ix_seqK (K := K) rfl) (pv 1) pe_int (fun _ _ => rfl)) pa_nil))))))
          pss_nil))
      pss_nil)
    (pss_one (ps_ret pe_non))))))), fun ds μ Pd X h => ?_⟩
  · obtain ⟨text, rfl, _⟩ := h; rfl
  · obtain ⟨text, rfl, hl, hso, hp⟩ := h
    have sl : ∀ n, n ≤ 100000 → n ≤ sizeLine := fun n h => Nat.le_of_lt (szl n h)
    show Ws K (wOf E) _ [some (.str text), none] μ _
    walk_at "w"
    refine ⟨by decide +kernel, sl _ (by omega), ?_⟩
    obtain ⟨w0, r0, hw0, _, _⟩ := split_head (x := text) (y := " ")
    have hfew := split_few (x := text) (y := " ")
    have hso2 : ∀ x ∈ Txt.split text " ", PyData.strOk x = true := fun x hx => strOk_split hso hx
    rw [parts_lops] at hp
    obtain ⟨ws, hws⟩ : ∃ ws, ws = Txt.split text " " := ⟨_, rfl⟩
    rw [← hws] at hw0 hfew hp hso2 ⊢
    have hws0 : ws[0]? = some w0 := by rw [hw0]; rfl
    let Γ0 : Gm := [some (.str text), some (.lst (strsD ws))]
    have len : (strsD ws).length = ws.length := List.length_map ..
    have at0 : (strsD ws)[0]? = some (.str w0) := strsD_get hws0
    show Ws K (wOf E) _ Γ0 μ _
    -- join, cut
    refine ws_seq (Ws.nxi (P := fun Γ' μ' => Γ' = Γ0 ∧ μ' = μ ∧ ¬ ((w0 = "join" ∨ w0 = "cut") ∧ ws.length = 3)) ?_ ?_)
    · walk_at "w"
      refine dIx_l (atI_nat (j := 0) at0) ?_
      walk_at "w"
      refine we_lst ?_
      walk_at "w"
      refine ⟨sl 2 (by decide), dIn_fs (ss := ["join", "cut"]) ?_⟩
      walk_at "w"
      refine iteD (fun h1 => ?_) (fun h1 => ?_)
      · have h1 : w0 = "join" ∨ w0 = "cut" := by simpa using h1
        walk_at "w"
        rw [len]
        refine iteD (fun h2 => ?_) (fun h2 => ?_)
        · have h2 : ws.length = 3 := by omega
          obtain ⟨x, a, b, e⟩ : ∃ x a b, ws = [x, a, b] := by
            match ws, h2 with
            | [x, a, b], _ => exact ⟨x, a, b, rfl⟩
          rw [e] at hp hw0
          obtain rfl : x = w0 := by injection hw0
          rw [show lopsL [x, a, b] = some [a, b] from if_pos h1] at hp
          walk_at "w"
          rw [show (1 : Int) = ((1 : Nat) : Int) from rfl, cut_strs', e]
          exact ret_of hp
        · walk_at "w"
          exact ⟨rfl, rfl, fun z => h2 (by omega)⟩
      · walk_at "w"
        exact ⟨rfl, rfl, fun z => h1 (by simpa using z.1)⟩
    rintro Γ' μ' ⟨rfl, rfl, k1⟩
    show Ws K (wOf E) _ Γ0 μ' _
    -- gain
    refine ws_seq (Ws.nxi (P := fun Γ' μ2 => Γ' = Γ0 ∧ μ2 = μ' ∧ ¬ (w0 = "gain" ∧ ws.length = 4 ∧ ws[2]? = some ("over" : Str))) ?_ ?_)
    · walk_at "w"
      refine dIx_l (atI_nat (j := 0) at0) ?_
      walk_at "w"
      refine iteD (fun h1 => ?_) (fun h1 => ?_)
      · walk_at "w"
        rw [len]
        refine iteD (fun h2 => ?_) (fun h2 => ?_)
        · have h2 : ws.length = 4 := by omega
          obtain ⟨x, a, o, b, e⟩ : ∃ x a o b, ws = [x, a, o, b] := by
            match ws, h2 with
            | [x, a, o, b], _ => exact ⟨x, a, o, b, rfl⟩
          walk_at "w"
          refine dIx_l (atI_nat (j := 2) (show (strsD ws)[2]? = some (.str o) by rw [e]; rfl)) ?_
          walk_at "w"
          refine iteD (fun h3 => ?_) (fun h3 => ?_)
          · rw [e] at hp hw0
            obtain rfl : x = w0 := by injection hw0
            rw [show lopsL [x, a, o, b] = some [a, b] from if_pos ⟨h1, h3⟩] at hp
            walk_at "w"
            refine we_lst ?_
            walk_at "w"
            refine dIx_l (atI_nat (j := 1) (show (strsD ws)[1]? = some (.str a) by rw [e]; rfl)) ?_
            walk_at "w"
            refine dIx_l (atI_nat (j := 3) (show (strsD ws)[3]? = some (.str b) by rw [e]; rfl)) ?_
            walk_at "w"
            exact ⟨sl 2 (by decide), ret_of hp⟩
          · walk_at "w"
            exact ⟨rfl, rfl, fun z => h3 (by have z2 := z.2.2; rw [e] at z2; exact Option.some.inj z2)⟩
        · walk_at "w"
          exact ⟨rfl, rfl, fun z => h2 (by omega)⟩
      · walk_at "w"
        exact ⟨rfl, rfl, fun z => h1 z.1⟩
    rintro Γ' μ2 ⟨rfl, rfl, k2⟩
    show Ws K (wOf E) _ Γ0 μ2 _
    -- merge
    refine ws_seq (Ws.nxi (P := fun Γ' μ' => Γ' = Γ0 ∧ μ' = μ2 ∧ ¬ (w0 = "merge" ∧ ws.length = 5 ∧ ws[3]? = some ("over" : Str))) ?_ ?_)
    · walk_at "w"
      refine dIx_l (atI_nat (j := 0) at0) ?_
      walk_at "w"
      refine iteD (fun h1 => ?_) (fun h1 => ?_)
      · walk_at "w"
        rw [len]
        refine iteD (fun h2 => ?_) (fun h2 => ?_)
        · have h2 : ws.length = 5 := by omega
          obtain ⟨x, a, b, o, c, e⟩ : ∃ x a b o c, ws = [x, a, b, o, c] := by
            match ws, h2 with
            | [x, a, b, o, c], _ => exact ⟨x, a, b, o, c, rfl⟩
          walk_at "w"
          refine dIx_l (atI_nat (j := 3) (show (strsD ws)[3]? = some (.str o) by rw [e]; rfl)) ?_
          walk_at "w"
          refine iteD (fun h3 => ?_) (fun h3 => ?_)
          · rw [e] at hp hw0
            obtain rfl : x = w0 := by injection hw0
            rw [show lopsL [x, a, b, o, c] = some [a, b, c] from if_pos ⟨h1, h3⟩] at hp
            walk_at "w"
            refine we_lst ?_
            walk_at "w"
            refine dIx_l (atI_nat (j := 1) (show (strsD ws)[1]? = some (.str a) by rw [e]; rfl)) ?_
            walk_at "w"
            refine dIx_l (atI_nat (j := 2) (show (strsD ws)[2]? = some (.str b) by rw [e]; rfl)) ?_
            walk_at "w"
            refine dIx_l (atI_nat (j := 4) (show (strsD ws)[4]? = some (.str c) by rw [e]; rfl)) ?_
            walk_at "w"
            exact ⟨sl 3 (by decide), ret_of hp⟩
          · walk_at "w"
            exact ⟨rfl, rfl, fun z => h3 (by have z2 := z.2.2; rw [e] at z2; exact Option.some.inj z2)⟩
        · walk_at "w"
          exact ⟨rfl, rfl, fun z => h2 (by omega)⟩
      · walk_at "w"
        exact ⟨rfl, rfl, fun z => h1 z.1⟩
    rintro Γ' μ' ⟨rfl, rfl, k3⟩
    show Ws K (wOf E) _ Γ0 μ' _
    -- pick, undo
    refine ws_seq (Ws.nxi (P := fun Γ' μ2 => Γ' = Γ0 ∧ μ2 = μ' ∧ ¬ (ws.length = 6 ∧ ws[2]? = some ("over" : Str) ∧ ((w0 = "pick" ∧ ws[4]? = some ("onto" : Str)) ∨ (w0 = "undo" ∧ ws[4]? = some ("in" : Str))))) ?_ ?_)
    · walk_at "w"
      rw [len]
      refine iteD (fun h2 => ?_) (fun h2 => ?_)
      · have h2 : ws.length = 6 := by omega
        obtain ⟨x, a, o, b, q, c, e⟩ : ∃ x a o b q c, ws = [x, a, o, b, q, c] := by
          match ws, h2 with
          | [x, a, o, b, q, c], _ => exact ⟨x, a, o, b, q, c, rfl⟩
        obtain rfl : x = w0 := by rw [e] at hw0; injection hw0
        walk_at "w"
        refine dIx_l (atI_nat (j := 2) (show (strsD ws)[2]? = some (.str o) by rw [e]; rfl)) ?_
        walk_at "w"
        refine iteD (fun h3 => ?_) (fun h3 => ?_)
        · walk_at "w"
          refine we_lst ?_
          walk_at "w"
          refine dIx_l (atI_nat (j := 0) at0) ?_
          walk_at "w"
          refine dIx_l (atI_nat (j := 4) (show (strsD ws)[4]? = some (.str q) by rw [e]; rfl)) ?_
          walk_at "w"
          refine ⟨sl 2 (by decide), ?_⟩
          refine we_lst ?_
          walk_at "w"
          refine we_lst ?_
          walk_at "w"
          refine ⟨sl 2 (by decide), ?_⟩
          walk_at "w"
          refine we_lst ?_
          walk_at "w"
          refine ⟨sl 2 (by decide), ?_⟩
          walk_at "w"
          refine ⟨sl 2 (by decide), ?_⟩
          show Pl 7 (.lst [.str x, .str q]) ∧ _
          refine ⟨pl_two (hso2 _ (by rw [e]; simp)) (hso2 _ (by rw [e]; simp)), ?_, ?_⟩
          · intro d hd
            rcases List.mem_cons.mp hd with rfl | hd
            · exact pl_two (by decide +kernel) (by decide +kernel)
            · rw [List.mem_singleton.mp hd]; exact pl_two (by decide +kernel) (by decide +kernel)
          rw [dinL_two, Bool.false_xor]
          walk_at "w"
          refine iteD (fun h4 => ?_) (fun h4 => ?_)
          · rw [e] at hp
            rw [show lopsL [x, a, o, b, q, c] = some [a, b, c] from if_pos ⟨h3, h4⟩] at hp
            walk_at "w"
            refine we_lst ?_
            walk_at "w"
            refine dIx_l (atI_nat (j := 1) (show (strsD ws)[1]? = some (.str a) by rw [e]; rfl)) ?_
            walk_at "w"
            refine dIx_l (atI_nat (j := 3) (show (strsD ws)[3]? = some (.str b) by rw [e]; rfl)) ?_
            walk_at "w"
            refine dIx_l (atI_nat (j := 5) (show (strsD ws)[5]? = some (.str c) by rw [e]; rfl)) ?_
            walk_at "w"
            exact ⟨sl 3 (by decide), ret_of hp⟩
          · walk_at "w"
            refine ⟨rfl, rfl, fun z => h4 ?_⟩
            have z2 := z.2.2
            rw [e] at z2
            exact z2.elim (fun y => .inl ⟨y.1, Option.some.inj y.2⟩) (fun y => .inr ⟨y.1, Option.some.inj y.2⟩)
        · walk_at "w"
          exact ⟨rfl, rfl, fun z => h3 (by have z2 := z.2.1; rw [e] at z2; exact Option.some.inj z2)⟩
      · walk_at "w"
        exact ⟨rfl, rfl, fun z => h2 (by omega)⟩
    rintro Γ' μ2 ⟨rfl, rfl, k4⟩
    show Ws K (wOf E) _ Γ0 μ2 _
    have fin : lopsL ws = none := by
      match ws, hw0 with
      | [x], _ => rfl
      | [x, a], _ => rfl
      | [x, a, b], hw0 =>
        obtain rfl : x = w0 := by injection hw0
        exact if_neg fun z => k1 ⟨z, rfl⟩
      | [x, a, o, b], hw0 =>
        obtain rfl : x = w0 := by injection hw0
        exact if_neg fun z => k2 ⟨z.1, rfl, congrArg some z.2⟩
      | [x, a, b, o, c], hw0 =>
        obtain rfl : x = w0 := by injection hw0
        exact if_neg fun z => k3 ⟨z.1, rfl, congrArg some z.2⟩
      | [x, a, o, b, q, c], hw0 =>
        obtain rfl : x = w0 := by injection hw0
        exact if_neg fun z => k4 ⟨rfl, congrArg some z.1, z.2.elim (fun y => .inl ⟨y.1, congrArg some y.2⟩) (fun y => .inr ⟨y.1, congrArg some y.2⟩)⟩
      | _ :: _ :: _ :: _ :: _ :: _ :: _ :: _, _ => rfl
    rw [fin] at hp
    walk_at "w"
    exact ret_of hp
end
end Nm
namespace Nm
open PySem PySem.Spec PyProof.Rows L2
local macro_rules | `(tactic| walk_at "s") => `(tactic| first
  | (guard_target =~ Ws _ _ _ _ _ _; first | with_reducible refine ws_seq ?_ | with_reducible refine ws_set ?_ | with_reducible refine ws_if ?_ | with_reducible refine ws_ret ?_ | with_reducible refine ws_asg ?_ | with_reducible refine ws_drop ?_ | with_reducible refine ws_next ?_ | with_reducible refine ws_for ?_ | with_reducible refine ws_brk ?_ | with_reducible refine ws_cont ?_ | with_reducible refine ws_retN ?_ | with_reducible refine ws_fld ?_)
  | (guard_target =~ Wa _ _ _ _ _ _ _; first | with_reducible refine wa_cons ?_ | with_reducible refine wa_nil ?_)
  | (guard_target =~ We _ _ _ _ _ _ _; first | (guard_target =~ We _ _ (tOp _ _ _) _ _ _ _; first | with_reducible refine we_op opS_add ?_ | with_reducible refine we_op opS_sub ?_ | with_reducible refine we_op opS_mul ?_ | with_reducible refine we_op opS_mod ?_ | with_reducible refine we_op opS_div ?_ | with_reducible refine we_op opS_ix ?_ | with_reducible refine we_op opS_eq ?_ | with_reducible refine we_op opS_ne ?_ | with_reducible refine we_op opS_lt ?_ | with_reducible refine we_op opS_le ?_ | with_reducible refine we_op opS_gt ?_ | with_reducible refine we_op opS_ge ?_ | with_reducible refine we_op opS_in ?_ | with_reducible refine we_op opS_notIn ?_ | with_reducible refine we_op opS_and ?_ | with_reducible refine we_op opS_or ?_ | with_reducible refine we_op opS_shr ?_ | with_reducible refine we_op opS_shl ?_ | with_reducible refine we_op opS_pow ?_ | with_reducible refine we_op opS_isN ?_ | with_reducible refine we_op opS_notN ?_ | with_reducible refine we_op opS_xor ?_) | (guard_target =~ We _ _ (tCB _ _) _ _ _ _; first | with_reducible refine we_cb cbS_len ?_ | with_reducible refine we_cb cbS_int ?_ | with_reducible refine we_cb cbS_bool ?_ | with_reducible refine we_cb cbS_max ?_ | with_reducible refine we_cb cbS_min ?_ | with_reducible refine we_cb cbS_isi ?_) | with_reducible refine we_var rfl ?_ | with_reducible refine we_int ?_ | with_reducible refine we_str ?_ | with_reducible refine we_bl ?_ | with_reducible refine we_non ?_ | with_reducible refine we_ty ?_ | with_reducible refine we_ref ?_ | with_reducible refine we_sl ?_ | with_reducible refine we_orT ?_ | with_reducible refine we_andT ?_ | with_reducible refine we_notT ?_ | with_reducible refine we_if ?_ | with_reducible refine we_tup ⟨?_, ?_⟩ | with_reducible refine we_tup ?_ | with_reducible refine we_fld ?_ | with_reducible refine we_call (dds := []) (fun _ => HasL.nil) ?_ | with_reducible refine we_call0 (dds := []) (fun _ => HasL.nil) ?_ | with_reducible refine we_meth (dds := []) (fun _ => HasL.nil) ?_ | with_reducible refine we_bm mS_append ?_ | with_reducible refine we_bm mS_extend ?_ | with_reducible refine we_bm0 mS_clear ?_ | with_reducible refine we_bm mS_indexS ?_ | with_reducible refine we_bm mS_join ?_ | with_reducible refine we_bm mS_split ?_ | with_reducible refine we_bm mS_part ?_ | with_reducible refine we_un unS_neg ?_ | with_reducible refine we_un unS_inv ?_)
  | (guard_target =~ Wt _ _ _ _ _ _ _; first | with_reducible refine wt_test ?_ | with_reducible refine wt_tr ?_ | with_reducible refine wt_not ?_ | with_reducible refine wt_and ?_ | with_reducible refine wt_or ?_ | with_reducible refine wt_val ?_ | with_reducible refine wt_yes ?_)
  | (guard_target =~ Wg _ _ _ _ _ _; first | with_reducible refine wg_name ?_)
  | (guard_target =~ Wgs _ _ _ _ _ _; first | with_reducible refine wgs_cons ?_ | with_reducible refine wgs_nil ?_)
  | (guard_target =~ Wi _ _ _ _ _ _ _; first | with_reducible refine wi_str ?_ | with_reducible refine wi_list ?_ | with_reducible refine wi_rngN ?_ | with_reducible refine wi_rng2 ?_)
  | (guard_target =~ Wo _ _ _ _ _ _ _; first | with_reducible refine wo_none ?_ | with_reducible refine wo_some ?_)
  | with_reducible refine dAdd_ii ?_
  | with_reducible refine dI_ii ?_
  | with_reducible refine dU_i ?_
  | with_reducible refine dEq_fi ?_
  | with_reducible refine dEq_ti ?_
  | with_reducible refine dEq_fs ?_
  | with_reducible refine dEq_ts ?_
  | with_reducible refine dEq_fb ?_
  | with_reducible refine dEq_tb ?_
  | with_reducible refine dEq_sn ?_
  | with_reducible refine dEq_ns ?_
  | with_reducible refine dEq_nn ?_
  | with_reducible refine dIn_fs ?_
  | with_reducible refine dIn_ts ?_
  | with_reducible refine dIn_fi ?_
  | with_reducible refine dIn_ti ?_
  | with_reducible refine dIn_tc ?_
  | with_reducible refine dIn_fc ?_
  | with_reducible refine dSl_l ?_
  | with_reducible refine dSl_q ?_
  | with_reducible refine dLen_l ?_
  | with_reducible refine dLen_q ?_
  | (guard_target =~ dLen [.ref _] _ _; with_reducible refine dLen_r (by first | exact um_same | assumption) ?_)
  | with_reducible refine ty_l ?_
  | with_reducible refine ty_s ?_
  | (guard_target =~ tyD _ "list" (.ref _) ∧ _; with_reducible refine ty_r (by first | exact um_same | assumption) ?_)
  | with_reducible refine dLen_t ?_
  | with_reducible refine dInt_i ?_
  | with_reducible refine dInt_b ?_
  | with_reducible refine dBool_i ?_
  | with_reducible refine dMax_ii ?_
  | with_reducible refine dMin_ii ?_
  | with_reducible refine dList_l ?_
  | with_reducible refine dIsN_s ?_
  | with_reducible refine dIsN_n ?_
  | with_reducible refine dIsN_i ?_
  | with_reducible refine bl_ex ?_
  | with_reducible refine tru_b ?_
  | with_reducible refine tru_i ?_
  | with_reducible refine tru_l ?_
  | with_reducible refine iteT ?_
  | with_reducible refine iteF ?_
  | with_reducible refine iteNT ?_
  | with_reducible refine iteNF ?_
  | with_reducible refine ⟨_, rfl, ?_⟩)
local macro_rules | `(tactic| walk_at "w") => `(tactic| repeat walk_at "s")

/-! ### _law_due, _law_form_names -/
def tagS (c : Str) : Str := if c = "BadName" then "bad" else if c = "Taken" then "taken" else if c = "BadStep" then "step" else "unknown"
/-- what the law says is due -/
def dueD : Option (Str × Str) → D
  | none => .tup [.str "made", .str ""]
  | some z => .tup [.str (tagS z.1), .str z.2]
/-- names and steps in one row -/
def iFault : List Str → List (Str × Option Str) → Option (Str × Str)
  | _, [] => none
  | kn, (x, none) :: r => match nameFault kn x with
    | some z => some z
    | none => iFault (kn ++ [x]) r
  | kn, (x, some t) :: r => match rowFault kn x t with
    | some z => some z
    | none => iFault (kn ++ [x]) r
def itemsI (names : List Str) (rows : List (Str × Str)) : List (Str × Option Str) := (names.map fun x => (x, none)) ++ rows.map fun r => (r.1, some r.2)
theorem iFault_rows : ∀ (rows : List (Str × Str)) (kn : List Str), iFault kn (rows.map fun r => (r.1, some r.2)) = sFault kn rows
  | [], _ => rfl
  | s :: r, kn => by
    show (match rowFault kn s.1 s.2 with | some z => some z | none => iFault (kn ++ [s.1]) (r.map fun r => (r.1, some r.2))) = match rowFault kn s.1 s.2 with | some z => some z | none => sFault (kn ++ [s.1]) r
    rw [iFault_rows r]
theorem iFault_names (rest : List (Str × Option Str)) : ∀ (names kn : List Str), iFault kn ((names.map fun x => (x, none)) ++ rest) = match nFault kn names with
    | some z => some z
    | none => iFault (kn ++ names) rest
  | [], kn => by rw [List.append_nil]; rfl
  | x :: r, kn => by
    show (match nameFault kn x with | some z => some z | none => iFault (kn ++ [x]) ((r.map fun x => (x, none)) ++ rest)) = match (match nameFault kn x with | some z => some z | none => nFault (kn ++ [x]) r) with | some z => some z | none => iFault (kn ++ x :: r) rest
    cases nameFault kn x with
    | some z => rfl
    | none =>
      show iFault (kn ++ [x]) ((r.map fun x => (x, none)) ++ rest) = match nFault (kn ++ [x]) r with | some z => some z | none => iFault (kn ++ x :: r) rest
      rw [iFault_names rest r, List.append_assoc]
      rfl
theorem scr_items (names : List Str) (rows : List (Str × Str)) : scrFault names rows = iFault ["none"] (itemsI names rows) := by
  unfold itemsI
  rw [iFault_names, iFault_rows]
  rfl
theorem items_at {names : List Str} {rows : List (Str × Str)} {i : Nat} (h : i < names.length + rows.length) : (∃ x, i < names.length ∧ names[i]? = some x ∧ (itemsI names rows)[i]? = some (x, none)) ∨ ∃ (j : Nat) (r : Str × Str), i = names.length + j ∧ rows[j]? = some r ∧ (itemsI names rows)[i]? = some (r.1, some r.2) := by
  unfold itemsI
  rcases Nat.lt_or_ge i names.length with q | q
  · obtain ⟨x, hx⟩ := get_of_lt q
    exact .inl ⟨x, q, hx, by rw [List.getElem?_append_left (by rw [List.length_map]; exact q), List.getElem?_map, hx]; rfl⟩
  · obtain ⟨j, rfl⟩ := Nat.exists_eq_add_of_le q
    obtain ⟨r, hr⟩ := get_of_lt (l := rows) (i := j) (by omega)
    exact .inr ⟨j, r, rfl, hr, by rw [List.getElem?_append_right (by rw [List.length_map]; omega), List.length_map, Nat.add_sub_cancel_left, List.getElem?_map, hr]; rfl⟩
def sd_due : SpD := fun ds μ P _ => ∃ (names : List Str) (rows : List (Str × Str)), ds = [.lst (strsD names), .lst (pairsD rows)] ∧ names.length ≤ 1000 ∧ rows.length ≤ 1000 ∧ (∀ n ∈ names, n.length ≤ 90000) ∧ (∀ r ∈ rows, r.1.length ≤ 90000 ∧ r.2.length ≤ 90000 ∧ PyData.strOk r.2 = true) ∧ P (dueD (scrFault names rows)) μ
abbrev fnmA : List Str := ["over", "onto", "in", "join", "gain", "undo", "pick", "cut", "merge"]
abbrev fnmB : List Str := ["names", "needs", "package1", "package2", "package"]
abbrev fnmC : List Str := ["a", "ab", "drop", "know"]
def fnm : List Str := (fnmA ++ fnmB) ++ fnmC
def rotL (t : Nat) : List Str := fnm.drop t ++ fnm.take t
def sd_fnames : SpD := fun ds μ P _ => ∃ t : Nat, ds = [.int (t : Int)] ∧ P (.lst (strsD (rotL t))) μ
theorem rotL_mem {t : Nat} {x : Str} : x ∈ rotL t ↔ x ∈ fnm := by
  unfold rotL
  rw [List.mem_append, Or.comm, ← List.mem_append, List.take_append_drop]
theorem rotL_len (t : Nat) : (rotL t).length = 18 := by
  unfold rotL
  rw [List.length_append, Nat.add_comm, ← List.length_append, List.take_append_drop]
  rfl
theorem fnm_ok : (∀ x ∈ fnm, isName x = true) ∧ fnm.Nodup ∧ ¬ (("none" : Str) ∈ fnm) := by decide +kernel
theorem rotL_nodup (t : Nat) : (rotL t).Nodup := by
  have h : (fnm.take t ++ fnm.drop t).Nodup := by rw [List.take_append_drop]; exact fnm_ok.2.1
  exact List.perm_append_comm.nodup_iff.mp h
theorem rotL_ok {t : Nat} : (∀ x ∈ rotL t, isName x = true) ∧ (rotL t).Nodup ∧ ¬ (("none" : Str) ∈ rotL t) :=
  ⟨fun x hx => fnm_ok.1 x (rotL_mem.mp hx), rotL_nodup t, fun h => fnm_ok.2.2 (rotL_mem.mp h)⟩
theorem dIsN_l {neg : Bool} {x : List D} {μ : Mu} {P : PD} (h : P (.bl neg) μ) : dIsN neg (.lst x) .non μ P := h
abbrev N_law_due : List Str := ["_law_names_here", "_law_rows", "_law_known", "_law_k", "_law_name", "_law_text", "_law_parts", "_law_part"]
theorem sc_law_due : FnScope N_law_due ["_law_names_here", "_law_rows"] (defScope s_law_due) := ⟨rfl, rfl, rfl, by decide +kernel, rfl, by decide +kernel, by decide +kernel⟩
abbrev D_law_due (K : PySem.W.Frag) (mg : Str → Option Value) : Prop := DF K mg "_law_due" s_law_due
theorem gf_law_due {P : Program} {w : World} {K : PySem.W.Frag} {mg : Str → Option Value} {base : Heap} {k : Nat} {sp : Sp} (D : D_law_due K mg) (h : ∀ {f : Addr} {fd : FuncData}, FunD K "_law_due" "_law_due" (defArgs s_law_due) (defBody s_law_due) (defScope s_law_due) [] [] f fd → FnOk P w K mg base (L2.CX P w) k f fd ["_law_names_here", "_law_rows"] sp) : GF P w K mg base "_law_due" k ["_law_names_here", "_law_rows"] sp := by
  obtain ⟨f, fd, h1, h2⟩ := D.ex
  exact ⟨f, fd, h1, h2.kp, FunD.bindsN h2 fun _ _ _ _ _ _ us hl => match us, hl with | [_, _], _ => rfl, h h2⟩

abbrev N_law_form_names : List Str := ["_law_turn", "_law_names_here"]
theorem sc_law_form_names : FnScope N_law_form_names ["_law_turn"] (defScope s_law_form_names) := ⟨rfl, rfl, rfl, by decide +kernel, rfl, by decide +kernel, by decide +kernel⟩
abbrev D_law_form_names (K : PySem.W.Frag) (mg : Str → Option Value) : Prop := DF K mg "_law_form_names" s_law_form_names
theorem gf_law_form_names {P : Program} {w : World} {K : PySem.W.Frag} {mg : Str → Option Value} {base : Heap} {k : Nat} {sp : Sp} (D : D_law_form_names K mg) (h : ∀ {f : Addr} {fd : FuncData}, FunD K "_law_form_names" "_law_form_names" (defArgs s_law_form_names) (defBody s_law_form_names) (defScope s_law_form_names) [] [] f fd → FnOk P w K mg base (L2.CX P w) k f fd ["_law_turn"] sp) : GF P w K mg base "_law_form_names" k ["_law_turn"] sp := by
  obtain ⟨f, fd, h1, h2⟩ := D.ex
  exact ⟨f, fd, h1, h2.kp, FunD.bindsN h2 fun _ _ _ _ _ _ us hl => match us, hl with | [_], _ => rfl, h h2⟩

section
variable {P : Program} {w : World} {K : PySem.W.Frag} {mg : Str → Option Value} {base : Heap}
theorem ok_fnames (D : D_law_form_names K mg) (Z : Zs mg) : GF P w K mg base "_law_form_names" 1 ["_law_turn"] (toSp K sd_fnames) := by
  refine gf_law_form_names D fun F => fun_ok F sc_law_form_names (fun ds μ P X h => ?_) fun cdv A outer s H E hr => ⟨_, (pss_cons (ps_set (i := 1) sc_law_form_names.nd rfl (by first | exact Or.inl rfl | exact Or.inr rfl) (pe_lst (pa_cons pe_str (pa_cons pe_str (pa_cons pe_str (pa_cons pe_str (pa_cons pe_str (pa_cons pe_str (pa_cons pe_str (pa_cons pe_str (pa_cons pe_str pa_nil)))))))))))
    (pss_cons (ps_set (i := 1) sc_law_form_names.nd rfl (by first | exact Or.inl rfl | exact Or.inr rfl) (pe_op op_addU (pv 1) (pe_lst (pa_cons pe_str (pa_cons pe_str (pa_cons pe_str (pa_cons pe_str (pa_cons pe_str pa_nil))))))))
    (pss_cons (ps_set (i := 1) sc_law_form_names.nd rfl (by first | exact Or.inl rfl | exact Or.inr rfl) (pe_op op_addU (pv 1) (pe_lst (pa_cons pe_str (pa_cons pe_str (pa_cons pe_str (pa_cons pe_str pa_nil)))))))
    (pss_one (ps_ret (pe_op op_addU (pe_slice (sl_uK (K := K) rfl) (pv 1) (po_some (pv 0)) po_none) (pe_slice (sl_uK (K := K) rfl) (pv 1) po_none (po_some (pv 0))))))))), fun ds μ Pd X h => ?_⟩
  · obtain ⟨t, rfl, _⟩ := h; rfl
  · obtain ⟨t, rfl, hp⟩ := h
    have sl : ∀ n, n ≤ 100000 → n ≤ sizeLine := fun n h => Nat.le_of_lt (szl n h)
    show Ws K (wOf E) _ [some (.int (t : Int)), none] μ _
    refine ws_seq (ws_set (we_lst ?_))
    walk_at "w"
    refine ⟨sl _ (by decide), ?_⟩
    refine ws_seq (ws_set ?_)
    walk_at "w"
    refine we_lst ?_
    walk_at "w"
    refine ⟨sl _ (by decide), ?_⟩
    refine dAdd_ll (sl _ (by decide)) ?_
    refine ws_seq (ws_set ?_)
    walk_at "w"
    refine we_lst ?_
    walk_at "w"
    refine ⟨sl _ (by decide), ?_⟩
    refine dAdd_ll (sl _ (by decide)) ?_
    show Ws K (wOf E) _ [some (.int (t : Int)), some (.lst (strsD fnm))] μ _
    walk_at "w"
    rw [cut_strs', cut_strs]
    have h1 : (fnm.drop t).length + (fnm.take t).length = 18 := by
      rw [← List.length_append]
      exact rotL_len t
    refine dAdd_ll (sl _ (by rw [List.length_map, List.length_map, h1]; decide)) ?_
    rw [show strsD (fnm.drop t) ++ strsD (fnm.take t) = strsD (rotL t) from (List.map_append ..).symm]
    exact ret_of hp
theorem ok_due (D : D_law_due K mg) (Z : Zs mg) (G_law_is_name : GF P w K mg base "_law_is_name" 1 ["_law_word"] (toSp K sd_lname)) (G_law_operands : GF P w K mg base "_law_operands" 1 ["_law_text"] (toSp K sd_lops)) : GF P w K mg base "_law_due" 2 ["_law_names_here", "_law_rows"] (toSp K sd_due) := by
  refine gf_law_due D fun F => fun_ok F sc_law_due (fun ds μ P X h => ?_) fun cdv A outer s H E hr => ⟨_, (pss_cons (ps_set (i := 2) sc_law_due.nd rfl (by first | exact Or.inl rfl | exact Or.inr rfl) (pe_lst (pa_cons pe_str pa_nil)))
    (pss_cons (ps_for po_def rfl (pi_range1 (by rfl) Z.z_range (pa_cons (pe_op op_addU (pe_callB (call_lenK (K := K) rfl) (by rfl) Z.z_len (by decide +kernel) (pa_cons (pv 0) pa_nil)) (pe_callB (call_lenK (K := K) rfl) (by rfl) Z.z_len (by decide +kernel) (pa_cons (pv 1) pa_nil))) pa_nil)) (pg_name (i := 3) sc_law_due.nd rfl (by first | exact Or.inl rfl | exact Or.inr rfl))
      (pss_cons (ps_set (i := 4) sc_law_due.nd rfl (by first | exact Or.inl rfl | exact Or.inr rfl) (pe_ifExp (pt_cmpR op_lt (pv 3) (pe_callB (call_lenK (K := K) rfl) (by rfl) Z.z_len (by decide +kernel) (pa_cons (pv 0) pa_nil)) (nomark _)) (pe_ix (ix_seqK (K := K) rfl) (pv 0) (pv 3) (fun _ _ => rfl)) (pe_ix (ix_seqK (K := K) rfl) (pe_ix (ix_seqK (K := K) rfl) (pv 1) (pe_op op_sub (pv 3) (pe_callB (call_lenK (K := K) rfl) (by rfl) Z.z_len (by decide +kernel) (pa_cons (pv 0) pa_nil))) (fun _ _ => rfl)) pe_int (fun _ _ => rfl))))
        (pss_cons (ps_if (pt_not (pt_trK (K := K) rfl (pe_gf G_law_is_name (hr.mono (by decide)) tk_def (pa_cons (pv 4) pa_nil))))
          (pss_one (ps_ret (pe_tup (pa_cons pe_str (pa_cons (pv 4) pa_nil)))))
          pss_nil)
        (pss_cons (ps_if (pt_cmpR (op_inK (K := K) rfl (room65 hr)) (pv 4) (pv 2) (by rfl))
          (pss_one (ps_ret (pe_tup (pa_cons pe_str (pa_cons (pv 4) pa_nil)))))
          pss_nil)
        (pss_cons (ps_if (pt_cmpR op_ge (pv 3) (pe_callB (call_lenK (K := K) rfl) (by rfl) Z.z_len (by decide +kernel) (pa_cons (pv 0) pa_nil)) (nomark _))
          (pss_cons (ps_set (i := 5) sc_law_due.nd rfl (by first | exact Or.inl rfl | exact Or.inr rfl) (pe_ix (ix_seqK (K := K) rfl) (pe_ix (ix_seqK (K := K) rfl) (pv 1) (pe_op op_sub (pv 3) (pe_callB (call_lenK (K := K) rfl) (by rfl) Z.z_len (by decide +kernel) (pa_cons (pv 0) pa_nil))) (fun _ _ => rfl)) pe_int (fun _ _ => rfl)))
            (pss_cons (ps_set (i := 6) sc_law_due.nd rfl (by first | exact Or.inl rfl | exact Or.inr rfl) (pe_gf G_law_operands (hr.mono (by decide)) tk_def (pa_cons (pv 5) pa_nil)))
            (pss_cons (ps_if (pt_cmpR op_isN1 (pv 6) pe_non (nomark _))
              (pss_one (ps_ret (pe_tup (pa_cons pe_str (pa_cons (pv 5) pa_nil)))))
              pss_nil)
            (pss_one (ps_for po_def rfl (pi_listK (K := K) rfl (pv 6)) (pg_name (i := 7) sc_law_due.nd rfl (by first | exact Or.inl rfl | exact Or.inr rfl))
              (pss_one (ps_if (pt_cmpR (op_notInK (K := K) rfl (room65 hr)) (pv 7) (pv 2) (by rfl))
                  (pss_one (ps_ret (pe_tup (pa_cons pe_str (pa_cons (pv 7) pa_nil)))))
                  pss_nil)))))))
          pss_nil)
        (pss_one (ps_expr (pe_bmK (K := K) rfl PySem.F.plainAttrs_list PySem.F.slot_list_append PySem.F.type_list_append mt_append (pv 2) (pa_cons (pv 4) pa_nil)))))))))
    (pss_one (ps_ret (pe_tup (pa_cons pe_str (pa_cons pe_str pa_nil))))))), fun ds μ Pd X h => ?_⟩
  · obtain ⟨names, rows, rfl, _⟩ := h; rfl
  · obtain ⟨names, rows, rfl, hnl, hrl, hnn, hrr, hp⟩ := h
    have sl : ∀ n, n ≤ 100000 → n ≤ sizeLine := fun n h => Nat.le_of_lt (szl n h)
    let Γs : Option Nm.D → Option Nm.D → Option Nm.D → Option Nm.D → Option Nm.D → Option Nm.D → Gm := fun g2 g3 g4 g5 g6 g7 => [some (.lst (strsD names)), some (.lst (pairsD rows)), g2, g3, g4, g5, g6, g7]
    show Ws K (wOf E) _ (Γs none none none none none none) μ _
    refine ws_seq (ws_set (we_lstM ?_))
    walk_at "w"
    refine ⟨sl 1 (by decide), fun l hl0 => ?_⟩
    show Ws K (wOf E) _ (Γs (some (.ref l)) none none none none none) (um μ l (.lst (strsD ["none"]))) _
    walk_at "w"
    have nlen : (strsD names).length = names.length := List.length_map ..
    have rlen : (pairsD rows).length = rows.length := List.length_map ..
    rw [nlen, rlen]
    rw [scr_items] at hp
    refine ⟨by omega, ?_⟩
    let kn : Nat → List Str := fun i => "none" :: ((itemsI names rows).take i).map (·.1)
    have knS : ∀ {i : Nat} {x : Str} {t : Option Str}, (itemsI names rows)[i]? = some (x, t) → kn (i + 1) = kn i ++ [x] := fun {i x t} h => by
      show _ :: _ = _
      rw [take_succ h, List.map_append]
      rfl
    have knl : ∀ i, (kn i).length ≤ 3000 := fun i => by
      show (_ :: _).length ≤ _
      rw [List.length_cons, List.length_map, List.length_take]
      unfold itemsI
      rw [List.length_append, List.length_map, List.length_map]
      omega
    refine ⟨fun i Γ' μ' => (∃ g3 g4 g5 g6 g7, Γ' = Γs (some (.ref l)) g3 g4 g5 g6 g7) ∧ μ' = um μ l (.lst (strsD (kn i))) ∧ iFault ["none"] (itemsI names rows) = iFault (kn i) ((itemsI names rows).drop i),
      ⟨⟨_, _, _, _, _, rfl⟩, rfl, rfl⟩, ?_, ?_⟩
    · rintro i d Γ' μ' hi ⟨⟨g3, g4, g5, g6, g7, rfl⟩, rfl, hf⟩
      obtain ⟨hi1, rfl⟩ := rng0_get hi
      -- the name
      obtain ⟨x, t, hit⟩ : ∃ x t, (itemsI names rows)[i]? = some (x, t) := by
        rcases items_at hi1 with ⟨x, _, _, h⟩ | ⟨j, r, _, _, h⟩
        · exact ⟨_, _, h⟩
        · exact ⟨_, _, h⟩
      have hxl : x.length ≤ 90000 := by
        rcases items_at hi1 with ⟨y, _, hy, h⟩ | ⟨j, r, _, hr2, h⟩
        · rw [hit] at h; cases h
          exact hnn _ (List.mem_of_getElem? hy)
        · rw [hit] at h; cases h
          exact (hrr _ (List.mem_of_getElem? hr2)).1
      rw [drop_at hit] at hf
      refine wg_name ?_
      show Ws K (wOf E) _ (Γs (some (.ref l)) (some (.int (i : Int))) g4 g5 g6 g7) _ _
      refine ws_seq (Ws.nxi (P := fun Γ' μ' => Γ' = Γs (some (.ref l)) (some (.int (i : Int))) (some (.str x)) g5 g6 g7 ∧ μ' = um μ l (.lst (strsD (kn i)))) ?_ ?_)
      · walk_at "w"
        rw [nlen]
        rcases items_at hi1 with ⟨y, hy1, hy, h⟩ | ⟨j, r, hj, hr2, h⟩
        · rw [hit] at h; cases h
          rw [decide_eq_true (show (i : Int) < (names.length : Int) by omega)]
          refine iteT ?_
          walk_at "w"
          refine dIx_l (atI_nat (strsD_get hy)) ?_
          exact ⟨rfl, rfl⟩
        · rw [hit] at h; cases h
          rw [decide_eq_false (show ¬ (i : Int) < (names.length : Int) by omega)]
          refine iteF ?_
          walk_at "w"
          rw [nlen, show (i : Int) - (names.length : Int) = ((j : Nat) : Int) by omega]
          refine dIx_l (atI_nat (show (pairsD rows)[j]? = some (pairD r) by rw [List.getElem?_map, hr2]; rfl)) ?_
          walk_at "w"
          refine dIx_t (atI_nat (j := 0) (show ([.str r.1, .str r.2] : List Nm.D)[0]? = some (.str r.1) from rfl)) ?_
          exact ⟨rfl, rfl⟩
      rintro Γ' μ' ⟨rfl, rfl⟩
      show Ws K (wOf E) _ (Γs (some (.ref l)) (some (.int (i : Int))) (some (.str x)) g5 g6 g7) _ _
      have nf : ∀ z, nameFault (kn i) x = some z → Pd (dueD (some z)) (um μ l (.lst (strsD (kn i)))) → True := fun _ _ _ => trivial
      have fpd : ∀ {z : Str × Str} {μ2 : Mu}, SubM μ μ2 → iFault ["none"] (itemsI names rows) = some z → (retE Pd X).rt (dueD (some z)) μ2 := fun {z μ2} hs h => by
        rw [h] at hp
        exact ⟨μ, hs, hp⟩
      have sub : ∀ i, SubM μ (um μ l (.lst (strsD (kn i)))) := fun i => SubM.um hl0
      walk_at "w"
      refine ⟨x, rfl, by omega, ?_⟩
      walk_at "w"
      have efN : nameFault (kn i) x = if isName x = false then some (("BadName" : Str), x) else if x ∈ kn i then some (("Taken" : Str), x) else none := rfl
      have efA : ∀ z, nameFault (kn i) x = some z → iFault ["none"] (itemsI names rows) = some z := fun z h => by
        rw [hf]
        cases t with
        | none =>
          show (match nameFault (kn i) x with | some z => some z | none => _) = _
          rw [h]
        | some t =>
          show (match rowFault (kn i) x t with | some z => some z | none => _) = _
          unfold rowFault
          rw [h]
      cases q : isName x with
      | false =>
        rw [q, if_pos rfl] at efN
        refine iteNT ?_
        walk_at "w"
        refine ⟨sl 2 (by decide), ?_⟩
        exact fpd (z := ("BadName", x)) (sub i) (efA _ efN)
      | true =>
        rw [q, if_neg (by decide)] at efN
        refine iteNF ?_
        walk_at "w"
        refine dIn_frs um_same ?_
        walk_at "w"
        refine iteD (fun hm => ?_) (fun hm => ?_)
        · rw [if_pos hm] at efN
          walk_at "w"
          refine ⟨sl 2 (by decide), ?_⟩
          exact fpd (z := ("Taken", x)) (sub i) (efA _ efN)
        rw [if_neg hm] at efN
        have fin : ∀ (B : Gm → Mu → Prop) g5 g6 g7, iFault ["none"] (itemsI names rows) = iFault (kn i ++ [x]) ((itemsI names rows).drop (i + 1)) → Ws K (wOf E) (tDrop (tBM K "list" rAppend (tVar 2) (tCons (tVar 4) tNil))) (Γs (some (.ref l)) (some (.int (i : Int))) (some (.str x)) g5 g6 g7) (um μ l (.lst (strsD (kn i)))) { retE Pd X with nx := Fo (fun Γ' μ' => (∃ g3 g4 g5 g6 g7, Γ' = Γs (some (.ref l)) g3 g4 g5 g6 g7) ∧ μ' = um μ l (.lst (strsD (kn (i + 1)))) ∧ iFault ["none"] (itemsI names rows) = iFault (kn (i + 1)) ((itemsI names rows).drop (i + 1))), ct := Fo (fun Γ' μ' => (∃ g3 g4 g5 g6 g7, Γ' = Γs (some (.ref l)) g3 g4 g5 g6 g7) ∧ μ' = um μ l (.lst (strsD (kn (i + 1)))) ∧ iFault ["none"] (itemsI names rows) = iFault (kn (i + 1)) ((itemsI names rows).drop (i + 1))), bk := B } := fun B g5 g6 g7 hfi => by
          walk_at "w"
          refine dApp um_same (szl _ (by rw [List.length_map]; have := knl i; omega)) ?_
          rw [um_um, strsD_app]
          exact Fo.of ⟨⟨_, _, _, _, _, rfl⟩, by rw [knS hit], by rw [knS hit]; exact hfi⟩
        rcases items_at hi1 with ⟨y, hy1, hy, h⟩ | ⟨j, r, hj, hr2, h⟩
        · rw [hit] at h; cases h
          walk_at "w"
          rw [nlen, decide_eq_false (show ¬ (names.length : Int) ≤ (i : Int) by omega)]
          refine iteF ?_
          refine ws_next ?_
          refine fin _ _ _ _ ?_
          rw [hf]
          show (match nameFault (kn i) x with | some z => some z | none => _) = _
          rw [efN]
        · rw [hit] at h; cases h
          walk_at "w"
          rw [nlen, decide_eq_true (show (names.length : Int) ≤ (i : Int) by omega)]
          refine iteT ?_
          obtain ⟨_, hr3, hr4⟩ := hrr _ (List.mem_of_getElem? hr2)
          walk_at "w"
          rw [nlen, show (i : Int) - (names.length : Int) = ((j : Nat) : Int) by omega]
          refine dIx_l (atI_nat (show (pairsD rows)[j]? = some (pairD r) by rw [List.getElem?_map, hr2]; rfl)) ?_
          walk_at "w"
          refine dIx_t (atI_nat (j := 1) (show ([.str r.1, .str r.2] : List Nm.D)[1]? = some (.str r.2) from rfl)) ?_
          walk_at "w"
          refine ⟨r.2, rfl, hr3, hr4, ?_⟩
          have efR : rowFault (kn i) r.1 r.2 = match partsOf r.2 with
              | none => some ("BadStep", r.2)
              | some ps => (ps.find? fun p => decide (p ∉ kn i)).map fun p => ("Unknown", p) := by
            unfold rowFault
            rw [efN]
            all_goals rfl
          have hf2 : iFault ["none"] (itemsI names rows) = match rowFault (kn i) r.1 r.2 with
              | some z => some z
              | none => iFault (kn i ++ [r.1]) ((itemsI names rows).drop (i + 1)) := hf
          rw [efR] at hf2
          cases hps : partsOf r.2 with
          | none =>
            rw [hps] at hf2
            walk_at "w"
            refine dIsN_n ?_
            walk_at "w"
            refine ⟨sl 2 (by decide), ?_⟩
            exact fpd (z := ("BadStep", r.2)) (sub i) hf2
          | some ps =>
            rw [hps] at hf2
            replace hf2 : iFault ["none"] (itemsI names rows) = match (ps.find? fun p => decide (p ∉ kn i)).map (fun p => (("Unknown" : Str), p)) with
              | some z => some z
              | none => iFault (kn i ++ [r.1]) ((itemsI names rows).drop (i + 1)) := hf2
            walk_at "w"
            refine dIsN_l ?_
            walk_at "w"
            have pf : ∀ z, (ps.find? fun p => decide (p ∉ kn i)) = some z → (retE Pd X).rt (dueD (some ("Unknown", z))) (um μ l (.lst (strsD (kn i)))) := fun z h => by
              rw [h] at hf2
              exact fpd (z := ("Unknown", z)) (sub i) hf2
            refine ⟨_, .inl rfl, fun u Γ' μ' => (∃ g7, Γ' = Γs (some (.ref l)) (some (.int (i : Int))) (some (.str r.1)) (some (.str r.2)) (some (.lst (strsD ps))) g7) ∧ μ' = um μ l (.lst (strsD (kn i))) ∧ ps.find? (fun p => decide (p ∉ kn i)) = (ps.drop u).find? (fun p => decide (p ∉ kn i)), ⟨⟨_, rfl⟩, rfl, rfl⟩, ?_, ?_⟩
            · rintro u d Γ' μ' hu ⟨⟨g7, rfl⟩, rfl, hfu⟩
              rw [List.getElem?_map] at hu
              obtain ⟨z, hz, rfl⟩ := Option.map_eq_some_iff.mp hu
              rw [drop_at hz] at hfu
              walk_at "w"
              refine dIn_trs um_same ?_
              walk_at "w"
              cases q : decide (z ∈ kn i) with
              | false =>
                have hq := of_decide_eq_false q
                rw [List.find?_cons_of_pos (p := fun p => decide (p ∉ kn i)) (decide_eq_true hq)] at hfu
                refine iteNT ?_
                walk_at "w"
                refine ⟨sl 2 (by decide), ?_⟩
                exact pf z hfu
              | true =>
                have hq := of_decide_eq_true q
                rw [List.find?_cons_of_neg (p := fun p => decide (p ∉ kn i)) (by rw [decide_eq_false (fun h => h hq)]; exact Bool.false_ne_true)] at hfu
                refine iteNF ?_
                walk_at "w"
                exact Fo.of ⟨⟨_, rfl⟩, rfl, hfu⟩
            · rintro Γ' μ' ⟨⟨g7, rfl⟩, rfl, hfu⟩
              rw [List.length_map, List.drop_length] at hfu
              rw [hfu] at hf2
              exact fin _ _ _ _ hf2
    · rintro Γ' μ' ⟨⟨g3, g4, g5, g6, g7, rfl⟩, rfl, hf⟩
      have e : iFault ["none"] (itemsI names rows) = none := by
        rw [hf, List.drop_of_length_le]
        · rfl
        · rw [rng0_length]
          unfold itemsI
          rw [List.length_append, List.length_map, List.length_map]
          exact Nat.le_refl _
      rw [e] at hp
      walk_at "w"
      refine ⟨sl 2 (by decide), ?_⟩
      exact ⟨μ, SubM.um hl0, hp⟩
end
end Nm
namespace Nm
open PySem PySem.Spec PyProof.Rows L2
local macro_rules | `(tactic| walk_at "s") => `(tactic| first
  | (guard_target =~ Ws _ _ _ _ _ _; first | with_reducible refine ws_seq ?_ | with_reducible refine ws_set ?_ | with_reducible refine ws_if ?_ | with_reducible refine ws_ret ?_ | with_reducible refine ws_asg ?_ | with_reducible refine ws_drop ?_ | with_reducible refine ws_next ?_ | with_reducible refine ws_for ?_ | with_reducible refine ws_brk ?_ | with_reducible refine ws_cont ?_ | with_reducible refine ws_retN ?_ | with_reducible refine ws_fld ?_)
  | (guard_target =~ Wa _ _ _ _ _ _ _; first | with_reducible refine wa_cons ?_ | with_reducible refine wa_nil ?_)
  | (guard_target =~ We _ _ _ _ _ _ _; first | (guard_target =~ We _ _ (tOp _ _ _) _ _ _ _; first | with_reducible refine we_op opS_add ?_ | with_reducible refine we_op opS_sub ?_ | with_reducible refine we_op opS_mul ?_ | with_reducible refine we_op opS_mod ?_ | with_reducible refine we_op opS_div ?_ | with_reducible refine we_op opS_ix ?_ | with_reducible refine we_op opS_eq ?_ | with_reducible refine we_op opS_ne ?_ | with_reducible refine we_op opS_lt ?_ | with_reducible refine we_op opS_le ?_ | with_reducible refine we_op opS_gt ?_ | with_reducible refine we_op opS_ge ?_ | with_reducible refine we_op opS_in ?_ | with_reducible refine we_op opS_notIn ?_ | with_reducible refine we_op opS_and ?_ | with_reducible refine we_op opS_or ?_ | with_reducible refine we_op opS_shr ?_ | with_reducible refine we_op opS_shl ?_ | with_reducible refine we_op opS_pow ?_ | with_reducible refine we_op opS_isN ?_ | with_reducible refine we_op opS_notN ?_ | with_reducible refine we_op opS_xor ?_) | (guard_target =~ We _ _ (tCB _ _) _ _ _ _; first | with_reducible refine we_cb cbS_len ?_ | with_reducible refine we_cb cbS_int ?_ | with_reducible refine we_cb cbS_bool ?_ | with_reducible refine we_cb cbS_max ?_ | with_reducible refine we_cb cbS_min ?_ | with_reducible refine we_cb cbS_isi ?_) | with_reducible refine we_var rfl ?_ | with_reducible refine we_int ?_ | with_reducible refine we_str ?_ | with_reducible refine we_bl ?_ | with_reducible refine we_non ?_ | with_reducible refine we_ty ?_ | with_reducible refine we_ref ?_ | with_reducible refine we_sl ?_ | with_reducible refine we_orT ?_ | with_reducible refine we_andT ?_ | with_reducible refine we_notT ?_ | with_reducible refine we_if ?_ | with_reducible refine we_tup ⟨?_, ?_⟩ | with_reducible refine we_tup ?_ | with_reducible refine we_fld ?_ | with_reducible refine we_call (dds := []) (fun _ => HasL.nil) ?_ | with_reducible refine we_call0 (dds := []) (fun _ => HasL.nil) ?_ | with_reducible refine we_meth (dds := []) (fun _ => HasL.nil) ?_ | with_reducible refine we_bm mS_append ?_ | with_reducible refine we_bm mS_extend ?_ | with_reducible refine we_bm0 mS_clear ?_ | with_reducible refine we_bm mS_indexS ?_ | with_reducible refine we_bm mS_join ?_ | with_reducible refine we_bm mS_split ?_ | with_reducible refine we_bm mS_part ?_ | with_reducible refine we_un unS_neg ?_ | with_reducible refine we_un unS_inv ?_)
  | (guard_target =~ Wt _ _ _ _ _ _ _; first | with_reducible refine wt_test ?_ | with_reducible refine wt_tr ?_ | with_reducible refine wt_not ?_ | with_reducible refine wt_and ?_ | with_reducible refine wt_or ?_ | with_reducible refine wt_val ?_ | with_reducible refine wt_yes ?_)
  | (guard_target =~ Wg _ _ _ _ _ _; first | with_reducible refine wg_name ?_)
  | (guard_target =~ Wgs _ _ _ _ _ _; first | with_reducible refine wgs_cons ?_ | with_reducible refine wgs_nil ?_)
  | (guard_target =~ Wi _ _ _ _ _ _ _; first | with_reducible refine wi_str ?_ | with_reducible refine wi_list ?_ | with_reducible refine wi_rngN ?_ | with_reducible refine wi_rng2 ?_)
  | (guard_target =~ Wo _ _ _ _ _ _ _; first | with_reducible refine wo_none ?_ | with_reducible refine wo_some ?_)
  | with_reducible refine dAdd_ii ?_
  | with_reducible refine dI_ii ?_
  | with_reducible refine dU_i ?_
  | with_reducible refine dEq_fi ?_
  | with_reducible refine dEq_ti ?_
  | with_reducible refine dEq_fs ?_
  | with_reducible refine dEq_ts ?_
  | with_reducible refine dEq_fb ?_
  | with_reducible refine dEq_tb ?_
  | with_reducible refine dEq_sn ?_
  | with_reducible refine dEq_ns ?_
  | with_reducible refine dEq_nn ?_
  | with_reducible refine dIn_fs ?_
  | with_reducible refine dIn_ts ?_
  | with_reducible refine dIn_fi ?_
  | with_reducible refine dIn_ti ?_
  | with_reducible refine dIn_tc ?_
  | with_reducible refine dIn_fc ?_
  | with_reducible refine dSl_l ?_
  | with_reducible refine dSl_q ?_
  | with_reducible refine dLen_l ?_
  | with_reducible refine dLen_q ?_
  | (guard_target =~ dLen [.ref _] _ _; with_reducible refine dLen_r (by first | exact um_same | assumption) ?_)
  | with_reducible refine ty_l ?_
  | with_reducible refine ty_s ?_
  | (guard_target =~ tyD _ "list" (.ref _) ∧ _; with_reducible refine ty_r (by first | exact um_same | assumption) ?_)
  | with_reducible refine dLen_t ?_
  | with_reducible refine dInt_i ?_
  | with_reducible refine dInt_b ?_
  | with_reducible refine dBool_i ?_
  | with_reducible refine dMax_ii ?_
  | with_reducible refine dMin_ii ?_
  | with_reducible refine dList_l ?_
  | with_reducible refine dIsN_s ?_
  | with_reducible refine dIsN_n ?_
  | with_reducible refine dIsN_i ?_
  | with_reducible refine bl_ex ?_
  | with_reducible refine tru_b ?_
  | with_reducible refine tru_i ?_
  | with_reducible refine tru_l ?_
  | with_reducible refine iteT ?_
  | with_reducible refine iteF ?_
  | with_reducible refine iteNT ?_
  | with_reducible refine iteNF ?_
  | with_reducible refine ⟨_, rfl, ?_⟩)
local macro_rules | `(tactic| walk_at "w") => `(tactic| repeat walk_at "s")

/-! ### _law_spoil (scripts) -/
/-- how long a text of words is -/
def tot (ws : List Str) : Nat := (ws.map (·.length)).sum + ws.length
theorem tot_cons (w : Str) (r : List Str) : tot (w :: r) = w.length + 1 + tot r := by
  unfold tot
  rw [List.map_cons, List.sum_cons, List.length_cons]
  omega
theorem tot_app (r s : List Str) : tot (r ++ s) = tot r + tot s := by
  unfold tot
  rw [List.map_append, List.sum_append, List.length_append]
  omega
theorem tot_set {b : Nat} {w : Str} (hw : w.length ≤ b) : ∀ (ws : List Str) (i : Nat), tot (ws.set i w) ≤ tot ws + b
  | [], i => by rw [List.set_nil]; omega
  | x :: r, 0 => by rw [List.set_cons_zero, tot_cons, tot_cons]; omega
  | x :: r, i + 1 => by
    have := tot_set hw r i
    rw [List.set_cons_succ, tot_cons, tot_cons]; omega
theorem tot_erase : ∀ (ws : List Str) (i : Nat), tot (ws.eraseIdx i) ≤ tot ws
  | [], i => Nat.le_refl _
  | x :: r, 0 => by rw [List.eraseIdx_cons_zero, tot_cons]; omega
  | x :: r, i + 1 => by
    have := tot_erase r i
    rw [List.eraseIdx_cons_succ, tot_cons, tot_cons]; omega
theorem join_tot : ∀ (ws : List Str), (Txt.join " " ws).length ≤ tot ws
  | [] => by rw [TL.join_eq]; exact Nat.le_refl _
  | [x] => by
    rw [TL.join_eq, tot_cons]
    show x.length ≤ _
    omega
  | x :: z :: r => by
    have ih := join_tot (z :: r)
    rw [TL.join_eq] at ih ⊢
    have e : (Str.join " " (x :: z :: r)).length = x.length + (" " : Str).length + (Str.join " " (z :: r)).length := by
      show (x ++ " " ++ Str.join " " (z :: r)).length = _
      rw [len_app, len_app]
    rw [e, sp_len, tot_cons]
    omega
theorem tot_join : ∀ (ws : List Str), ws ≠ [] → tot ws = (Str.join " " ws).length + 1
  | [], h => absurd rfl h
  | [x], _ => by rw [tot_cons]; show x.length + 1 + 0 = x.length + 1; omega
  | x :: z :: r, _ => by
    have ih := tot_join (z :: r) (List.cons_ne_nil _ _)
    have e : (Str.join " " (x :: z :: r)).length = x.length + (" " : Str).length + (Str.join " " (z :: r)).length := by
      show (x ++ " " ++ Str.join " " (z :: r)).length = _
      rw [len_app, len_app]
    rw [e, sp_len, tot_cons, ih]
    omega
theorem tot_split (x : Str) : tot (Txt.split x " ") = x.length + 1 := by
  rw [tot_join _ split_ne, StrLaws.join_split]
theorem tot_mem {b : Nat} : ∀ {ws : List Str} {w : Str}, w ∈ ws → w.length ≤ tot ws
  | [], w, h => by cases h
  | x :: r, w, h => by
    rw [tot_cons]
    rcases List.mem_cons.mp h with rfl | h
    · omega
    · have := tot_mem (b := b) h
      omega
theorem tot_set' {b : Nat} {w x : Str} (hw : w.length ≤ x.length + b) : ∀ {ws : List Str} {i : Nat}, ws[i]? = some x → tot (ws.set i w) ≤ tot ws + b
  | [], i, h => by cases h
  | y :: r, 0, h => by
    obtain rfl : y = x := Option.some.inj h
    rw [List.set_cons_zero, tot_cons, tot_cons]; omega
  | y :: r, i + 1, h => by
    have := tot_set' hw (ws := r) (i := i) h
    rw [List.set_cons_succ, tot_cons, tot_cons]; omega
/-- a new list of parts that may be changed -/
def dSplitM : D → List D → Mu → PD → Prop
  | .str a, [.str b], μ, P => (b.length == 0) = false ∧ a.length + 2 ≤ sizeLine ∧ ∀ p, μ p = none → P (.ref p) (um μ p (.lst ((Txt.split a b).map D.str)))
  | _, _, _, _ => False
theorem mS_splitM {K : PySem.W.Frag} : MS K rSplitT dSplitM := by
  intro S H μ x xs d ds P Q a h hl p c
  unfold dSplitM at p
  split at p
  · obtain ⟨y, rfl, hy⟩ := has1 hl
    rw [h.str_inv, hy.str_inv]
    exact ⟨_, _, rfl, rfl, p.1, p.2.1, lay_lstM a (vals_of _) p.2.2 c⟩
  · exact p.elim
theorem deqL_nil_r {α : Type} {f : α → D} : ∀ (xs : List α), deqL (xs.map f) [] = decide (xs = [])
  | [] => rfl
  | x :: r => by rw [List.map_cons, deqL_cn]; exact (decide_eq_false (List.cons_ne_nil _ _)).symm
theorem seq_ix {k n : Nat} (h : k < n) : seqIndex? (k : Int) n = some k := by
  unfold seqIndex?
  rw [if_neg (by omega : ¬ (k : Int) < 0)]
  simp [h]
theorem erase_map {α β : Type} {f : α → β} : ∀ (l : List α) (i : Nat), (l.map f).eraseIdx i = (l.eraseIdx i).map f
  | [], _ => rfl
  | _ :: _, 0 => rfl
  | x :: r, i + 1 => congrArg (f x :: ·) (erase_map r i)
abbrev GoodN (b : Nat) (x : Str) : Prop := x.length ≤ b ∧ Asc x
def sd_spoil12 : SpD := fun ds μ P _ => ∃ (zs : List Int) (a : Addr) (n : Int) (names : List Str) (rows : List (Str × Str)) (z : Str) (b : Nat), ds = [.lst (intsD zs), .ref a, .lst (strsD names), .lst (pairsD rows), .str z] ∧ zs ≠ [] ∧ μ a = some (.lst [.int n]) ∧ names ≠ [] ∧ names.length ≤ 100 ∧ rows.length ≤ 100 ∧ b ≤ 5000 ∧
  (∀ x ∈ names, GoodN 100 x) ∧ (∀ r ∈ rows, GoodN 100 r.1 ∧ GoodN b r.2) ∧ GoodN 100 z ∧
  ∀ (names' : List Str) (rows' : List (Str × Str)) (n' : Int), names'.length = names.length → rows'.length = rows.length → (∀ x ∈ names', GoodN 100 x) → (∀ r ∈ rows', GoodN 100 r.1 ∧ GoodN (b + 300) r.2) → P (.tup [.lst (strsD names'), .lst (pairsD rows')]) (um μ a (.lst [.int n']))
abbrev N_law_spoil : List Str := ["_law_pool_here", "_law_at", "_law_names_here", "_law_rows", "_law_stranger", "_law_known", "_law_row", "_law_word", "_law_way", "_law_spot", "_law_words_here", "_law_place", "_law_other"]
theorem sc_law_spoil : FnScope N_law_spoil ["_law_pool_here", "_law_at", "_law_names_here", "_law_rows", "_law_stranger"] (defScope s_law_spoil) := ⟨rfl, rfl, rfl, by decide +kernel, rfl, by decide +kernel, by decide +kernel⟩
abbrev D_law_spoil (K : PySem.W.Frag) (mg : Str → Option Value) : Prop := DF K mg "_law_spoil" s_law_spoil
theorem gf_law_spoil {P : Program} {w : World} {K : PySem.W.Frag} {mg : Str → Option Value} {base : Heap} {k : Nat} {sp : Sp} (D : D_law_spoil K mg) (h : ∀ {f : Addr} {fd : FuncData}, FunD K "_law_spoil" "_law_spoil" (defArgs s_law_spoil) (defBody s_law_spoil) (defScope s_law_spoil) [] [] f fd → FnOk P w K mg base (L2.CX P w) k f fd ["_law_pool_here", "_law_at", "_law_names_here", "_law_rows", "_law_stranger"] sp) : GF P w K mg base "_law_spoil" k ["_law_pool_here", "_law_at", "_law_names_here", "_law_rows", "_law_stranger"] sp := by
  obtain ⟨f, fd, h1, h2⟩ := D.ex
  exact ⟨f, fd, h1, h2.kp, FunD.bindsN h2 fun _ _ _ _ _ _ us hl => match us, hl with | [_, _, _, _, _], _ => rfl, h h2⟩

section
variable {P : Program} {w : World} {K : PySem.W.Frag} {mg : Str → Option Value} {base : Heap}
theorem ok_spoil12 (D : D_law_spoil K mg) (Z : Zs mg) (G_law_take : GF P w K mg base "_law_take" 1 ["_law_pool_here", "_law_at", "_law_many"] (toSp K sd_take)) (G_law_bad_name : GF P w K mg base "_law_bad_name" 2 ["_law_pool_here", "_law_at"] (toSp K sd_bad)) : GF P w K mg base "_law_spoil" 3 ["_law_pool_here", "_law_at", "_law_names_here", "_law_rows", "_law_stranger"] (toSp K sd_spoil12) := by
  refine gf_law_spoil D fun F => fun_ok F sc_law_spoil (fun ds μ P X h => ?_) fun cdv A outer s H E hr => ⟨_, (pss_cons (ps_set (i := 2) sc_law_spoil.nd rfl (by first | exact Or.inl rfl | exact Or.inr rfl) (pe_callTy (call_listK (K := K) rfl) (by rfl) Z.z_list (by decide +kernel) (pa_cons (pv 2) pa_nil)))
    (pss_cons (ps_set (i := 3) sc_law_spoil.nd rfl (by first | exact Or.inl rfl | exact Or.inr rfl) (pe_callTy (call_listK (K := K) rfl) (by rfl) Z.z_list (by decide +kernel) (pa_cons (pv 3) pa_nil)))
    (pss_cons (ps_set (i := 5) sc_law_spoil.nd rfl (by first | exact Or.inl rfl | exact Or.inr rfl) (pe_op op_addU (pe_op op_addU (pe_lst (pa_cons pe_str (pa_cons (pv 4) (pa_cons (pe_gf G_law_bad_name (hr.mono (by decide)) tk_def (pa_cons (pv 0) (pa_cons (pv 1) pa_nil))) pa_nil)))) (pv 2)) (pe_lc (own := [("_law_row", 6)]) rfl sc_law_spoil.nd (pi_listK (K := K) rfl (pv 3)) (blkOk_by (own := [("_law_row", 6)]) (N := N_law_spoil) (sc := defScope s_law_spoil) (by decide +kernel)) (fun _ _ _ _ _ => (pg_name (i := 6) sc_law_spoil.nd rfl (by first | exact Or.inl rfl | exact Or.inr rfl))) (fun _ _ _ _ _ => pts_nil) (fun _ _ _ _ _ => (pe_ix (ix_seqK (K := K) rfl) (pv 6) pe_int (fun _ _ => rfl))))))
    (pss_cons (ps_set (i := 7) sc_law_spoil.nd rfl (by first | exact Or.inl rfl | exact Or.inr rfl) (pe_ix (ix_seqK (K := K) rfl) (pv 5) (pe_gf G_law_take (hr.mono (by decide)) tk_def (pa_cons (pv 0) (pa_cons (pv 1) (pa_cons (pe_callB (call_lenK (K := K) rfl) (by rfl) Z.z_len (by decide +kernel) (pa_cons (pv 5) pa_nil)) pa_nil)))) (fun _ _ => rfl)))
    (pss_cons (ps_set (i := 8) sc_law_spoil.nd rfl (by first | exact Or.inl rfl | exact Or.inr rfl) (pe_gf G_law_take (hr.mono (by decide)) tk_def (pa_cons (pv 0) (pa_cons (pv 1) (pa_cons pe_int pa_nil)))))
    (pss_cons (ps_if (PW.pt (pw_or (pt_cmpR (op_eqK (K := K) rfl hr.units) (pv 8) pe_int (nomark _)) (pw_or1 (pt_cmpR (op_eqK (K := K) rfl hr.units) (pv 3) (pe_lst pa_nil) (nomark _)))))
      (pss_cons (ps_asg (pv 7) (pg_sub (pv 2) (pe_gf G_law_take (hr.mono (by decide)) tk_def (pa_cons (pv 0) (pa_cons (pv 1) (pa_cons (pe_callB (call_lenK (K := K) rfl) (by rfl) Z.z_len (by decide +kernel) (pa_cons (pv 2) pa_nil)) pa_nil)))) set_list))
        (pss_one (ps_ret (pe_tup (pa_cons (pv 2) (pa_cons (pv 3) pa_nil))))))
      pss_nil)
    (pss_cons (ps_set (i := 9) sc_law_spoil.nd rfl (by first | exact Or.inl rfl | exact Or.inr rfl) (pe_gf G_law_take (hr.mono (by decide)) tk_def (pa_cons (pv 0) (pa_cons (pv 1) (pa_cons (pe_callB (call_lenK (K := K) rfl) (by rfl) Z.z_len (by decide +kernel) (pa_cons (pv 3) pa_nil)) pa_nil)))))
    (pss_cons (ps_set (i := 10) sc_law_spoil.nd rfl (by first | exact Or.inl rfl | exact Or.inr rfl) (pe_bmK (K := K) rfl PySem.F.plainAttrs_str PySem.F.slot_str_split PySem.F.type_str_split mt_splitU (pe_ix (ix_seqK (K := K) rfl) (pe_ix (ix_seqK (K := K) rfl) (pv 3) (pv 9) (fun _ _ => rfl)) pe_int (fun _ _ => rfl)) (pa_cons pe_str pa_nil)))
    (pss_cons (ps_if (pt_cmpR (op_eqK (K := K) rfl hr.units) (pv 8) pe_int (nomark _))
      (pss_one (ps_asg (pe_tup (pa_cons (pv 7) (pa_cons (pe_ix (ix_seqK (K := K) rfl) (pe_ix (ix_seqK (K := K) rfl) (pv 3) (pv 9) (fun _ _ => rfl)) pe_int (fun _ _ => rfl)) pa_nil))) (pg_sub (pv 3) (pv 9) set_list)))
      pss_nil)
    (pss_cons (ps_if (pt_cmpR (op_eqK (K := K) rfl hr.units) (pv 8) pe_int (nomark _))
      (pss_one (ps_expr (pe_bmK (K := K) rfl PySem.F.plainAttrs_list PySem.F.slot_list_append PySem.F.type_list_append mt_append (pv 10) (pa_cons (pv 7) pa_nil))))
      pss_nil)
    (pss_cons (ps_if (pt_cmpR (op_eqK (K := K) rfl hr.units) (pv 8) pe_int (nomark _))
      (pss_one (ps_expr (pe_bmK (K := K) rfl PySem.F.plainAttrs_list PySem.F.slot_list_pop PySem.F.type_list_pop mt_popAt (pv 10) (pa_cons (pe_gf G_law_take (hr.mono (by decide)) tk_def (pa_cons (pv 0) (pa_cons (pv 1) (pa_cons (pe_callB (call_lenK (K := K) rfl) (by rfl) Z.z_len (by decide +kernel) (pa_cons (pv 10) pa_nil)) pa_nil)))) pa_nil))))
      pss_nil)
    (pss_cons (ps_if (PW.pt (pw_and (pt_cmpR op_gt (pv 8) pe_int (nomark _)) (pw_and1 (pt_cmpR (op_neK (K := K) rfl hr.units) (pv 10) (pe_lst pa_nil) (nomark _)))))
      (pss_cons (ps_set (i := 11) sc_law_spoil.nd rfl (by first | exact Or.inl rfl | exact Or.inr rfl) (pe_gf G_law_take (hr.mono (by decide)) tk_def (pa_cons (pv 0) (pa_cons (pv 1) (pa_cons (pe_callB (call_lenK (K := K) rfl) (by rfl) Z.z_len (by decide +kernel) (pa_cons (pv 10) pa_nil)) pa_nil)))))
        (pss_one (ps_asg (pe_ifExp (pt_cmpR (op_eqK (K := K) rfl hr.units) (pv 8) pe_int (nomark _)) (pe_bm0K (K := K) rfl PySem.F.plainAttrs_str PySem.F.slot_str_upper PySem.F.type_str_upper mt_upperU (pe_ix (ix_seqK (K := K) rfl) (pv 10) (pv 11) (fun _ _ => rfl))) (pv 7)) (pg_sub (pv 10) (pv 11) set_list))))
      pss_nil)
    (pss_cons (ps_if (pt_cmpR (op_eqK (K := K) rfl hr.units) (pv 8) pe_int (nomark _))
      (pss_cons (ps_set (i := 12) sc_law_spoil.nd rfl (by first | exact Or.inl rfl | exact Or.inr rfl) (pe_gf G_law_take (hr.mono (by decide)) tk_def (pa_cons (pv 0) (pa_cons (pv 1) (pa_cons (pe_callB (call_lenK (K := K) rfl) (by rfl) Z.z_len (by decide +kernel) (pa_cons (pv 3) pa_nil)) pa_nil)))))
        (pss_one (ps_asg (pe_ix (ix_seqK (K := K) rfl) (pv 3) (pv 12) (fun _ _ => rfl)) (pg_sub (pv 3) (pv 9) set_list))))
      pss_nil)
    (pss_cons (ps_if (PW.pt (pw_and (pt_cmpR (op_neK (K := K) rfl hr.units) (pv 8) pe_int (nomark _)) (pw_and1 (pt_cmpR (op_neK (K := K) rfl hr.units) (pv 8) pe_int (nomark _)))))
      (pss_one (ps_asg (pe_tup (pa_cons (pe_ix (ix_seqK (K := K) rfl) (pe_ix (ix_seqK (K := K) rfl) (pv 3) (pv 9) (fun _ _ => rfl)) pe_int (fun _ _ => rfl)) (pa_cons (pe_bmK (K := K) rfl PySem.F.plainAttrs_str PySem.F.slot_str_join PySem.F.type_str_join (mt_joinK (K := K) rfl) pe_str (pa_cons (pv 10) pa_nil)) pa_nil))) (pg_sub (pv 3) (pv 9) set_list)))
      pss_nil)
    (pss_one (ps_ret (pe_tup (pa_cons (pv 2) (pa_cons (pv 3) pa_nil))))))))))))))))))), fun ds μ Pd X h => ?_⟩
  · obtain ⟨zs, a, n, names, rows, z, b, rfl, _⟩ := h; rfl
  · obtain ⟨zs, a, n, names, rows, z, b, rfl, hz, ha, hnn, hnl, hrl, hb, hna, hra, hzg, hp⟩ := h
    have sl : ∀ n, n ≤ 100000 → n ≤ sizeLine := fun n h => Nat.le_of_lt (szl n h)
    let Γs : Nm.D → Nm.D → Option Nm.D → Option Nm.D → Option Nm.D → Option Nm.D → Option Nm.D → Option Nm.D → Option Nm.D → Option Nm.D → Gm := fun g2 g3 g5 g6 g7 g8 g9 g10 g11 g12 => [some (.lst (intsD zs)), some (.ref a), some g2, some g3, some (.str z), g5, g6, g7, g8, g9, g10, g11, g12]
    show Ws K (wOf E) _ (Γs (.lst (strsD names)) (.lst (pairsD rows)) none none none none none none none none) μ _
    refine ws_seq (ws_set (we_cb cbS_listM ?_))
    walk_at "w"
    refine dListM_l fun nl hnl0 => ?_
    have anl : a ≠ nl := mu_ne ha hnl0
    show Ws K (wOf E) _ (Γs (.ref nl) (.lst (pairsD rows)) none none none none none none none none) _ _
    refine ws_seq (ws_set (we_cb cbS_listM ?_))
    walk_at "w"
    refine dListM_l fun rl hrl0 => ?_
    have nrl : nl ≠ rl := mu_ne um_same hrl0
    have arl : a ≠ rl := mu_ne (by rw [um_ne anl]; exact ha) hrl0
    show Ws K (wOf E) _ (Γs (.ref nl) (.ref rl) none none none none none none none none) _ _
    let M : Int → List Str → List (Str × Str) → Mu := fun n' ns rs => um (um (um μ a (.lst [.int n'])) nl (.lst (strsD ns))) rl (.lst (pairsD rs))
    have e0 : um (um μ nl (.lst (strsD names))) rl (.lst (pairsD rows)) = M n names rows := by
      show _ = um (um (um μ a (.lst [.int n])) nl _) rl _
      rw [um_self ha]
    rw [e0]
    have Ma : ∀ n' ns rs, M n' ns rs a = some (.lst [.int n']) := fun n' ns rs => by
      show um (um (um μ a _) nl _) rl _ a = _
      rw [um_ne arl, um_ne anl]; exact um_same
    have Mn : ∀ n' ns rs, M n' ns rs nl = some (.lst (strsD ns)) := fun n' ns rs => by
      show um (um (um μ a _) nl _) rl _ nl = _
      rw [um_ne nrl]; exact um_same
    have Mr : ∀ n' ns rs, M n' ns rs rl = some (.lst (pairsD rs)) := fun n' ns rs => um_same
    have Sa : ∀ n' n2 ns rs, um (M n' ns rs) a (.lst [.int n2]) = M n2 ns rs := fun n' n2 ns rs => by
      show um (um (um (um μ a _) nl _) rl _) a _ = um (um (um μ a _) nl _) rl _
      rw [um_comm (Ne.symm arl), um_swap (Ne.symm anl)]
    have Sn : ∀ n' ns ns2 rs, um (M n' ns rs) nl (.lst (strsD ns2)) = M n' ns2 rs := fun n' ns ns2 rs => by
      show um (um (um (um μ a _) nl _) rl _) nl _ = um (um (um μ a _) nl _) rl _
      rw [um_swap (Ne.symm nrl)]
    have Sr : ∀ n' ns rs rs2, um (M n' ns rs) rl (.lst (pairsD rs2)) = M n' ns rs2 := fun n' ns rs rs2 => um_um
    have hnl1 : ∀ n', um μ a (.lst [.int n']) nl = none := fun n' => by rw [um_ne (Ne.symm anl)]; exact hnl0
    have hrl1 : ∀ n' ns, um (um μ a (.lst [.int n'])) nl (.lst (strsD ns)) rl = none := fun n' ns => by
      rw [um_ne (Ne.symm nrl)] at hrl0
      rw [um_ne (Ne.symm nrl), um_ne (Ne.symm arl)]; exact hrl0
    -- the end: both lists as they are
    have fin : ∀ (N B C : Gm → Mu → Prop) (n' : Int) (ns : List Str) (rs : List (Str × Str)) g5 g6 g7 g8 g9 g10 g11 g12, ns.length = names.length → rs.length = rows.length → (∀ x ∈ ns, GoodN 100 x) → (∀ r ∈ rs, GoodN 100 r.1 ∧ GoodN (b + 300) r.2) →
        Ws K (wOf E) (tRet (tTup (tCons (tVar 2) (tCons (tVar 3) tNil)))) (Γs (.ref nl) (.ref rl) g5 g6 g7 g8 g9 g10 g11 g12) (M n' ns rs) { nx := N, rt := (retE Pd X).rt, ex := (retE Pd X).ex, bk := B, ct := C } := by
      intro N B C n' ns rs g5 g6 g7 g8 g9 g10 g11 g12 h1 h2 h3 h4
      refine ws_freeze (i := 3) (Mr n' ns rs) rfl ?_
      rw [show dm (M n' ns rs) rl = um (um μ a (.lst [.int n'])) nl (.lst (strsD ns)) from dm_um (hrl1 n' ns)]
      refine ws_freeze (i := 2) um_same rfl ?_
      rw [dm_um (hnl1 n')]
      show Ws K (wOf E) _ (Γs (.lst (strsD ns)) (.lst (pairsD rs)) g5 g6 g7 g8 g9 g10 g11 g12) _ _
      walk_at "w"
      exact ⟨sl 2 (by decide), ret_of (hp ns rs n' h1 h2 h3 h4)⟩
    -- the words to choose from
    refine ws_seq (ws_set ?_)
    refine we_op opS_add ?_
    refine we_op opS_add ?_
    refine we_lst ?_
    walk_at "w"
    refine ⟨zs, a, n, rfl, hz, Ma n names rows, fun w0 n1 hw1 hw2 hw3 => ?_⟩
    rw [Sa]
    walk_at "w"
    refine ⟨sl 3 (by decide), ?_⟩
    walk_at "w"
    refine ⟨_, Mn n1 names rows, sl _ (by rw [List.length_map]; show 3 + _ ≤ _; omega), ?_⟩
    refine we_lcFL (own_name (by simp)) rows pairD (fun _ => true) (fun r => .str r.1) (szl _ (by omega)) ?_ ?_ ?_
    · walk_at "w"
      exact ⟨Mr n1 names rows, rfl⟩
    · rintro i r hr
      walk_at "w"
      refine dIx_t (atI_nat (j := 0) (show ([.str r.1, .str r.2] : List Nm.D)[0]? = some (.str r.1) from rfl)) ?_
      exact ⟨rfl, rfl, rfl⟩
    rw [show rows.filter (fun _ => true) = rows from List.filter_eq_self.mpr fun _ _ => rfl]
    obtain ⟨kn, hkn⟩ : ∃ kn : List Str, kn = ((["none", z, w0] : List Str) ++ names) ++ rows.map (·.1) := ⟨_, rfl⟩
    have ekn : ([Nm.D.str "none", .str z, .str w0] ++ strsD names) ++ rows.map (fun r => Nm.D.str r.1) = strsD kn := by
      rw [hkn]
      show _ = List.map _ _
      rw [List.map_append, List.map_append, List.map_map]
      rfl
    have hkl : kn.length ≤ 300 ∧ 0 < kn.length := by
      rw [hkn, List.length_append, List.length_append, List.length_map]
      show 3 + _ + _ ≤ _ ∧ 0 < 3 + _ + _
      omega
    have hkg : ∀ x ∈ kn, GoodN 100 x := by
      rw [hkn]
      intro x hx
      rcases List.mem_append.mp hx with hx | hx
      · rcases List.mem_append.mp hx with hx | hx
        · rcases List.mem_cons.mp hx with rfl | hx
          · exact ⟨by decide +kernel, by decide +kernel⟩
          · rcases List.mem_cons.mp hx with rfl | hx
            · exact hzg
            · rw [List.mem_singleton.mp hx]; exact ⟨hw2, hw3⟩
        · exact hna x hx
      · obtain ⟨r, hr, rfl⟩ := List.mem_map.mp hx
        exact (hra r hr).1
    refine dAdd_ll (sl _ (by rw [List.length_append, List.length_map, List.length_map]; show 3 + _ + _ ≤ _; omega)) ?_
    rw [ekn]
    show Ws K (wOf E) _ (Γs (.ref nl) (.ref rl) (some (.lst (strsD kn))) none none none none none none none) _ _
    walk_at "w"
    refine ⟨zs, a, n1, kn.length, by rw [List.length_map]; rfl, hz, by omega, Ma n1 names rows, fun wi n2 h0 h1 => ?_⟩
    rw [Sa]
    obtain ⟨wi, rfl⟩ := Int.eq_ofNat_of_zero_le h0
    obtain ⟨word, hword⟩ := some_of_lt (show wi < kn.length by omega)
    obtain ⟨hwl, hwa⟩ := hkg word (List.mem_of_getElem? hword)
    refine dIx_l (atI_nat (strsD_get hword)) ?_
    walk_at "w"
    refine ⟨zs, a, n2, 7, rfl, hz, by decide, Ma n2 names rows, fun way n3 h2 h3 => ?_⟩
    rw [Sa]
    obtain ⟨way, rfl⟩ := Int.eq_ofNat_of_zero_le h2
    have hnpos : 0 < names.length := List.length_pos_iff.mpr hnn
    have rpl : Pl 8 (.lst (pairsD rows)) := pl_pairs fun r hr => ⟨(hra r hr).1.2.ok, (hra r hr).2.2.ok⟩
    let Γk : Option Nm.D → Option Nm.D → Option Nm.D → Option Nm.D → Gm := fun g9 g10 g11 g12 => Γs (.ref nl) (.ref rl) (some (.lst (strsD kn))) none (some (.str word)) (some (.int (way : Int))) g9 g10 g11 g12
    -- a name is changed
    have chg : ∀ (n3 : Int) (N : Gm → Mu → Prop), (∀ (n' : Int) (ns : List Str), ns.length = names.length → (∀ x ∈ ns, GoodN 100 x) → N (Γk none none none none) (M n' ns rows)) → Wg K (gSub (tVar 2) (tCallSD (toSp K sd_take) [] (L2.WE (wOf E)) (tCons (tVar 0) (tCons (tVar 1) (tCons (tCB (rLenC K) (tCons (tVar 2) tNil)) tNil)))) rSetL) (.str word) (Γk none none none none) (M n3 names rows) N := by
      intro n3 N h
      refine wg_set (W := wOf E) ?_
      walk_at "w"
      refine dLen_r (Mn n3 names rows) ?_
      walk_at "w"
      refine ⟨zs, a, n3, names.length, by rw [List.length_map]; rfl, hz, by omega, Ma n3 names rows, fun i n4 h4 h5 => ?_⟩
      rw [Sa]
      obtain ⟨i, rfl⟩ := Int.eq_ofNat_of_zero_le h4
      refine ⟨nl, strsD names, (i : Int), i, rfl, rfl, Mn n4 names rows, ?_, ?_⟩
      · unfold ixN
        rw [if_pos (by omega), List.length_map, if_pos (by omega)]
        rfl
      rw [show (strsD names).set i (.str word) = strsD (names.set i word) from (List.map_set ..).symm, Sn]
      exact h n4 _ (by rw [List.length_set]) fun x hx => by
        rcases List.mem_or_eq_of_mem_set hx with hx | rfl
        · exact hna x hx
        · exact ⟨hwl, hwa⟩
    have rowsW : ∀ r ∈ rows, GoodN 100 r.1 ∧ GoodN (b + 300) r.2 := fun r hr => ⟨(hra r hr).1, Nat.le_trans (hra r hr).2.1 (by omega), (hra r hr).2.2⟩
    walk_at "w"
    refine iteD (fun hw => ?_) (fun hw => ?_)
    · refine iteT ?_
      walk_at "w"
      exact chg n3 _ fun n' ns h1 h2 => fin _ _ _ n' ns rows _ _ _ _ _ _ _ _ h1 rfl h2 rowsW
    walk_at "w"
    refine we_lst ?_
    walk_at "w"
    refine ⟨sl 0 (by decide), dEq_frl (Mr n3 names rows) rpl (fun d hd => (by cases hd)) ?_⟩
    rw [deqL_nil_r]
    walk_at "w"
    refine iteD (fun hw2 => ?_) (fun hw2 => ?_)
    · walk_at "w"
      exact chg n3 _ fun n' ns h1 h2 => fin _ _ _ n' ns rows _ _ _ _ _ _ _ _ h1 rfl h2 rowsW
    have hrpos : 0 < rows.length := List.length_pos_iff.mpr hw2
    walk_at "w"
    refine ⟨zs, a, n3, rows.length, by rw [List.length_map]; rfl, hz, by omega, Ma n3 names rows, fun sp n4 h4 h5 => ?_⟩
    rw [Sa]
    obtain ⟨sp, rfl⟩ := Int.eq_ofNat_of_zero_le h4
    have hsp : sp < rows.length := by omega
    obtain ⟨row, hrow⟩ := some_of_lt hsp
    obtain ⟨rg1, rg2⟩ := hra row (List.mem_of_getElem? hrow)
    have hrD : (pairsD rows)[sp]? = some (pairD row) := by rw [List.getElem?_map, hrow]; rfl
    have hd0 : ([.str row.1, .str row.2] : List Nm.D)[0]? = some (.str row.1) := rfl
    have hd1 : ([.str row.1, .str row.2] : List Nm.D)[1]? = some (.str row.2) := rfl
    refine ws_seq (ws_set (we_bm mS_splitM ?_))
    walk_at "w"
    refine dIx_r (Mr n4 names rows) (atI_nat hrD) ?_
    walk_at "w"
    refine dIx_t (atI_nat hd1) ?_
    walk_at "w"
    refine ⟨by decide +kernel, sl _ (by have := rg2.1; omega), fun wl hwl0 => ?_⟩
    have awl : a ≠ wl := mu_ne (Ma n4 names rows) hwl0
    have nwl : nl ≠ wl := mu_ne (Mn n4 names rows) hwl0
    have rwl : rl ≠ wl := mu_ne (Mr n4 names rows) hwl0
    have hwl1 : ∀ n' rs, M n' names rs wl = none := fun n' rs => by
      show um (um (um μ a _) nl _) rl _ wl = none
      have z : um (um (um μ a _) nl _) rl _ wl = none := hwl0
      rw [um_ne (Ne.symm rwl), um_ne (Ne.symm nwl), um_ne (Ne.symm awl)] at z ⊢
      exact z
    let M2 : Int → List (Str × Str) → List Str → Mu := fun n' rs ws => um (M n' names rs) wl (.lst (strsD ws))
    have M2a : ∀ n' rs ws, M2 n' rs ws a = some (.lst [.int n']) := fun n' rs ws => by
      show um _ wl _ a = _
      rw [um_ne awl]; exact Ma n' names rs
    have M2r : ∀ n' rs ws, M2 n' rs ws rl = some (.lst (pairsD rs)) := fun n' rs ws => by
      show um _ wl _ rl = _
      rw [um_ne rwl]; exact Mr n' names rs
    have M2w : ∀ n' rs ws, M2 n' rs ws wl = some (.lst (strsD ws)) := fun n' rs ws => um_same
    have S2a : ∀ n' n2 rs ws, um (M2 n' rs ws) a (.lst [.int n2]) = M2 n2 rs ws := fun n' n2 rs ws => by
      show um (um _ wl _) a _ = um _ wl _
      rw [um_comm (Ne.symm awl), Sa]
    have S2r : ∀ n' rs rs2 ws, um (M2 n' rs ws) rl (.lst (pairsD rs2)) = M2 n' rs2 ws := fun n' rs rs2 ws => by
      show um (um _ wl _) rl _ = um _ wl _
      rw [um_comm (Ne.symm rwl), Sr]
    have S2w : ∀ n' rs ws ws2, um (M2 n' rs ws) wl (.lst (strsD ws2)) = M2 n' rs ws2 := fun n' rs ws ws2 => um_um
    let Γw : Option Nm.D → Option Nm.D → Gm := fun g11 g12 => Γk (some (.int (sp : Int))) (some (.ref wl)) g11 g12
    let GR : List (Str × Str) → Prop := fun rs => rs.length = rows.length ∧ ∀ r ∈ rs, GoodN 100 r.1 ∧ GoodN (b + 300) r.2
    let Iv : Nat → Gm → Mu → Prop := fun m Γ' μ' => ∃ g11 g12 n' rs ws, Γ' = Γw g11 g12 ∧ μ' = M2 n' rs ws ∧ GR rs ∧ tot ws ≤ b + 1 + m ∧ (∀ w ∈ ws, Asc w) ∧ (m ≤ 101 → ws ≠ [])
    have GRset : ∀ {rs r}, GR rs → GoodN 100 r.1 → GoodN (b + 300) r.2 → GR (rs.set sp r) := fun {rs r} h h1 h2 => ⟨by rw [List.length_set]; exact h.1, fun q hq => by
      rcases List.mem_or_eq_of_mem_set hq with hq | rfl
      · exact h.2 q hq
      · exact ⟨h1, h2⟩⟩
    have wset : ∀ {n' rs ws} (r : Str × Str) (g11 g12) (N : Gm → Mu → Prop) (te : TE), GR rs → N (Γw g11 g12) (M2 n' (rs.set sp r) ws) → Wg K (gSub (tVar 3) (tVar 9) rSetL) (pairD r) (Γw g11 g12) (M2 n' rs ws) N := by
      intro n' rs ws r g11 g12 N te hg h
      refine wg_set (W := wOf E) ?_
      walk_at "w"
      refine ⟨rl, pairsD rs, (sp : Int), sp, rfl, rfl, M2r n' rs ws, ?_, ?_⟩
      · unfold ixN
        rw [if_pos (by omega), List.length_map, hg.1, if_pos (by omega)]
        rfl
      rw [show (pairsD rs).set sp (pairD r) = pairsD (rs.set sp r) from (List.map_set ..).symm, S2r]
      exact h
    have rsD : ∀ {rs : List (Str × Str)}, GR rs → ∃ r, rs[sp]? = some r ∧ (pairsD rs)[sp]? = some (pairD r) ∧ GoodN 100 r.1 ∧ GoodN (b + 300) r.2 := fun {rs} h => by
      obtain ⟨r, hr⟩ := some_of_lt (show sp < rs.length by rw [h.1]; exact hsp)
      exact ⟨r, hr, by rw [List.getElem?_map, hr]; rfl, h.2 r (List.mem_of_getElem? hr)⟩
    have st : Iv 0 (Γw none none) (M2 n4 rows (Txt.split row.2 " ")) := ⟨_, _, n4, rows, _, rfl, rfl, ⟨rfl, rowsW⟩, by rw [tot_split]; have := rg2.1; omega, fun w hw => asc_split rg2.2 hw, fun _ => split_ne⟩
    show Ws K (wOf E) _ (Γw none none) (M2 n4 rows (Txt.split row.2 " ")) _
    generalize hgm : M2 n4 rows (Txt.split row.2 " ") = M3 at st ⊢
    clear hgm
    generalize hgg : Γw none none = G3 at st ⊢
    clear hgg
    -- the step's name
    refine ws_seq (Ws.nxi (P := Iv 0) ?_ ?_)
    · obtain ⟨g11, g12, n', rs, ws, rfl, rfl, hg, ht, hws, hne0⟩ := st
      walk_at "w"
      refine iteD (fun hk => ?_) (fun _ => ?_)
      · obtain ⟨r, hr, hrd, hg1, hg2⟩ := rsD hg
        walk_at "w"
        refine dIx_r (M2r n' rs ws) (atI_nat hrd) ?_
        walk_at "w"
        refine dIx_t (atI_nat (show ([.str r.1, .str r.2] : List Nm.D)[1]? = some (.str r.2) from rfl)) ?_
        walk_at "w"
        refine ⟨sl 2 (by decide), ?_⟩
        exact wset (word, r.2) g11 g12 _ (tVar 0) hg ⟨g11, g12, n', _, ws, rfl, rfl, GRset hg ⟨hwl, hwa⟩ hg2, ht, hws, hne0⟩
      · walk_at "w"
        exact ⟨g11, g12, n', rs, ws, rfl, rfl, hg, ht, hws, hne0⟩
    clear st
    clear M3 G3
    intro G3 M3 st
    show Ws K (wOf E) _ G3 M3 _
    -- a word more
    refine ws_seq (Ws.nxi (P := Iv 101) ?_ ?_)
    · obtain ⟨g11, g12, n', rs, ws, rfl, rfl, hg, ht, hws, hne0⟩ := st
      walk_at "w"
      refine iteD (fun hk => ?_) (fun _ => ?_)
      · walk_at "w"
        have hwn : ws.length ≤ tot ws := Nat.le_add_left _ _
        refine dApp (M2w n' rs ws) (szl _ (by rw [List.length_map]; omega)) ?_
        rw [strsD_app, S2w]
        refine ⟨g11, g12, n', rs, _, rfl, rfl, hg, ?_, fun w hw => ?_, fun _ => by simp⟩
        · rw [tot_app, tot_cons]
          show tot ws + (word.length + 1 + 0) ≤ _
          omega
        · rcases List.mem_append.mp hw with hw | hw
          · exact hws w hw
          · rw [List.mem_singleton.mp hw]; exact hwa
      · walk_at "w"
        exact ⟨g11, g12, n', rs, ws, rfl, rfl, hg, by omega, hws, fun _ => hne0 (by omega)⟩
    clear st
    clear M3 G3
    intro G3 M3 st
    show Ws K (wOf E) _ G3 M3 _
    -- a word less
    refine ws_seq (Ws.nxi (P := Iv 102) ?_ ?_)
    · obtain ⟨g11, g12, n', rs, ws, rfl, rfl, hg, ht, hws, hne0⟩ := st
      walk_at "w"
      refine iteD (fun hk => ?_) (fun _ => ?_)
      · have hwp : 0 < ws.length := List.length_pos_iff.mpr (hne0 (by omega))
        have hwn : ws.length ≤ tot ws := Nat.le_add_left _ _
        refine ws_drop (we_bm mS_popAt ?_)
        walk_at "w"
        refine ⟨zs, a, n', ws.length, by rw [List.length_map]; rfl, hz, by omega, M2a n' rs ws, fun i n5 h6 h7 => ?_⟩
        rw [S2a]
        obtain ⟨i, rfl⟩ := Int.eq_ofNat_of_zero_le h6
        obtain ⟨wd, hwd⟩ := some_of_lt (show i < ws.length by omega)
        walk_at "w"
        refine ⟨strsD ws, i, .str wd, M2w n5 rs ws, by omega, by omega, seq_ix (by rw [List.length_map]; omega), strsD_get hwd, ?_⟩
        rw [show (strsD ws).eraseIdx i = strsD (ws.eraseIdx i) from erase_map ws i, S2w]
        refine ⟨g11, g12, n5, rs, _, rfl, rfl, hg, ?_, fun w hw => hws w (List.mem_of_mem_eraseIdx hw), fun h => absurd h (by decide)⟩
        have := tot_erase ws i
        omega
      · walk_at "w"
        exact ⟨g11, g12, n', rs, ws, rfl, rfl, hg, by omega, hws, fun h => absurd h (by decide)⟩
    clear st
    clear M3 G3
    intro G3 M3 st
    show Ws K (wOf E) _ G3 M3 _
    -- a word changed
    refine ws_seq (Ws.nxi (P := Iv 202) ?_ ?_)
    · obtain ⟨g11, g12, n', rs, ws, rfl, rfl, hg, ht, hws, hne0⟩ := st
      walk_at "w"
      refine iteD (fun hk => ?_) (fun _ => ?_)
      · walk_at "w"
        refine we_lst ?_
        walk_at "w"
        refine ⟨sl 0 (by decide), dEq_trl (M2w n' rs ws) (pl_strs fun x hx => (hws x hx).ok) (fun d hd => (by cases hd)) ?_⟩
        rw [deqL_nil_r]
        walk_at "w"
        refine iteN (fun hne => ?_) (fun hne => ?_)
        · have hwp : 0 < ws.length := List.length_pos_iff.mpr hne
          walk_at "w"
          refine ⟨zs, a, n', ws.length, by rw [List.length_map]; rfl, hz, by omega, M2a n' rs ws, fun i n5 h6 h7 => ?_⟩
          rw [S2a]
          obtain ⟨i, rfl⟩ := Int.eq_ofNat_of_zero_le h6
          obtain ⟨wd, hwd⟩ := some_of_lt (show i < ws.length by omega)
          have hwda := hws wd (List.mem_of_getElem? hwd)
          have hwdl := tot_mem (b := 0) (List.mem_of_getElem? hwd)
          have setw : ∀ (w2 : Str) (N : Gm → Mu → Prop), N (Γw (some (.int (i : Int))) g12) (M2 n5 rs (ws.set i w2)) → Wg K (gSub (tVar 10) (tVar 11) rSetL) (.str w2) (Γw (some (.int (i : Int))) g12) (M2 n5 rs ws) N := by
            intro w2 N h
            refine wg_set (W := wOf E) ?_
            walk_at "w"
            refine ⟨wl, strsD ws, (i : Int), i, rfl, rfl, M2w n5 rs ws, ?_, ?_⟩
            · unfold ixN
              rw [if_pos (by omega), List.length_map, if_pos (by omega)]
              rfl
            rw [show (strsD ws).set i (.str w2) = strsD (ws.set i w2) from (List.map_set ..).symm, S2w]
            exact h
          walk_at "w"
          refine iteD (fun h6 => ?_) (fun h6 => ?_)
          · refine we_bm0 mS_upper ?_
            walk_at "w"
            refine dIx_r (M2w n5 rs ws) (atI_nat (strsD_get hwd)) ?_
            walk_at "w"
            refine ⟨by omega, ?_⟩
            refine setw _ _ ⟨_, g12, n5, rs, _, rfl, rfl, hg, ?_, fun w hw => ?_, fun h => absurd h (by decide)⟩
            · have := tot_set' (b := 0) (w := Txt.upper wd) (x := wd) (by rw [upper_len hwda]; omega) hwd
              omega
            · rcases List.mem_or_eq_of_mem_set hw with hw | rfl
              · exact hws w hw
              · exact asc_upper hwda
          · walk_at "w"
            refine setw _ _ ⟨_, g12, n5, rs, _, rfl, rfl, hg, ?_, fun w hw => ?_, fun h => absurd h (by decide)⟩
            · have := tot_set' (b := 100) (w := word) (x := wd) (by omega) hwd
              omega
            · rcases List.mem_or_eq_of_mem_set hw with hw | rfl
              · exact hws w hw
              · exact hwa
        · walk_at "w"
          exact ⟨g11, g12, n', rs, ws, rfl, rfl, hg, by omega, hws, fun h => absurd h (by decide)⟩
      · walk_at "w"
        exact ⟨g11, g12, n', rs, ws, rfl, rfl, hg, by omega, hws, fun h => absurd h (by decide)⟩
    clear st
    clear M3 G3
    intro G3 M3 st
    show Ws K (wOf E) _ G3 M3 _
    -- another step
    refine ws_seq (Ws.nxi (P := Iv 202) ?_ ?_)
    · obtain ⟨g11, g12, n', rs, ws, rfl, rfl, hg, ht, hws, hne0⟩ := st
      walk_at "w"
      refine iteD (fun hk => ?_) (fun _ => ?_)
      · walk_at "w"
        refine dLen_r (M2r n' rs ws) ?_
        walk_at "w"
        refine ⟨zs, a, n', rs.length, by rw [List.length_map]; rfl, hz, by have := hg.1; omega, M2a n' rs ws, fun i n5 h6 h7 => ?_⟩
        rw [S2a]
        obtain ⟨i, rfl⟩ := Int.eq_ofNat_of_zero_le h6
        obtain ⟨r, hr⟩ := some_of_lt (show i < rs.length by omega)
        obtain ⟨hg1, hg2⟩ := hg.2 r (List.mem_of_getElem? hr)
        walk_at "w"
        refine dIx_r (M2r n5 rs ws) (atI_nat (show (pairsD rs)[i]? = some (pairD r) by rw [List.getElem?_map, hr]; rfl)) ?_
        exact wset r g11 (some (.int (i : Int))) _ (tVar 0) hg ⟨g11, _, n5, _, ws, rfl, rfl, GRset hg hg1 hg2, ht, hws, fun h => absurd h (by decide)⟩
      · walk_at "w"
        exact ⟨g11, g12, n', rs, ws, rfl, rfl, hg, by omega, hws, fun h => absurd h (by decide)⟩
    clear st
    clear M3 G3
    intro G3 M3 st
    show Ws K (wOf E) _ G3 M3 _
    -- the text anew
    refine ws_seq (Ws.nxi (P := Iv 202) ?_ ?_)
    · obtain ⟨g11, g12, n', rs, ws, rfl, rfl, hg, ht, hws, hne0⟩ := st
      have skip : Iv 202 (Γw g11 g12) (M2 n' rs ws) := ⟨g11, g12, n', rs, ws, rfl, rfl, hg, ht, hws, fun h => absurd h (by decide)⟩
      walk_at "w"
      refine iteN (fun hk => ?_) (fun _ => ?_)
      · walk_at "w"
        refine iteN (fun hk => ?_) (fun _ => ?_)
        · obtain ⟨r, hr, hrd, hg1, hg2⟩ := rsD hg
          walk_at "w"
          refine dIx_r (M2r n' rs ws) (atI_nat hrd) ?_
          walk_at "w"
          refine dIx_t (atI_nat (show ([.str r.1, .str r.2] : List Nm.D)[0]? = some (.str r.1) from rfl)) ?_
          walk_at "w"
          refine ⟨strsD ws, M2w n' rs ws, ws, rfl, ?_, ?_⟩
          · have : tot ws = (ws.map (·.length)).sum + ws.length := rfl
            rw [sp_len]
            omega
          walk_at "w"
          refine ⟨sl 2 (by decide), ?_⟩
          refine wset (r.1, Txt.join " " ws) g11 g12 _ (tVar 0) hg ⟨g11, g12, n', _, ws, rfl, rfl, GRset hg hg1 ⟨?_, asc_join (by decide +kernel) hws⟩, ht, hws, fun h => absurd h (by decide)⟩
          have := join_tot ws
          show (Txt.join " " ws).length ≤ _
          omega
        · walk_at "w"
          exact skip
      · walk_at "w"
        exact skip
    clear st
    clear M3 G3
    rintro G3 M3 ⟨g11, g12, n', rs, ws, rfl, rfl, hg, ht, hws, _⟩
    show Ws K (wOf E) _ (Γw g11 g12) _ _
    exact ws_sub (SubG.refl _) (SubM.um (hwl1 n' rs)) (fin _ _ _ n' names rs _ _ _ _ _ _ _ _ rfl hg.1 hna hg.2)
end
end Nm
namespace Nm
open PySem PySem.Spec PyProof.Rows L2
local macro_rules | `(tactic| walk_at "s") => `(tactic| first
  | (guard_target =~ Ws _ _ _ _ _ _; first | with_reducible refine ws_seq ?_ | with_reducible refine ws_set ?_ | with_reducible refine ws_if ?_ | with_reducible refine ws_ret ?_ | with_reducible refine ws_asg ?_ | with_reducible refine ws_drop ?_ | with_reducible refine ws_next ?_ | with_reducible refine ws_for ?_ | with_reducible refine ws_brk ?_ | with_reducible refine ws_cont ?_ | with_reducible refine ws_retN ?_ | with_reducible refine ws_fld ?_)
  | (guard_target =~ Wa _ _ _ _ _ _ _; first | with_reducible refine wa_cons ?_ | with_reducible refine wa_nil ?_)
  | (guard_target =~ We _ _ _ _ _ _ _; first | (guard_target =~ We _ _ (tOp _ _ _) _ _ _ _; first | with_reducible refine we_op opS_add ?_ | with_reducible refine we_op opS_sub ?_ | with_reducible refine we_op opS_mul ?_ | with_reducible refine we_op opS_mod ?_ | with_reducible refine we_op opS_div ?_ | with_reducible refine we_op opS_ix ?_ | with_reducible refine we_op opS_eq ?_ | with_reducible refine we_op opS_ne ?_ | with_reducible refine we_op opS_lt ?_ | with_reducible refine we_op opS_le ?_ | with_reducible refine we_op opS_gt ?_ | with_reducible refine we_op opS_ge ?_ | with_reducible refine we_op opS_in ?_ | with_reducible refine we_op opS_notIn ?_ | with_reducible refine we_op opS_and ?_ | with_reducible refine we_op opS_or ?_ | with_reducible refine we_op opS_shr ?_ | with_reducible refine we_op opS_shl ?_ | with_reducible refine we_op opS_pow ?_ | with_reducible refine we_op opS_isN ?_ | with_reducible refine we_op opS_notN ?_ | with_reducible refine we_op opS_xor ?_) | (guard_target =~ We _ _ (tCB _ _) _ _ _ _; first | with_reducible refine we_cb cbS_len ?_ | with_reducible refine we_cb cbS_int ?_ | with_reducible refine we_cb cbS_bool ?_ | with_reducible refine we_cb cbS_max ?_ | with_reducible refine we_cb cbS_min ?_ | with_reducible refine we_cb cbS_isi ?_) | with_reducible refine we_var rfl ?_ | with_reducible refine we_int ?_ | with_reducible refine we_str ?_ | with_reducible refine we_bl ?_ | with_reducible refine we_non ?_ | with_reducible refine we_ty ?_ | with_reducible refine we_ref ?_ | with_reducible refine we_sl ?_ | with_reducible refine we_orT ?_ | with_reducible refine we_andT ?_ | with_reducible refine we_notT ?_ | with_reducible refine we_if ?_ | with_reducible refine we_tup ⟨?_, ?_⟩ | with_reducible refine we_tup ?_ | with_reducible refine we_fld ?_ | with_reducible refine we_call (dds := []) (fun _ => HasL.nil) ?_ | with_reducible refine we_call0 (dds := []) (fun _ => HasL.nil) ?_ | with_reducible refine we_meth (dds := []) (fun _ => HasL.nil) ?_ | with_reducible refine we_bm mS_append ?_ | with_reducible refine we_bm mS_extend ?_ | with_reducible refine we_bm0 mS_clear ?_ | with_reducible refine we_bm mS_indexS ?_ | with_reducible refine we_bm mS_join ?_ | with_reducible refine we_bm mS_split ?_ | with_reducible refine we_bm mS_part ?_ | with_reducible refine we_un unS_neg ?_ | with_reducible refine we_un unS_inv ?_)
  | (guard_target =~ Wt _ _ _ _ _ _ _; first | with_reducible refine wt_test ?_ | with_reducible refine wt_tr ?_ | with_reducible refine wt_not ?_ | with_reducible refine wt_and ?_ | with_reducible refine wt_or ?_ | with_reducible refine wt_val ?_ | with_reducible refine wt_yes ?_)
  | (guard_target =~ Wg _ _ _ _ _ _; first | with_reducible refine wg_name ?_)
  | (guard_target =~ Wgs _ _ _ _ _ _; first | with_reducible refine wgs_cons ?_ | with_reducible refine wgs_nil ?_)
  | (guard_target =~ Wi _ _ _ _ _ _ _; first | with_reducible refine wi_str ?_ | with_reducible refine wi_list ?_ | with_reducible refine wi_rngN ?_ | with_reducible refine wi_rng2 ?_)
  | (guard_target =~ Wo _ _ _ _ _ _ _; first | with_reducible refine wo_none ?_ | with_reducible refine wo_some ?_)
  | with_reducible refine dAdd_ii ?_
  | with_reducible refine dI_ii ?_
  | with_reducible refine dU_i ?_
  | with_reducible refine dEq_fi ?_
  | with_reducible refine dEq_ti ?_
  | with_reducible refine dEq_fs ?_
  | with_reducible refine dEq_ts ?_
  | with_reducible refine dEq_fb ?_
  | with_reducible refine dEq_tb ?_
  | with_reducible refine dEq_sn ?_
  | with_reducible refine dEq_ns ?_
  | with_reducible refine dEq_nn ?_
  | with_reducible refine dIn_fs ?_
  | with_reducible refine dIn_ts ?_
  | with_reducible refine dIn_fi ?_
  | with_reducible refine dIn_ti ?_
  | with_reducible refine dIn_tc ?_
  | with_reducible refine dIn_fc ?_
  | with_reducible refine dSl_l ?_
  | with_reducible refine dSl_q ?_
  | with_reducible refine dLen_l ?_
  | with_reducible refine dLen_q ?_
  | (guard_target =~ dLen [.ref _] _ _; with_reducible refine dLen_r (by first | exact um_same | assumption) ?_)
  | with_reducible refine ty_l ?_
  | with_reducible refine ty_s ?_
  | (guard_target =~ tyD _ "list" (.ref _) ∧ _; with_reducible refine ty_r (by first | exact um_same | assumption) ?_)
  | with_reducible refine dLen_t ?_
  | with_reducible refine dInt_i ?_
  | with_reducible refine dInt_b ?_
  | with_reducible refine dBool_i ?_
  | with_reducible refine dMax_ii ?_
  | with_reducible refine dMin_ii ?_
  | with_reducible refine dList_l ?_
  | with_reducible refine dIsN_s ?_
  | with_reducible refine dIsN_n ?_
  | with_reducible refine dIsN_i ?_
  | with_reducible refine bl_ex ?_
  | with_reducible refine tru_b ?_
  | with_reducible refine tru_i ?_
  | with_reducible refine tru_l ?_
  | with_reducible refine iteT ?_
  | with_reducible refine iteF ?_
  | with_reducible refine iteNT ?_
  | with_reducible refine iteNF ?_
  | with_reducible refine ⟨_, rfl, ?_⟩)
local macro_rules | `(tactic| walk_at "w") => `(tactic| repeat walk_at "s")

/-! ### _law_refused, _law_shows, _law_parts_right -/
theorem isi_ll : ∀ {K : PySem.W.Frag}, PySem.W.kitOne K (.type "list") (.type "list") = some true := fun {K} => by first | rfl | decide +kernel
theorem nF_kinds {z : Str × Str} {kn : List Str} {n : Str} (h : nameFault kn n = some z) : (z.1 = "BadName" ∨ z.1 = "Taken") ∧ z.2 = n := by
  unfold nameFault at h
  split at h
  · obtain rfl := Option.some.inj h; exact ⟨.inl rfl, rfl⟩
  · split at h
    · obtain rfl := Option.some.inj h; exact ⟨.inr rfl, rfl⟩
    · cases h
abbrev Kd4 (c : Str) : Prop := c = "BadName" ∨ c = "Taken" ∨ c = "BadStep" ∨ c = "Unknown"
theorem rF_kinds {z : Str × Str} {kn : List Str} {n t : Str} (h : rowFault kn n t = some z) : Kd4 z.1 ∧ (z.2 = n ∨ z.2 = t ∨ ∃ ps, partsOf t = some ps ∧ z.2 ∈ ps) := by
  unfold rowFault at h
  split at h
  · rename_i z' hz
    obtain rfl := Option.some.inj h
    obtain ⟨k, e⟩ := nF_kinds hz
    exact ⟨k.elim .inl (fun k => .inr (.inl k)), .inl e⟩
  · split at h
    · obtain rfl := Option.some.inj h
      exact ⟨.inr (.inr (.inl rfl)), .inr (.inl rfl)⟩
    · rename_i ps hps
      obtain ⟨p, hp, rfl⟩ := Option.map_eq_some_iff.mp h
      exact ⟨.inr (.inr (.inr rfl)), .inr (.inr ⟨ps, hps, List.mem_of_find?_eq_some hp⟩)⟩
theorem nFl_kinds {z : Str × Str} : ∀ {names kn : List Str}, nFault kn names = some z → Kd4 z.1 ∧ z.2 ∈ names
  | [], kn, h => by cases h
  | n :: r, kn, h => by
    have h : (match nameFault kn n with | some z => some z | none => nFault (kn ++ [n]) r) = some z := h
    split at h
    · rename_i z' hz
      obtain rfl := Option.some.inj h
      obtain ⟨k, e⟩ := nF_kinds hz
      exact ⟨k.elim .inl (fun k => .inr (.inl k)), by rw [e]; exact List.mem_cons_self⟩
    · obtain ⟨k, e⟩ := nFl_kinds h
      exact ⟨k, List.mem_cons_of_mem _ e⟩
theorem sFl_kinds {z : Str × Str} : ∀ {rows : List (Str × Str)} {kn : List Str}, sFault kn rows = some z → Kd4 z.1 ∧ ∃ r ∈ rows, z.2 = r.1 ∨ z.2 = r.2 ∨ ∃ ps, partsOf r.2 = some ps ∧ z.2 ∈ ps
  | [], kn, h => by cases h
  | s :: r, kn, h => by
    have h : (match rowFault kn s.1 s.2 with | some z => some z | none => sFault (kn ++ [s.1]) r) = some z := h
    split at h
    · rename_i z' hz
      obtain rfl := Option.some.inj h
      obtain ⟨k, e⟩ := rF_kinds hz
      exact ⟨k, s, List.mem_cons_self, e⟩
    · obtain ⟨k, q, hq, e⟩ := sFl_kinds h
      exact ⟨k, q, List.mem_cons_of_mem _ hq, e⟩
theorem pickF_mem {x : Str} : ∀ {ws : List Str} {fs : FRow}, x ∈ pickF ws fs → x ∈ ws
  | [], fs, h => by cases fs <;> cases h
  | w :: ws, [], h => by cases h
  | w :: ws, none :: fs, h => by
    rcases List.mem_cons.mp (show x ∈ w :: pickF ws fs from h) with rfl | h
    · exact List.mem_cons_self
    · exact List.mem_cons_of_mem _ (pickF_mem h)
  | w :: ws, some _ :: fs, h => List.mem_cons_of_mem _ (pickF_mem (show x ∈ pickF ws fs from h))
theorem parts_mem {t : Str} {ps : List Str} (h : partsOf t = some ps) : ∀ x ∈ ps, x ∈ Txt.split t " " := by
  unfold partsOf at h
  split at h
  · split at h
    · obtain rfl := Option.some.inj h
      exact fun x hx => pickF_mem hx
    · cases h
  · cases h
/-- what is due may be compared -/
theorem scr_kinds {z : Str × Str} {names : List Str} {rows : List (Str × Str)} (h : scrFault names rows = some z) : Kd4 z.1 ∧ (z.2 ∈ names ∨ ∃ r ∈ rows, z.2 = r.1 ∨ z.2 = r.2 ∨ ∃ ps, partsOf r.2 = some ps ∧ z.2 ∈ ps) := by
  unfold scrFault at h
  split at h
  · rename_i z' hz
    obtain rfl := Option.some.inj h
    obtain ⟨k, e⟩ := nFl_kinds hz
    exact ⟨k, .inl e⟩
  · obtain ⟨k, e⟩ := sFl_kinds h
    exact ⟨k, .inr e⟩
theorem scr_so {z : Str × Str} {names : List Str} {rows : List (Str × Str)} (h : scrFault names rows = some z) (hn : ∀ x ∈ names, PyData.strOk x = true) (hr : ∀ r ∈ rows, PyData.strOk r.1 = true ∧ PyData.strOk r.2 = true) : PyData.strOk z.2 = true := by
  rcases (scr_kinds h).2 with h | ⟨r, hr1, h | h | ⟨ps, hps, h⟩⟩
  · exact hn _ h
  · rw [h]; exact (hr r hr1).1
  · rw [h]; exact (hr r hr1).2
  · exact strOk_split (hr r hr1).2 (parts_mem hps _ h)
theorem gainsOf_ok {steps : List (Str × Str)} (h : ∀ s ∈ steps, ∀ q ∈ pairsS s, okP q) : ∀ q ∈ gainsOf steps, okP q := by
  have fok : ∀ (xs acc : List (Str × Str)), (∀ q ∈ acc, okP q) → (∀ q ∈ xs, okP q) → ∀ q ∈ xs.foldl addNew acc, okP q := by
    intro xs
    induction xs with
    | nil => exact fun acc h _ => h
    | cons x r ih => exact fun acc h hx => ih (addNew acc x) (addNew_ok h (hx x List.mem_cons_self)) fun q hq => hx q (List.mem_cons_of_mem _ hq)
  refine fok _ _ (fun q hq => by cases hq) fun q hq => ?_
  obtain ⟨s, hs, hq⟩ := List.mem_flatMap.mp hq
  exact h s hs q hq
def sd_refused : SpD := fun ds μ P _ => ∃ (names : List Str) (rows : List (Str × Str)), ds = [.lst (strsD names), .lst (pairsD rows)] ∧ names.length ≤ 1000 ∧ rows.length ≤ 1000 ∧ (∀ n ∈ names, n.length ≤ 90000 ∧ PyData.strOk n = true) ∧ (∀ r ∈ rows, (r.1.length ≤ 90000 ∧ PyData.strOk r.1 = true) ∧ r.2.length ≤ 90000 ∧ PyData.strOk r.2 = true) ∧ P (dueD (scrFault names rows)) μ
def sd_shows12 (K : PySem.W.Frag) : SpD := fun ds μ P _ => ∃ (d : D) (names : List Str) (rows : List (Str × Str)), ds = [d, .lst (strsD names), .lst (pairsD rows), .lst (pairsD (gainsOf rows))] ∧ ScD K μ d names rows ∧ names.length ≤ 1000 ∧ rows.length ≤ 1000 ∧
  (∀ s ∈ rows, (fitK (kindS s.2) (partS s.2) ∧ ∀ q ∈ pairsS s, okP q) ∧ PyData.strOk s.1 = true ∧ s.2.length ≤ 90000 ∧ PyData.strOk s.2 = true ∧ ∃ ps, partsOf s.2 = some ps ∧ ps.length ≤ 1000) ∧ P (.bl true) μ
def sd_pright : SpD := fun ds μ P _ => ∃ (rows : List (Str × Str)), ds = [.lst (pairsD rows)] ∧ rows.length ≤ 1000 ∧ (∀ r ∈ rows, r.2.length ≤ 90000 ∧ PyData.strOk r.2 = true) ∧ P (.bl true) μ
abbrev N_law_refused : List Str := ["_law_names_here", "_law_rows", "_law_made", "e"]
theorem sc_law_refused : FnScope N_law_refused ["_law_names_here", "_law_rows"] (defScope s_law_refused) := ⟨rfl, rfl, rfl, by decide +kernel, rfl, by decide +kernel, by decide +kernel⟩
abbrev D_law_refused (K : PySem.W.Frag) (mg : Str → Option Value) : Prop := DF K mg "_law_refused" s_law_refused
theorem gf_law_refused {P : Program} {w : World} {K : PySem.W.Frag} {mg : Str → Option Value} {base : Heap} {k : Nat} {sp : Sp} (D : D_law_refused K mg) (h : ∀ {f : Addr} {fd : FuncData}, FunD K "_law_refused" "_law_refused" (defArgs s_law_refused) (defBody s_law_refused) (defScope s_law_refused) [] [] f fd → FnOk P w K mg base (L2.CX P w) k f fd ["_law_names_here", "_law_rows"] sp) : GF P w K mg base "_law_refused" k ["_law_names_here", "_law_rows"] sp := by
  obtain ⟨f, fd, h1, h2⟩ := D.ex
  exact ⟨f, fd, h1, h2.kp, FunD.bindsN h2 fun _ _ _ _ _ _ us hl => match us, hl with | [_, _], _ => rfl, h h2⟩

abbrev N_law_shows : List Str := ["_law_made", "_law_names_here", "_law_rows", "_law_pairs_here", "_law_row"]
theorem sc_law_shows : FnScope N_law_shows ["_law_made", "_law_names_here", "_law_rows", "_law_pairs_here"] (defScope s_law_shows) := ⟨rfl, rfl, rfl, by decide +kernel, rfl, by decide +kernel, by decide +kernel⟩
abbrev D_law_shows (K : PySem.W.Frag) (mg : Str → Option Value) : Prop := DF K mg "_law_shows" s_law_shows
theorem gf_law_shows {P : Program} {w : World} {K : PySem.W.Frag} {mg : Str → Option Value} {base : Heap} {k : Nat} {sp : Sp} (D : D_law_shows K mg) (h : ∀ {f : Addr} {fd : FuncData}, FunD K "_law_shows" "_law_shows" (defArgs s_law_shows) (defBody s_law_shows) (defScope s_law_shows) [] [] f fd → FnOk P w K mg base (L2.CX P w) k f fd ["_law_made", "_law_names_here", "_law_rows", "_law_pairs_here"] sp) : GF P w K mg base "_law_shows" k ["_law_made", "_law_names_here", "_law_rows", "_law_pairs_here"] sp := by
  obtain ⟨f, fd, h1, h2⟩ := D.ex
  exact ⟨f, fd, h1, h2.kp, FunD.bindsN h2 fun _ _ _ _ _ _ us hl => match us, hl with | [_, _, _, _], _ => rfl, h h2⟩

section
variable {P : Program} {w : World} {K : PySem.W.Frag} {mg : Str → Option Value} {base : Heap}
theorem ok_refused (D : D_law_refused K mg) (Z : Zs mg) (XK : XF K ["BadName", "Taken", "Unknown", "BadStep"]) (X_MergeError : GX P w K mg base "MergeError" (cA K "MergeError")) (X_BadName : GX P w K mg base "BadName" (cA K "BadName")) (X_Taken : GX P w K mg base "Taken" (cA K "Taken")) (X_BadStep : GX P w K mg base "BadStep" (cA K "BadStep")) (X_Unknown : GX P w K mg base "Unknown" (cA K "Unknown"))
    (C_Script : GC P w K mg base "Script" (cS K) 5 ["self", "names", "steps"] (toSp K (sd_Script_init K))) (P_Script_names : GP P w K mg base (cS K) "names" 1 (toSp K (sd_Script_names K))) (P_Script_steps : GP P w K mg base (cS K) "steps" 1 (toSp K (sd_Script_steps K)))
    (G_law_texts : GF P w K mg base "_law_texts" 1 ["_law_actual", "_law_expected"] (toSp K sd_texts)) : GF P w K mg base "_law_refused" 7 ["_law_names_here", "_law_rows"] (toSp K sd_refused) := by
  refine gf_law_refused D fun F => fun_ok F sc_law_refused (fun ds μ P X h => ?_) fun cdv A outer s H E hr => ⟨_, (pss_cons (ps_tryK (K := K) rfl rfl rfl sc_law_refused.nd tk_def (fun W pn xe tk po => (pss_one (ps_set (i := 2) sc_law_refused.nd rfl (by first | exact Or.inl rfl | exact Or.inr rfl) (pe_gc C_Script (hr.mono (by decide)) tk (pa_cons (pv 0) (pa_cons (pv 1) pa_nil))))))
      (HdsG.as (i := 3) rfl rfl (cls_names X_BadName) (fun a oe cls d pn hz hf => (pss_one (ps_ret (pe_ifExp (pt_trK (K := K) rfl (pe_callB (call_isXK (K := K) rfl hz hf) (by rfl) Z.z_isinstance (by decide +kernel) (pa_cons (pv 3) (pa_cons (pe_glob (v := .ref (cA K "MergeError")) rfl X_MergeError.gl rfl) pa_nil)))) (pe_tup (pa_cons pe_str (pa_cons (pe_xsK (K := K) rfl hz hf (pv 3)) pa_nil))) (pe_tup (pa_cons pe_str (pa_cons pe_str pa_nil)))))))
      (HdsG.as (i := 3) rfl rfl (cls_names X_Taken) (fun a oe cls d pn hz hf => (pss_one (ps_ret (pe_ifExp (pt_trK (K := K) rfl (pe_callB (call_isXK (K := K) rfl hz hf) (by rfl) Z.z_isinstance (by decide +kernel) (pa_cons (pv 3) (pa_cons (pe_glob (v := .ref (cA K "MergeError")) rfl X_MergeError.gl rfl) pa_nil)))) (pe_tup (pa_cons pe_str (pa_cons (pe_xsK (K := K) rfl hz hf (pv 3)) pa_nil))) (pe_tup (pa_cons pe_str (pa_cons pe_str pa_nil)))))))
      (HdsG.as (i := 3) rfl rfl (cls_names X_BadStep) (fun a oe cls d pn hz hf => (pss_one (ps_ret (pe_ifExp (pt_trK (K := K) rfl (pe_callB (call_isXK (K := K) rfl hz hf) (by rfl) Z.z_isinstance (by decide +kernel) (pa_cons (pv 3) (pa_cons (pe_glob (v := .ref (cA K "MergeError")) rfl X_MergeError.gl rfl) pa_nil)))) (pe_tup (pa_cons pe_str (pa_cons (pe_xsK (K := K) rfl hz hf (pv 3)) pa_nil))) (pe_tup (pa_cons pe_str (pa_cons pe_str pa_nil)))))))
      (HdsG.as (i := 3) rfl rfl (cls_names X_Unknown) (fun a oe cls d pn hz hf => (pss_one (ps_ret (pe_ifExp (pt_trK (K := K) rfl (pe_callB (call_isXK (K := K) rfl hz hf) (by rfl) Z.z_isinstance (by decide +kernel) (pa_cons (pv 3) (pa_cons (pe_glob (v := .ref (cA K "MergeError")) rfl X_MergeError.gl rfl) pa_nil)))) (pe_tup (pa_cons pe_str (pa_cons (pe_xsK (K := K) rfl hz hf (pv 3)) pa_nil))) (pe_tup (pa_cons pe_str (pa_cons pe_str pa_nil)))))))
      HdsG.nil)))))
    (pss_cons (ps_if (PW.pt (pw_or (pt_not (pt_trK (K := K) rfl (pe_callB (call_isiK (K := K) rfl) (by rfl) Z.z_isinstance (by decide +kernel) (pa_cons (pe_gp P_Script_steps (hr.mono (by decide)) (pv 2)) (pa_cons (pe_bltn (v := .ty "list") (u := .type "list") rfl Z.z_list (by decide +kernel) rfl) pa_nil))))) (pw_or (pt_cmpR (op_neK (K := K) rfl hr.units) (pe_gp P_Script_steps (hr.mono (by decide)) (pv 2)) (pv 1) (nomark _)) (pw_or1 (pt_not (pt_trK (K := K) rfl (pe_gf G_law_texts (hr.mono (by decide)) tk_def (pa_cons (pe_gp P_Script_names (hr.mono (by decide)) (pv 2)) (pa_cons (pv 0) pa_nil)))))))))
      (pss_one (ps_ret (pe_tup (pa_cons pe_str (pa_cons pe_str pa_nil)))))
      pss_nil)
    (pss_one (ps_ret (pe_tup (pa_cons pe_str (pa_cons pe_str pa_nil))))))), fun ds μ Pd X h => ?_⟩
  · obtain ⟨names, rows, rfl, _⟩ := h; rfl
  · obtain ⟨names, rows, rfl, hnl, hrl, hn, hr, hp⟩ := h
    have sl : ∀ n, n ≤ 100000 → n ≤ sizeLine := fun n h => Nat.le_of_lt (szl n h)
    show Ws K (wOf E) _ [some (.lst (strsD names)), some (.lst (pairsD rows)), none, none] μ _
    refine ws_seq (ws_try fun W' => ?_)
    refine ws_set (we_make (dds := []) (fun _ => HasL.nil) ?_)
    walk_at "w"
    intro x hx0
    refine ⟨x, _, _, names, rows, rfl, um_same, rfl, rfl, hnl, hrl, fun n h => (hn n h).1, fun r h => ⟨(hr r h).1.1, (hr r h).2.1⟩, fun c s hf => ?_, fun hf => ?_⟩
    · rw [dm_um hx0]
      rw [hf] at hp
      rcases (scr_kinds hf).1 with h | h | h | h
      · obtain rfl : c = "BadName" := h
        refine ⟨true, XK.eb "BadName" "BadName" true, fun _ a d => ?_, fun h => (by cases h)⟩
        show Ws K _ _ [some (.lst (strsD names)), some (.lst (pairsD rows)), none, some (.exc a d (.str s))] μ _
        walk_at "w"
        refine we_cb (cbS_isX X_BadName.ec) ?_
        walk_at "w"
        refine ⟨rfl, rfl, _, _, rfl, XK.mb "BadName", ?_⟩
        walk_at "w"
        refine we_xs X_BadName.xf X_BadName.sub ?_
        walk_at "w"
        exact ⟨sl 2 (by decide), ret_of hp⟩
      · obtain rfl : c = "Taken" := h
        refine ⟨false, XK.eb "Taken" "BadName" false, fun h => (by cases h), fun _ => ⟨true, XK.eb "Taken" "Taken" true, fun _ a d => ?_, fun h => (by cases h)⟩⟩
        show Ws K _ _ [some (.lst (strsD names)), some (.lst (pairsD rows)), none, some (.exc a d (.str s))] μ _
        walk_at "w"
        refine we_cb (cbS_isX X_Taken.ec) ?_
        walk_at "w"
        refine ⟨rfl, rfl, _, _, rfl, XK.mb "Taken", ?_⟩
        walk_at "w"
        refine we_xs X_Taken.xf X_Taken.sub ?_
        walk_at "w"
        exact ⟨sl 2 (by decide), ret_of hp⟩
      · obtain rfl : c = "BadStep" := h
        refine ⟨false, XK.eb "BadStep" "BadName" false, fun h => (by cases h), fun _ => ⟨false, XK.eb "BadStep" "Taken" false, fun h => (by cases h), fun _ => ⟨true, XK.eb "BadStep" "BadStep" true, fun _ a d => ?_, fun h => (by cases h)⟩⟩⟩
        show Ws K _ _ [some (.lst (strsD names)), some (.lst (pairsD rows)), none, some (.exc a d (.str s))] μ _
        walk_at "w"
        refine we_cb (cbS_isX X_BadStep.ec) ?_
        walk_at "w"
        refine ⟨rfl, rfl, _, _, rfl, XK.mb "BadStep", ?_⟩
        walk_at "w"
        refine we_xs X_BadStep.xf X_BadStep.sub ?_
        walk_at "w"
        exact ⟨sl 2 (by decide), ret_of hp⟩
      · obtain rfl : c = "Unknown" := h
        refine ⟨false, XK.eb "Unknown" "BadName" false, fun h => (by cases h), fun _ => ⟨false, XK.eb "Unknown" "Taken" false, fun h => (by cases h), fun _ => ⟨false, XK.eb "Unknown" "BadStep" false, fun h => (by cases h), fun _ => ⟨true, XK.eb "Unknown" "Unknown" true, fun _ a d => ?_, fun h => (by cases h)⟩⟩⟩⟩
        show Ws K _ _ [some (.lst (strsD names)), some (.lst (pairsD rows)), none, some (.exc a d (.str s))] μ _
        walk_at "w"
        refine we_cb (cbS_isX X_Unknown.ec) ?_
        walk_at "w"
        refine ⟨rfl, rfl, _, _, rfl, XK.mb "Unknown", ?_⟩
        walk_at "w"
        refine we_xs X_Unknown.xf X_Unknown.sub ?_
        walk_at "w"
        exact ⟨sl 2 (by decide), ret_of hp⟩
    · rw [hf] at hp
      refine ⟨rfl, ?_⟩
      rw [um_um]
      have sc : ScD K (um μ x (.ins (cS K) nsS (sfs names rows))) (.ref x) names rows := ⟨_, _, _, um_same, rfl, rfl, rfl⟩
      have sub : SubM μ (um μ x (.ins (cS K) nsS (sfs names rows))) := SubM.um hx0
      show Ws K (wOf E) _ [some (.lst (strsD names)), some (.lst (pairsD rows)), some (.ref x), none] (um μ x (.ins (cS K) nsS (sfs names rows))) _
      generalize um μ x (.ins (cS K) nsS (sfs names rows)) = M at sc sub
      have isS : ob M (.ref x) fun _ k _ _ => k = cS K := sc.use fun _ => rfl
      have rpl : Pl 8 (.lst (pairsD rows)) := pl_pairs fun r h => ⟨(hr r h).1.2, (hr r h).2.2⟩
      walk_at "w"
      refine we_frz (we_prop ?_)
      walk_at "w"
      refine ⟨isS, .ref x, names, rows, rfl, sc, hrl, fun p hp0 => ⟨p, _, rfl, um_same, ?_⟩⟩
      rw [dm_um hp0]
      show Wa K _ _ _ _ (fun ds μ2 => dIsi K (.lst (pairsD rows) :: ds) μ2 _) _
      walk_at "w"
      refine isi_of (t := .type "list") (cv := .type "list") (b := true) (fun R r => r) rfl isi_ll ?_
      walk_at "w"
      refine we_frz (we_prop ?_)
      walk_at "w"
      refine ⟨isS, .ref x, names, rows, rfl, sc, hrl, fun p hp0 => ⟨p, _, rfl, um_same, ?_⟩⟩
      rw [dm_um hp0]
      show We K _ _ _ _ (fun d2 μ2 => dEq true (.lst (pairsD rows)) d2 μ2 _) _
      walk_at "w"
      refine dEq_tl rpl rpl ?_
      rw [deqL_same rpl]
      walk_at "w"
      refine we_frz (we_prop ?_)
      walk_at "w"
      refine ⟨isS, .ref x, names, rows, rfl, sc, fun p hp0 => ⟨p, _, rfl, um_same, ?_⟩⟩
      rw [dm_um hp0]
      show Wa K _ _ _ _ (fun ds μ2 => sd_texts ((.lst (strsD names) :: ds) ++ []) μ2 _ _) _
      walk_at "w"
      refine ⟨names, names, rfl, by omega, ?_⟩
      rw [decide_eq_true rfl]
      walk_at "w"
      refine ⟨sl 2 (by decide), ?_⟩
      exact ⟨μ, sub, hp⟩
theorem ok_shows12 (D : D_law_shows K mg) (Z : Zs mg) (C_Script : GC P w K mg base "Script" (cS K) 5 ["self", "names", "steps"] (toSp K (sd_Script_init K))) (P_Script_names : GP P w K mg base (cS K) "names" 1 (toSp K (sd_Script_names K))) (P_Script_steps : GP P w K mg base (cS K) "steps" 1 (toSp K (sd_Script_steps K))) (M_Script_gains : GM P w K mg base (cS K) "gains" 3 ["self"] (toSp K (sd_Script_gains K)))
    (S_Script_operands : GSM P w K mg base (cS K) "operands" 4 ["text"] (toSp K (sd_step_parts K))) (G_law_operands : GF P w K mg base "_law_operands" 1 ["_law_text"] (toSp K sd_lops))
    (G_law_texts : GF P w K mg base "_law_texts" 1 ["_law_actual", "_law_expected"] (toSp K sd_texts)) : GF P w K mg base "_law_shows" 5 ["_law_made", "_law_names_here", "_law_rows", "_law_pairs_here"] (toSp K (sd_shows12 K)) := by
  refine gf_law_shows D fun F => fun_ok F sc_law_shows (fun ds μ P X h => ?_) fun cdv A outer s H E hr => ⟨_, (pss_cons (ps_if (PW.pt (pw_or (pt_not (pt_trK (K := K) rfl (pe_gf G_law_texts (hr.mono (by decide)) tk_def (pa_cons (pe_gp P_Script_names (hr.mono (by decide)) (pv 0)) (pa_cons (pv 1) pa_nil))))) (pw_or (pt_not (pt_trK (K := K) rfl (pe_callB (call_isiK (K := K) rfl) (by rfl) Z.z_isinstance (by decide +kernel) (pa_cons (pe_gp P_Script_steps (hr.mono (by decide)) (pv 0)) (pa_cons (pe_bltn (v := .ty "list") (u := .type "list") rfl Z.z_list (by decide +kernel) rfl) pa_nil))))) (pw_or1 (pt_cmpR (op_neK (K := K) rfl hr.units) (pe_gp P_Script_steps (hr.mono (by decide)) (pv 0)) (pv 2) (nomark _))))))
      (pss_one (ps_ret pe_bl))
      pss_nil)
    (pss_cons (ps_if (PW.pt (pw_or (pt_not (pt_trK (K := K) rfl (pe_callB (call_isiK (K := K) rfl) (by rfl) Z.z_isinstance (by decide +kernel) (pa_cons (pe_gm0 M_Script_gains (hr.mono (by decide)) tk_def (pv 0)) (pa_cons (pe_bltn (v := .ty "list") (u := .type "list") rfl Z.z_list (by decide +kernel) rfl) pa_nil))))) (pw_or1 (pt_cmpR (op_neK (K := K) rfl hr.units) (pe_gm0 M_Script_gains (hr.mono (by decide)) tk_def (pv 0)) (pv 3) (nomark _)))))
      (pss_one (ps_ret pe_bl))
      pss_nil)
    (pss_cons (ps_for po_def rfl (pi_listK (K := K) rfl (pv 2)) (pg_name (i := 4) sc_law_shows.nd rfl (by first | exact Or.inl rfl | exact Or.inr rfl))
      (pss_one (ps_if (pt_not (pt_trK (K := K) rfl (pe_gf G_law_texts (hr.mono (by decide)) tk_def (pa_cons (pe_gsm S_Script_operands (hr.mono (by decide)) tk_def (pe_glob (v := .ref (cA K "Script")) rfl C_Script.gl rfl) (pa_cons (pe_ix (ix_seqK (K := K) rfl) (pv 4) pe_int (fun _ _ => rfl)) pa_nil)) (pa_cons (pe_gf G_law_operands (hr.mono (by decide)) tk_def (pa_cons (pe_ix (ix_seqK (K := K) rfl) (pv 4) pe_int (fun _ _ => rfl)) pa_nil)) pa_nil)))))
          (pss_one (ps_ret pe_bl))
          pss_nil)))
    (pss_one (ps_ret pe_bl))))), fun ds μ Pd X h => ?_⟩
  · obtain ⟨d, names, rows, rfl, _⟩ := h; rfl
  · obtain ⟨d, names, rows, rfl, sc, hnl, hrl, hr, hp⟩ := h
    have sl : ∀ n, n ≤ 100000 → n ≤ sizeLine := fun n h => Nat.le_of_lt (szl n h)
    show Ws K (wOf E) _ [some d, some (.lst (strsD names)), some (.lst (pairsD rows)), some (.lst (pairsD (gainsOf rows))), none] μ _
    have isS : ob μ d fun _ k _ _ => k = cS K := sc.use fun _ => rfl
    have isG : ob μ d fun _ k ns _ => k = cS K ∧ ("gains" : Str) ∉ ns := sc.use fun _ => ⟨rfl, by decide +kernel⟩
    have rpl : Pl 8 (.lst (pairsD rows)) := pl_pairs fun r h => ⟨(hr r h).2.1, (hr r h).2.2.2.1⟩
    have gpl : Pl 8 (.lst (pairsD (gainsOf rows))) := pl_pairs (gainsOf_ok fun s hs => (hr s hs).1.2)
    walk_at "w"
    refine we_frz (we_prop ?_)
    walk_at "w"
    refine ⟨isS, d, names, rows, rfl, sc, fun p hp0 => ⟨p, _, rfl, um_same, ?_⟩⟩
    rw [dm_um hp0]
    show Wa K _ _ _ _ (fun ds μ2 => sd_texts ((.lst (strsD names) :: ds) ++ []) μ2 _ _) _
    walk_at "w"
    refine ⟨names, names, rfl, by omega, ?_⟩
    rw [decide_eq_true rfl]
    walk_at "w"
    refine we_frz (we_prop ?_)
    walk_at "w"
    refine ⟨isS, d, names, rows, rfl, sc, hrl, fun p hp0 => ⟨p, _, rfl, um_same, ?_⟩⟩
    rw [dm_um hp0]
    show Wa K _ _ _ _ (fun ds μ2 => dIsi K (.lst (pairsD rows) :: ds) μ2 _) _
    walk_at "w"
    refine isi_of (t := .type "list") (cv := .type "list") (b := true) (fun R r => r) rfl isi_ll ?_
    walk_at "w"
    refine we_frz (we_prop ?_)
    walk_at "w"
    refine ⟨isS, d, names, rows, rfl, sc, hrl, fun p hp0 => ⟨p, _, rfl, um_same, ?_⟩⟩
    rw [dm_um hp0]
    show We K _ _ _ _ (fun d2 μ2 => dEq true (.lst (pairsD rows)) d2 μ2 _) _
    walk_at "w"
    refine dEq_tl rpl rpl ?_
    rw [deqL_same rpl]
    iterate 10 walk_at "s"
    refine we_frz (we_meth (dds := []) (fun _ => HasL.nil) ?_)
    walk_at "w"
    refine ⟨isG, ?_⟩
    walk_at "w"
    refine ⟨d, names, rows, rfl, sc, hrl, fun s hs => (hr s hs).1, fun p hp0 => ⟨p, _, rfl, um_same, ?_⟩⟩
    rw [dm_um hp0]
    show Wa K _ _ _ _ (fun ds μ2 => dIsi K (.lst (pairsD (gainsOf rows)) :: ds) μ2 _) _
    walk_at "w"
    refine isi_of (t := .type "list") (cv := .type "list") (b := true) (fun R r => r) rfl isi_ll ?_
    iterate 4 walk_at "s"
    refine we_frz (we_meth (dds := []) (fun _ => HasL.nil) ?_)
    walk_at "w"
    refine ⟨isG, ?_⟩
    walk_at "w"
    refine ⟨d, names, rows, rfl, sc, hrl, fun s hs => (hr s hs).1, fun p hp0 => ⟨p, _, rfl, um_same, ?_⟩⟩
    rw [dm_um hp0]
    show We K _ _ _ _ (fun d2 μ2 => dEq true (.lst (pairsD (gainsOf rows))) d2 μ2 _) _
    walk_at "w"
    refine dEq_tl gpl gpl ?_
    rw [deqL_same gpl]
    walk_at "w"
    refine ⟨_, .inl rfl, fun i Γ' μ' => (∃ g4, Γ' = [some d, some (.lst (strsD names)), some (.lst (pairsD rows)), some (.lst (pairsD (gainsOf rows))), g4]) ∧ μ' = μ, ⟨⟨_, rfl⟩, rfl⟩, ?_, ?_⟩
    · rintro i e Γ' μ' hi ⟨⟨g4, rfl⟩, rfl⟩
      obtain ⟨r, hr1, rfl⟩ := pairs_get hi
      obtain ⟨_, hr2, hr3, hr4, ps, hps, hpl⟩ := hr r (List.mem_of_getElem? hr1)
      walk_at "w"
      refine we_sm ?_
      walk_at "w"
      refine ⟨rfl, ?_⟩
      walk_at "w"
      refine dIx_t (atI_nat (j := 1) (show ([.str r.1, .str r.2] : List Nm.D)[1]? = some (.str r.2) from rfl)) ?_
      walk_at "w"
      refine ⟨r.2, rfl, hr3, fun ps' h' => ?_, fun h' => (by rw [hps] at h'; cases h')⟩
      rw [hps] at h'
      obtain rfl := Option.some.inj h'
      walk_at "w"
      refine dIx_t (atI_nat (j := 1) (show ([.str r.1, .str r.2] : List Nm.D)[1]? = some (.str r.2) from rfl)) ?_
      walk_at "w"
      refine ⟨r.2, rfl, hr3, hr4, ?_⟩
      rw [hps]
      show Wa K _ _ _ _ (fun ds μ2 => sd_texts ((.lst (strsD ps) :: .lst (strsD ps) :: ds) ++ []) μ2 _ _) _
      walk_at "w"
      refine ⟨ps, ps, rfl, by omega, ?_⟩
      rw [decide_eq_true rfl]
      walk_at "w"
      exact Fo.of ⟨⟨_, rfl⟩, rfl⟩
    · rintro Γ' μ' ⟨⟨g4, rfl⟩, rfl⟩
      walk_at "w"
      exact ret_of hp
end
end Nm
namespace Nm
open PySem PySem.Spec PyProof.Rows L2
local macro_rules | `(tactic| walk_at "s") => `(tactic| first
  | (guard_target =~ Ws _ _ _ _ _ _; first | with_reducible refine ws_seq ?_ | with_reducible refine ws_set ?_ | with_reducible refine ws_if ?_ | with_reducible refine ws_ret ?_ | with_reducible refine ws_asg ?_ | with_reducible refine ws_drop ?_ | with_reducible refine ws_next ?_ | with_reducible refine ws_for ?_ | with_reducible refine ws_brk ?_ | with_reducible refine ws_cont ?_ | with_reducible refine ws_retN ?_ | with_reducible refine ws_fld ?_)
  | (guard_target =~ Wa _ _ _ _ _ _ _; first | with_reducible refine wa_cons ?_ | with_reducible refine wa_nil ?_)
  | (guard_target =~ We _ _ _ _ _ _ _; first | (guard_target =~ We _ _ (tOp _ _ _) _ _ _ _; first | with_reducible refine we_op opS_add ?_ | with_reducible refine we_op opS_sub ?_ | with_reducible refine we_op opS_mul ?_ | with_reducible refine we_op opS_mod ?_ | with_reducible refine we_op opS_div ?_ | with_reducible refine we_op opS_ix ?_ | with_reducible refine we_op opS_eq ?_ | with_reducible refine we_op opS_ne ?_ | with_reducible refine we_op opS_lt ?_ | with_reducible refine we_op opS_le ?_ | with_reducible refine we_op opS_gt ?_ | with_reducible refine we_op opS_ge ?_ | with_reducible refine we_op opS_in ?_ | with_reducible refine we_op opS_notIn ?_ | with_reducible refine we_op opS_and ?_ | with_reducible refine we_op opS_or ?_ | with_reducible refine we_op opS_shr ?_ | with_reducible refine we_op opS_shl ?_ | with_reducible refine we_op opS_pow ?_ | with_reducible refine we_op opS_isN ?_ | with_reducible refine we_op opS_notN ?_ | with_reducible refine we_op opS_xor ?_) | (guard_target =~ We _ _ (tCB _ _) _ _ _ _; first | with_reducible refine we_cb cbS_len ?_ | with_reducible refine we_cb cbS_int ?_ | with_reducible refine we_cb cbS_bool ?_ | with_reducible refine we_cb cbS_max ?_ | with_reducible refine we_cb cbS_min ?_ | with_reducible refine we_cb cbS_isi ?_) | with_reducible refine we_var rfl ?_ | with_reducible refine we_int ?_ | with_reducible refine we_str ?_ | with_reducible refine we_bl ?_ | with_reducible refine we_non ?_ | with_reducible refine we_ty ?_ | with_reducible refine we_ref ?_ | with_reducible refine we_sl ?_ | with_reducible refine we_orT ?_ | with_reducible refine we_andT ?_ | with_reducible refine we_notT ?_ | with_reducible refine we_if ?_ | with_reducible refine we_tup ⟨?_, ?_⟩ | with_reducible refine we_tup ?_ | with_reducible refine we_fld ?_ | with_reducible refine we_call (dds := []) (fun _ => HasL.nil) ?_ | with_reducible refine we_call0 (dds := []) (fun _ => HasL.nil) ?_ | with_reducible refine we_meth (dds := []) (fun _ => HasL.nil) ?_ | with_reducible refine we_bm mS_append ?_ | with_reducible refine we_bm mS_extend ?_ | with_reducible refine we_bm0 mS_clear ?_ | with_reducible refine we_bm mS_indexS ?_ | with_reducible refine we_bm mS_join ?_ | with_reducible refine we_bm mS_split ?_ | with_reducible refine we_bm mS_part ?_ | with_reducible refine we_un unS_neg ?_ | with_reducible refine we_un unS_inv ?_)
  | (guard_target =~ Wt _ _ _ _ _ _ _; first | with_reducible refine wt_test ?_ | with_reducible refine wt_tr ?_ | with_reducible refine wt_not ?_ | with_reducible refine wt_and ?_ | with_reducible refine wt_or ?_ | with_reducible refine wt_val ?_ | with_reducible refine wt_yes ?_)
  | (guard_target =~ Wg _ _ _ _ _ _; first | with_reducible refine wg_name ?_)
  | (guard_target =~ Wgs _ _ _ _ _ _; first | with_reducible refine wgs_cons ?_ | with_reducible refine wgs_nil ?_)
  | (guard_target =~ Wi _ _ _ _ _ _ _; first | with_reducible refine wi_str ?_ | with_reducible refine wi_list ?_ | with_reducible refine wi_rngN ?_ | with_reducible refine wi_rng2 ?_)
  | (guard_target =~ Wo _ _ _ _ _ _ _; first | with_reducible refine wo_none ?_ | with_reducible refine wo_some ?_)
  | with_reducible refine dAdd_ii ?_
  | with_reducible refine dI_ii ?_
  | with_reducible refine dU_i ?_
  | with_reducible refine dEq_fi ?_
  | with_reducible refine dEq_ti ?_
  | with_reducible refine dEq_fs ?_
  | with_reducible refine dEq_ts ?_
  | with_reducible refine dEq_fb ?_
  | with_reducible refine dEq_tb ?_
  | with_reducible refine dEq_sn ?_
  | with_reducible refine dEq_ns ?_
  | with_reducible refine dEq_nn ?_
  | with_reducible refine dIn_fs ?_
  | with_reducible refine dIn_ts ?_
  | with_reducible refine dIn_fi ?_
  | with_reducible refine dIn_ti ?_
  | with_reducible refine dIn_tc ?_
  | with_reducible refine dIn_fc ?_
  | with_reducible refine dSl_l ?_
  | with_reducible refine dSl_q ?_
  | with_reducible refine dLen_l ?_
  | with_reducible refine dLen_q ?_
  | (guard_target =~ dLen [.ref _] _ _; with_reducible refine dLen_r (by first | exact um_same | assumption) ?_)
  | with_reducible refine ty_l ?_
  | with_reducible refine ty_s ?_
  | (guard_target =~ tyD _ "list" (.ref _) ∧ _; with_reducible refine ty_r (by first | exact um_same | assumption) ?_)
  | with_reducible refine dLen_t ?_
  | with_reducible refine dInt_i ?_
  | with_reducible refine dInt_b ?_
  | with_reducible refine dBool_i ?_
  | with_reducible refine dMax_ii ?_
  | with_reducible refine dMin_ii ?_
  | with_reducible refine dList_l ?_
  | with_reducible refine dIsN_s ?_
  | with_reducible refine dIsN_n ?_
  | with_reducible refine dIsN_i ?_
  | with_reducible refine bl_ex ?_
  | with_reducible refine tru_b ?_
  | with_reducible refine tru_i ?_
  | with_reducible refine tru_l ?_
  | with_reducible refine iteT ?_
  | with_reducible refine iteF ?_
  | with_reducible refine iteNT ?_
  | with_reducible refine iteNF ?_
  | with_reducible refine ⟨_, rfl, ?_⟩)
local macro_rules | `(tactic| walk_at "w") => `(tactic| repeat walk_at "s")

/-! ### _law_parts_right -/
abbrev N_law_parts_right : List Str := ["_law_rows", "_law_row", "_law_due_here", "_law_told", "e"]
theorem sc_law_parts_right : FnScope N_law_parts_right ["_law_rows"] (defScope s_law_parts_right) := ⟨rfl, rfl, rfl, by decide +kernel, rfl, by decide +kernel, by decide +kernel⟩
abbrev D_law_parts_right (K : PySem.W.Frag) (mg : Str → Option Value) : Prop := DF K mg "_law_parts_right" s_law_parts_right
theorem gf_law_parts_right {P : Program} {w : World} {K : PySem.W.Frag} {mg : Str → Option Value} {base : Heap} {k : Nat} {sp : Sp} (D : D_law_parts_right K mg) (h : ∀ {f : Addr} {fd : FuncData}, FunD K "_law_parts_right" "_law_parts_right" (defArgs s_law_parts_right) (defBody s_law_parts_right) (defScope s_law_parts_right) [] [] f fd → FnOk P w K mg base (L2.CX P w) k f fd ["_law_rows"] sp) : GF P w K mg base "_law_parts_right" k ["_law_rows"] sp := by
  obtain ⟨f, fd, h1, h2⟩ := D.ex
  exact ⟨f, fd, h1, h2.kp, FunD.bindsN h2 fun _ _ _ _ _ _ us hl => match us, hl with | [_], _ => rfl, h h2⟩

section
variable {P : Program} {w : World} {K : PySem.W.Frag} {mg : Str → Option Value} {base : Heap}
theorem ok_pright (D : D_law_parts_right K mg) (Z : Zs mg) (XK : XF K ["BadName", "Taken", "Unknown", "BadStep"]) (X_BadStep : GX P w K mg base "BadStep" (cA K "BadStep")) (C_Script : GC P w K mg base "Script" (cS K) 5 ["self", "names", "steps"] (toSp K (sd_Script_init K))) (S_Script_operands : GSM P w K mg base (cS K) "operands" 4 ["text"] (toSp K (sd_step_parts K))) (G_law_operands : GF P w K mg base "_law_operands" 1 ["_law_text"] (toSp K sd_lops))
    (G_law_texts : GF P w K mg base "_law_texts" 1 ["_law_actual", "_law_expected"] (toSp K sd_texts)) : GF P w K mg base "_law_parts_right" 5 ["_law_rows"] (toSp K sd_pright) := by
  refine gf_law_parts_right D fun F => fun_ok F sc_law_parts_right (fun ds μ P X h => ?_) fun cdv A outer s H E hr => ⟨_, (pss_cons (ps_for po_def rfl (pi_listK (K := K) rfl (pv 0)) (pg_name (i := 1) sc_law_parts_right.nd rfl (by first | exact Or.inl rfl | exact Or.inr rfl))
      (pss_cons (ps_set (i := 2) sc_law_parts_right.nd rfl (by first | exact Or.inl rfl | exact Or.inr rfl) (pe_gf G_law_operands (hr.mono (by decide)) tk_def (pa_cons (pe_ix (ix_seqK (K := K) rfl) (pv 1) pe_int (fun _ _ => rfl)) pa_nil)))
        (pss_cons (ps_tryK (K := K) rfl rfl rfl sc_law_parts_right.nd tk_def (fun W pn xe tk po => (pss_one (ps_set (i := 3) sc_law_parts_right.nd rfl (by first | exact Or.inl rfl | exact Or.inr rfl) (pe_gsm S_Script_operands (hr.mono (by decide)) tk (pe_glob (v := .ref (cA K "Script")) rfl C_Script.gl rfl) (pa_cons (pe_ix (ix_seqK (K := K) rfl) (pv 1) pe_int (fun _ _ => rfl)) pa_nil)))))
          (HdsG.as (i := 4) rfl rfl (cls_names X_BadStep) (fun a oe cls d pn hz hf => (pss_cons (ps_set (i := 3) sc_law_parts_right.nd rfl (by first | exact Or.inl rfl | exact Or.inr rfl) pe_non)
              (pss_one (ps_if (pt_cmpR (op_neK (K := K) rfl hr.units) (pe_xsK (K := K) rfl hz hf (pv 4)) (pe_ix (ix_seqK (K := K) rfl) (pv 1) pe_int (fun _ _ => rfl)) (nomark _))
                (pss_one (ps_ret pe_bl))
                pss_nil))))
          HdsG.nil))
        (pss_cons (ps_if (PW.pt (pw_and (pt_cmpR op_isN1 (pv 2) pe_non (nomark _)) (pw_and1 (pt_cmpR op_notN1 (pv 3) pe_non (nomark _)))))
          (pss_one (ps_ret pe_bl))
          pss_nil)
        (pss_one (ps_if (PW.pt (pw_and (pt_cmpR op_notN1 (pv 2) pe_non (nomark _)) (pw_and1 (pt_not (pt_trK (K := K) rfl (pe_gf G_law_texts (hr.mono (by decide)) tk_def (pa_cons (pv 3) (pa_cons (pv 2) pa_nil))))))))
          (pss_one (ps_ret pe_bl))
          pss_nil))))))
    (pss_one (ps_ret pe_bl))), fun ds μ Pd X h => ?_⟩
  · obtain ⟨rows, rfl, _⟩ := h; rfl
  · obtain ⟨rows, rfl, hrl, hr, hp⟩ := h
    show Ws K (wOf E) _ [some (.lst (pairsD rows)), none, none, none, none] μ _
    walk_at "w"
    refine ⟨_, .inl rfl, fun i Γ' μ' => (∃ g1 g2 g3 g4, Γ' = [some (.lst (pairsD rows)), g1, g2, g3, g4]) ∧ μ' = μ, ⟨⟨_, _, _, _, rfl⟩, rfl⟩, ?_, ?_⟩
    · rintro i e Γ' μ' hi ⟨⟨g1, g2, g3, g4, rfl⟩, rfl⟩
      obtain ⟨r, hr1, rfl⟩ := pairs_get hi
      obtain ⟨hr3, hr4⟩ := hr r (List.mem_of_getElem? hr1)
      have hd1 : atI ([.str r.1, .str r.2] : List Nm.D) 1 = some (.str r.2) := atI_nat (j := 1) rfl
      walk_at "w"
      refine dIx_t hd1 ?_
      walk_at "w"
      refine ⟨r.2, rfl, hr3, hr4, ?_⟩
      refine ws_seq (Ws.nxi (P := fun Γ2 μ2 => (∃ g4, Γ2 = [some (.lst (pairsD rows)), some (pairD r), some (optsD (partsOf r.2)), some (optsD (partsOf r.2)), g4]) ∧ μ2 = μ') ?_ ?_)
      · refine ws_try fun W' => ?_
        refine ws_set (we_sm ?_)
        walk_at "w"
        refine ⟨rfl, ?_⟩
        walk_at "w"
        refine dIx_t hd1 ?_
        walk_at "w"
        refine ⟨r.2, rfl, hr3, fun ps hps => ?_, fun hps => ?_⟩
        · rw [hps]
          exact ⟨⟨_, rfl⟩, rfl⟩
        · rw [hps]
          refine ⟨true, XK.eb "BadStep" "BadStep" true, fun _ a d => ?_, fun h => (by cases h)⟩
          show Ws K _ _ [some (.lst (pairsD rows)), some (pairD r), some .non, g3, some (.exc a d (.str r.2))] μ' _
          walk_at "w"
          refine we_xs X_BadStep.xf X_BadStep.sub ?_
          walk_at "w"
          refine dIx_t hd1 ?_
          walk_at "w"
          rw [decide_eq_true rfl]
          refine iteNF ?_
          walk_at "w"
          exact ⟨⟨_, rfl⟩, rfl⟩
      · rintro Γ2 μ2 ⟨⟨g4, rfl⟩, rfl⟩
        show Ws K (wOf E) _ [some (.lst (pairsD rows)), some (pairD r), some (optsD (partsOf r.2)), some (optsD (partsOf r.2)), g4] μ2 _
        cases hps : partsOf r.2 with
        | none =>
          show Ws K (wOf E) _ [some (.lst (pairsD rows)), some (pairD r), some .non, some .non, g4] μ2 _
          walk_at "w"
          exact Fo.of ⟨⟨_, _, _, _, rfl⟩, rfl⟩
        | some ps =>
          show Ws K (wOf E) _ [some (.lst (pairsD rows)), some (pairD r), some (.lst (strsD ps)), some (.lst (strsD ps)), g4] μ2 _
          walk_at "w"
          refine dIsN_l ?_
          walk_at "w"
          refine dIsN_l ?_
          walk_at "w"
          refine ⟨ps, ps, rfl, ?_, ?_⟩
          · have h1 : ps.length ≤ (Txt.split r.2 " ").length := by
              unfold partsOf at hps
              split at hps
              · split at hps
                · obtain rfl := Option.some.inj hps
                  have pl : ∀ (ws : List Str) (fs : FRow), (pickF ws fs).length ≤ ws.length := by
                    intro ws
                    induction ws with
                    | nil => intro fs; cases fs <;> exact Nat.le_refl _
                    | cons w ws ih =>
                      intro fs
                      match fs with
                      | [] => exact Nat.zero_le _
                      | none :: fs => exact Nat.succ_le_succ (ih fs)
                      | some _ :: fs => exact Nat.le_succ_of_le (ih fs)
                  exact pl _ _
                · cases hps
              · cases hps
            have := split_few (x := r.2) (y := " ")
            omega
          rw [decide_eq_true rfl]
          walk_at "w"
          exact Fo.of ⟨⟨_, _, _, _, rfl⟩, rfl⟩
    · rintro Γ' μ' ⟨⟨g1, g2, g3, g4, rfl⟩, rfl⟩
      walk_at "w"
      exact ret_of hp
end
end Nm
namespace Nm
open PySem PySem.Spec PyProof.Rows L2
/-! ### plain: drawn steps as a script -/
structure Kn (known : List Str) : Prop where
  hd : ∃ ns : List Str, known = tNONE :: ns
  nd : known.Nodup
  nm : ∀ x ∈ known, isName x = true
def nmK (known : List Str) (i : Nat) : Str := known.getD i ""
theorem nmK_get {known : List Str} {i : Nat} (h : i < known.length) : known[i]? = some (nmK known i) := getD_at h
theorem nmK_mem {known : List Str} {i : Nat} (h : i < known.length) : nmK known i ∈ known := getD_mem h
theorem nmK_inj {known : List Str} (hn : known.Nodup) {i j : Nat} (hi : i < known.length) (hj : j < known.length) (e : nmK known i = nmK known j) : i = j := by
  have h1 := idx_getD (d := "") hn hi
  have h2 := idx_getD (d := "") hn hj
  unfold nmK at e
  rw [e] at h1
  exact h1.symm.trans h2
theorem nmK_take {known : List Str} {i n : Nat} (h : i < known.length) (hn : i < n) : nmK known i ∈ known.take n := by
  refine List.mem_of_getElem? (i := i) ?_
  rw [List.getElem?_take_of_lt hn]
  exact nmK_get h
def rowL (known : List Str) (inp k : Nat) (s : Stp) : Str × Str := (nmK known (1 + inp + k), wordsS s.kd (nmK known s.a) (nmK known s.b) (nmK known s.c))
abbrev stp0 : Stp := ⟨0, 0, 0, 0⟩
/-- the steps as a script has them -/
def rowsL (known : List Str) (inp : Nat) (ss : List Stp) : List (Str × Str) := (List.range ss.length).map fun k => rowL known inp k (ss.getD k stp0)
theorem rowsL_len {known : List Str} {inp : Nat} {ss : List Stp} : (rowsL known inp ss).length = ss.length := by unfold rowsL; rw [List.length_map, List.length_range]
theorem stp_at {ss : List Stp} {k : Nat} (h : k < ss.length) : ss[k]? = some (ss.getD k stp0) := by
  rw [List.getD_eq_getElem?_getD, List.getElem?_eq_getElem h]; rfl
theorem rowsL_at {known : List Str} {inp : Nat} {ss : List Stp} {k : Nat} {r : Str × Str} (h : (rowsL known inp ss)[k]? = some r) : ∃ s, ss[k]? = some s ∧ k < ss.length ∧ r = rowL known inp k s := by
  unfold rowsL at h
  rw [List.getElem?_map] at h
  obtain ⟨j, hj, rfl⟩ := Option.map_eq_some_iff.mp h
  rcases Nat.lt_or_ge k ss.length with q | q
  · rw [List.getElem?_range q] at hj
    obtain rfl := Option.some.inj hj
    exact ⟨_, stp_at q, q, rfl⟩
  · rw [List.getElem?_eq_none (by rw [List.length_range]; exact q)] at hj
    cases hj
theorem nFault_none : ∀ {names kn : List Str}, (kn ++ names).Nodup → (∀ x ∈ names, isName x = true) → nFault kn names = none
  | [], kn, _, _ => rfl
  | x :: r, kn, hn, hi => by
    show (match nameFault kn x with | some z => some z | none => nFault (kn ++ [x]) r) = none
    have e : nameFault kn x = none := by
      unfold nameFault
      rw [if_neg (by rw [hi x List.mem_cons_self]; decide), if_neg]
      intro h
      exact (List.nodup_append.mp hn).2.2 x h x List.mem_cons_self rfl
    rw [e]
    exact nFault_none (by rw [List.append_assoc]; exact hn) fun y hy => hi y (List.mem_cons_of_mem _ hy)
theorem sFault_none : ∀ {rows : List (Str × Str)} {kn : List Str}, (∀ (i : Nat) (r : Str × Str), rows[i]? = some r → isName r.1 = true ∧ r.1 ∉ kn ++ (rows.take i).map (·.1) ∧ ∃ ps, partsOf r.2 = some ps ∧ ∀ p ∈ ps, p ∈ kn ++ (rows.take i).map (·.1)) → sFault kn rows = none
  | [], kn, _ => rfl
  | s :: r, kn, h => by
    show (match rowFault kn s.1 s.2 with | some z => some z | none => sFault (kn ++ [s.1]) r) = none
    obtain ⟨h1, h2, ps, h3, h4⟩ := h 0 s rfl
    rw [List.take_zero, List.map_nil, List.append_nil] at h2 h4
    have e : rowFault kn s.1 s.2 = none := by
      unfold rowFault
      have e1 : nameFault kn s.1 = none := by
        unfold nameFault
        rw [if_neg (by rw [h1]; decide), if_neg h2]
      rw [e1, h3]
      show (ps.find? fun p => decide (p ∉ kn)).map _ = none
      rw [List.find?_eq_none.mpr fun p hp => by simpa using h4 p hp]
      rfl
    rw [e]
    refine sFault_none fun i q hq => ?_
    have := h (i + 1) q hq
    rw [List.take_succ_cons, List.map_cons] at this
    rw [List.append_assoc]
    exact this
section
variable {known : List Str} {inp : Nat} {ss : List Stp}
/-- the names that are known ahead of step k -/
theorem known_at (hk : Kn known) (hl : 1 + inp + ss.length ≤ known.length) {k : Nat} (hks : k ≤ ss.length) : tNONE :: ((known.drop 1).take inp ++ ((rowsL known inp ss).take k).map (·.1)) = known.take (1 + inp + k) := by
  obtain ⟨ns, rfl⟩ := hk.hd
  have e1 : (rowsL (tNONE :: ns) inp ss).take k = (List.range k).map fun k => rowL (tNONE :: ns) inp k (ss.getD k stp0) := by
    unfold rowsL
    rw [← List.map_take, List.take_range, Nat.min_eq_left hks]
  rw [e1, List.map_map, show 1 + inp + k = (inp + k) + 1 by omega, List.take_succ_cons]
  refine congrArg (tNONE :: ·) ?_
  show ns.take inp ++ _ = _
  rw [List.take_add]
  refine congrArg (ns.take inp ++ ·) ?_
  apply List.ext_getElem?
  intro i
  rcases Nat.lt_or_ge i k with q | q
  · rw [List.getElem?_map, List.getElem?_range q, List.getElem?_take_of_lt q, List.getElem?_drop]
    have hlt : inp + i < ns.length := by
      rw [List.length_cons] at hl
      omega
    show some (nmK (tNONE :: ns) (1 + inp + i)) = _
    rw [← nmK_get (known := tNONE :: ns) (i := 1 + inp + i) (by rw [List.length_cons]; omega), show 1 + inp + i = (inp + i) + 1 by omega]
    rfl
  · rw [List.getElem?_eq_none (by rw [List.length_map, List.length_range]; exact q), List.getElem?_eq_none (by rw [List.length_take]; omega)]
theorem opsN_mem {k : Nat} {a b c x : Str} (h : x ∈ opsN k a b c) : x = a ∨ x = b ∨ x = c := by
  unfold opsN at h
  split at h
  · rcases List.mem_cons.mp h with h | h
    · exact .inl h
    · exact .inr (.inl (List.mem_singleton.mp h))
  · rcases List.mem_cons.mp h with h | h
    · exact .inl h
    · rcases List.mem_cons.mp h with h | h
      · exact .inr (.inl h)
      · exact .inr (.inr (List.mem_singleton.mp h))
/-- the drawn script has no fault -/
theorem scr_none (hk : Kn known) (hl : 1 + inp + ss.length ≤ known.length) (ho : OkS inp ss) : scrFault ((known.drop 1).take inp) (rowsL known inp ss) = none := by
  have e0 := known_at (ss := ss) hk hl (k := 0) (Nat.zero_le _)
  rw [List.take_zero, List.map_nil, List.append_nil] at e0
  unfold scrFault
  have h1 : nFault [tNONE] ((known.drop 1).take inp) = none := by
    refine nFault_none ?_ fun x hx => hk.nm x (List.mem_of_mem_drop (List.mem_of_mem_take hx))
    show (tNONE :: ((known.drop 1).take inp)).Nodup
    rw [e0]
    exact hk.nd.sublist (List.take_sublist _ _)
  rw [h1]
  refine sFault_none fun i r hr => ?_
  obtain ⟨s, hs, hi, rfl⟩ := rowsL_at hr
  obtain ⟨h6, ha, hb, hc⟩ := ho i s hs
  rw [List.cons_append, known_at hk hl (Nat.le_of_lt hi)]
  have hn : ∀ j, j < 1 + inp + i → isName (nmK known j) = true := fun j hj => hk.nm _ (nmK_mem (by omega))
  refine ⟨hk.nm _ (nmK_mem (by omega)), not_in_take hk.nd (nmK_get (by omega)) (Nat.le_refl _), _, words_parts (hn _ ha) (hn _ hb) (hn _ hc) h6, fun p hp => ?_⟩
  rcases opsN_mem hp with rfl | rfl | rfl
  · exact nmK_take (by omega) ha
  · exact nmK_take (by omega) hb
  · exact nmK_take (by omega) hc
def nmP (known : List Str) (p : Nat × Nat) : Str × Str := (nmK known p.1, nmK known p.2)
theorem row_pairs (hk : Kn known) {k : Nat} {s : Stp} (h6 : s.kd < 6) (ha : s.a < known.length) (hb : s.b < known.length) (hc : s.c < known.length) : pairsS (rowL known inp k s) = (prs s).map (nmP known) := by
  have hn : ∀ j, j < known.length → isName (nmK known j) = true := fun j hj => hk.nm _ (nmK_mem hj)
  unfold pairsS
  show gainsS ((Txt.split (wordsS s.kd _ _ _) " ").headD "") ((partsOf (wordsS s.kd _ _ _)).getD []) = _
  rw [words_kind (hn _ ha) (hn _ hb) (hn _ hc) h6, words_parts (hn _ ha) (hn _ hb) (hn _ hc) h6]
  show gainsS (kindN s.kd) (opsN s.kd _ _ _) = _
  rw [words_pairs h6]
  unfold prsN prs
  split
  · rfl
  · split
    · rfl
    · split <;> rfl
theorem foldl_nm (hn : known.Nodup) : ∀ (l acc : List (Nat × Nat)), (∀ p ∈ l, p.1 < known.length ∧ p.2 < known.length) → (∀ p ∈ acc, p.1 < known.length ∧ p.2 < known.length) → (l.map (nmP known)).foldl addNew (acc.map (nmP known)) = (l.foldl addN acc).map (nmP known)
  | [], acc, _, _ => rfl
  | p :: l, acc, hl, ha => by
    have hp := hl p List.mem_cons_self
    have e : addNew (acc.map (nmP known)) (nmP known p) = (addN acc p).map (nmP known) := by
      unfold addNew addN
      by_cases h : p ∈ acc
      · rw [if_pos h, if_pos (List.mem_map_of_mem h)]
      · rw [if_neg h, if_neg, List.map_append]
        · rfl
        · intro hm
          obtain ⟨q, hq, e⟩ := List.mem_map.mp hm
          have hq2 := ha q hq
          have e1 := nmK_inj hn hq2.1 hp.1 (congrArg (·.1) e)
          have e2 := nmK_inj hn hq2.2 hp.2 (congrArg (·.2) e)
          exact h (by rw [← show q = p from Prod.ext e1 e2]; exact hq)
    show (l.map (nmP known)).foldl addNew (addNew (acc.map (nmP known)) (nmP known p)) = _
    rw [e]
    refine foldl_nm hn l (addN acc p) (fun q hq => hl q (List.mem_cons_of_mem _ hq)) fun q hq => ?_
    unfold addN at hq
    split at hq
    · exact ha q hq
    · rcases List.mem_append.mp hq with hq | hq
      · exact ha q hq
      · rw [List.mem_singleton.mp hq]; exact hp
theorem prs_lt {s : Stp} {n : Nat} (ha : s.a < n) (hb : s.b < n) (hc : s.c < n) : ∀ p ∈ prs s, p.1 < n ∧ p.2 < n := by
  intro p hp
  unfold prs at hp
  split at hp
  · rw [List.mem_singleton.mp hp]; exact ⟨ha, hb⟩
  · split at hp
    · rcases List.mem_cons.mp hp with rfl | hp
      · exact ⟨ha, hc⟩
      · rw [List.mem_singleton.mp hp]; exact ⟨hb, hc⟩
    · split at hp
      · rcases List.mem_cons.mp hp with rfl | hp
        · exact ⟨hc, ha⟩
        · rw [List.mem_singleton.mp hp]; exact ⟨hb, ha⟩
      · cases hp
theorem okS_lt (ho : OkS inp ss) {n : Nat} (hl : 1 + inp + ss.length ≤ n) : ∀ s ∈ ss, s.kd < 6 ∧ s.a < n ∧ s.b < n ∧ s.c < n := by
  intro s hs
  obtain ⟨i, hi⟩ := List.getElem?_of_mem hs
  have := (List.getElem?_eq_some_iff.mp hi).1
  obtain ⟨h6, ha, hb, hc⟩ := ho i s hi
  exact ⟨h6, by omega, by omega, by omega⟩
theorem flat_prs_lt (ho : OkS inp ss) {n : Nat} (hl : 1 + inp + ss.length ≤ n) : ∀ p ∈ ss.flatMap prs, p.1 < n ∧ p.2 < n := by
  intro p hp
  obtain ⟨s, hs, hp⟩ := List.mem_flatMap.mp hp
  obtain ⟨_, ha, hb, hc⟩ := okS_lt ho hl s hs
  exact prs_lt ha hb hc p hp
theorem lgains_lt (ho : OkS inp ss) {n : Nat} (hl : 1 + inp + ss.length ≤ n) : ∀ p ∈ lgains ss, p.1 < n ∧ p.2 < n := by
  have key : ∀ (l acc : List (Nat × Nat)), (∀ p ∈ l, p.1 < n ∧ p.2 < n) → (∀ p ∈ acc, p.1 < n ∧ p.2 < n) → ∀ p ∈ l.foldl addN acc, p.1 < n ∧ p.2 < n := by
    intro l
    induction l with
    | nil => exact fun acc _ h => h
    | cons x r ih =>
      intro acc hl ha
      refine ih (addN acc x) (fun q hq => hl q (List.mem_cons_of_mem _ hq)) fun q hq => ?_
      unfold addN at hq
      split at hq
      · exact ha q hq
      · rcases List.mem_append.mp hq with hq | hq
        · exact ha q hq
        · rw [List.mem_singleton.mp hq]; exact hl x List.mem_cons_self
  exact key _ _ (flat_prs_lt ho hl) fun p hp => (by cases hp)
theorem rowsL_flat (hk : Kn known) (hl : 1 + inp + ss.length ≤ known.length) (ho : OkS inp ss) : (rowsL known inp ss).flatMap pairsS = (ss.flatMap prs).map (nmP known) := by
  have e : (rowsL known inp ss).map pairsS = (ss.map prs).map (List.map (nmP known)) := by
    apply List.ext_getElem?
    intro i
    rw [List.getElem?_map, List.getElem?_map, List.getElem?_map]
    rcases Nat.lt_or_ge i ss.length with q | q
    · obtain ⟨r, hr⟩ := get_of_lt (l := rowsL known inp ss) (i := i) (by rw [rowsL_len]; exact q)
      obtain ⟨s, hs, _, rfl⟩ := rowsL_at hr
      obtain ⟨h6, ha, hb, hc⟩ := okS_lt ho hl s (List.mem_of_getElem? hs)
      rw [hr, hs]
      show some (pairsS _) = some _
      rw [row_pairs hk h6 ha hb hc]
    · rw [List.getElem?_eq_none (by rw [rowsL_len]; exact q), List.getElem?_eq_none q]
      rfl
  rw [List.flatMap_def, e, List.flatMap_def, List.map_flatten]
/-- the gains of the drawn script -/
theorem rowsL_gains (hk : Kn known) (hl : 1 + inp + ss.length ≤ known.length) (ho : OkS inp ss) : gainsOf (rowsL known inp ss) = (lgains ss).map (nmP known) := by
  unfold gainsOf lgains
  rw [rowsL_flat hk hl ho]
  exact foldl_nm hk.nd _ [] (flat_prs_lt ho hl) fun p hp => (by cases hp)
/-- what is asked of the rows of a script that is told -/
theorem rowsL_ok (hk : Kn known) (hl : 1 + inp + ss.length ≤ known.length) (ho : OkS inp ss) : ∀ s ∈ rowsL known inp ss, (fitK (kindS s.2) (partS s.2) ∧ ∀ q ∈ pairsS s, okP q) ∧ isName s.1 = true ∧ s.2.length ≤ 54 ∧ SoN s.2 ∧ Asc s.2 ∧ ∃ ps, partsOf s.2 = some ps ∧ ps.length ≤ 3 := by
  intro r hr
  obtain ⟨i, hi⟩ := List.getElem?_of_mem hr
  obtain ⟨s, hs, hil, rfl⟩ := rowsL_at hi
  obtain ⟨h6, ha, hb, hc⟩ := okS_lt ho hl s (List.mem_of_getElem? hs)
  have hn : ∀ j, j < known.length → isName (nmK known j) = true := fun j hj => hk.nm _ (nmK_mem hj)
  refine ⟨⟨?_, ?_⟩, hn _ (by omega), wordsS_len (hn _ ha) (hn _ hb) (hn _ hc) h6, wordsS_son (hn _ ha) (hn _ hb) (hn _ hc) h6, ?_, _, words_parts (hn _ ha) (hn _ hb) (hn _ hc) h6, ?_⟩
  · show fitK ((Txt.split (wordsS s.kd _ _ _) " ").headD "") ((partsOf (wordsS s.kd _ _ _)).getD [])
    rw [words_kind (hn _ ha) (hn _ hb) (hn _ hc) h6, words_parts (hn _ ha) (hn _ hb) (hn _ hc) h6]
    exact words_fit h6
  · rw [row_pairs hk h6 ha hb hc]
    intro q hq
    obtain ⟨p, hp, rfl⟩ := List.mem_map.mp hq
    obtain ⟨h1, h2⟩ := prs_lt ha hb hc p hp
    exact ⟨isName_so (hn _ h1), isName_so (hn _ h2)⟩
  · show Asc (wordsS s.kd _ _ _)
    rw [words_join h6]
    exact asc_join (by decide +kernel) fun p hp => asc_name (wordL_names (hn _ ha) (hn _ hb) (hn _ hc) h6 p hp)
  · unfold opsN
    split
    · exact Nat.le_succ _
    · exact Nat.le_refl _
end
end Nm
namespace Nm
open PySem PySem.Spec PyProof.Rows L2
/-! ### Script(..) without a fault, never changed from there on -/
theorem we_script {K : PySem.W.Frag} {W : WX} {Γ : Gm} {μ : Mu} {t : TA} {P : PD} {X : XD} (h : Wa K W t Γ μ (fun ds μ1 => ∃ (nd sd : D) (names : List Str) (steps : List (Str × Str)), ds = [nd, sd] ∧ IsL μ1 nd (strsD names) ∧ IsL μ1 sd (pairsD steps) ∧ names.length ≤ 1000 ∧ steps.length ≤ 1000 ∧
    (∀ n ∈ names, n.length ≤ 90000) ∧ (∀ s ∈ steps, s.1.length ≤ 90000 ∧ s.2.length ≤ 90000) ∧ scrFault names steps = none ∧ ∀ x, P (.ins x (cS K) nsS (sfs names steps)) μ1) X) : We K W (tMakeD (cS K) (toSp K (sd_Script_init K)) [] (L2.WE W) t) Γ μ P X := by
  refine we_frz (we_make (dds := []) (fun _ => HasL.nil) ?_)
  intro S σ H Q a b c e
  refine h S σ H Q a b (fun ds μ1 vs S' H' p => c ds μ1 vs S' H' ?_) e
  obtain ⟨nd, sd, names, steps, rfl, h1, h2, h3, h4, h5, h6, h7, h8⟩ := p
  intro x hx0
  refine ⟨x, nd, sd, names, steps, rfl, um_same, h1.um_new hx0, h2.um_new hx0, h3, h4, h5, h6, fun c s hf => ?_, fun _ => ⟨rfl, x, .ins (cS K) nsS (sfs names steps), rfl, ?_, ?_⟩⟩
  · rw [h7] at hf; cases hf
  · rw [um_um]; exact um_same
  · rw [um_um, dm_um hx0]; exact h8 x
theorem scD_ins {K : PySem.W.Frag} {μ : Mu} {x : Addr} {names : List Str} {steps : List (Str × Str)} : ScD K μ (.ins x (cS K) nsS (sfs names steps)) names steps := ⟨rfl, rfl, rfl⟩
theorem atI_last {ds : List D} {d : D} : L2.atI (ds ++ [d]) (-1) = some d := by
  have e : L2.ixN (ds ++ [d]).length (-1) = some ds.length := by
    unfold L2.ixN
    rw [List.length_append, List.length_singleton, if_neg (by decide), if_pos (by omega)]
    exact congrArg some (by omega)
  unfold L2.atI
  rw [e]
  show (ds ++ [d])[ds.length]? = some d
  rw [List.getElem?_append_right (Nat.le_refl _), Nat.sub_self]
  rfl
end Nm
namespace Nm
open PySem PySem.Spec PyProof.Rows L2
abbrev N_law : List Str := ["_law_script", "_law_pool_here", "_law_at", "_law_inputs", "_law_many", "_law_named", "_law_known", "_law_steps_here", "_law_rows", "_law_k", "_law_pairs_here", "_law_pair", "_law_names_here", "_law_given", "_law_steps_given", "_law_made", "_law_told", "_law_changed", "_law_turn", "_law_due_here"]
theorem sc_law : FnScope N_law ["_law_script"] (defScope s_law) := ⟨rfl, rfl, rfl, by decide +kernel, rfl, by decide +kernel, by decide +kernel⟩
abbrev D_law (K : PySem.W.Frag) (mg : Str → Option Value) : Prop := DF K mg "law" s_law
theorem gf_law {P : Program} {w : World} {K : PySem.W.Frag} {mg : Str → Option Value} {base : Heap} {k : Nat} {sp : Sp} (D : D_law K mg) (h : ∀ {f : Addr} {fd : FuncData}, FunD K "law" "law" (defArgs s_law) (defBody s_law) (defScope s_law) [] [] f fd → FnOk P w K mg base (L2.CX P w) k f fd ["_law_script"] sp) : GF P w K mg base "law" k ["_law_script"] sp := by
  obtain ⟨f, fd, h1, h2⟩ := D.ex
  exact ⟨f, fd, h1, h2.kp, FunD.bindsN h2 fun _ _ _ _ _ _ us hl => match us, hl with | [_], _ => rfl, h h2⟩

end Nm
namespace Nm
open PySem PySem.Spec PyProof.Rows L2
/-- the walk from the law's call, whatever the world -/
theorem walk_ofX {l : PySem.W.OpenLaw} {n k : Nat} {q : Program} {loose : List Str} {XP : (Str → Option Value) → Heap → Prop} {YP : World → Heap → Prop} {d : DefRec} {x : Str}
    (hn : l.most = some n) (hn2 : n ≤ sizeLine) (hdf : d.params.defaults = []) (hr : Room k callerA)
    (F : ∀ (w : World) (mg : Str → Option Value) (fa : Addr) (h : Heap), YP w h → h.Ns mainGlobals mg → mg d.name = some (.ref fa) →
      ∃ (K : PySem.W.Frag) (fd : FuncData) (sp : Sp), K.In h ∧ (∀ (s : Shared) (u : Value), BindsTo s fd ⟨[u], []⟩ [(x, u)]) ∧
        (∀ (H : Hp) (a : Addr) (ns : List Int), ns.length ≤ n → Only H → SqL K H a (ns.map V.int) → sp [.ref a] H (fun v _ => v = .bl true) fun _ _ _ => False) ∧
        ∀ base : Heap, K.In base → base.Ns mainGlobals mg → FnOk l.prog w K mg base (L2.CX l.prog w) k fa fd [x] sp) :
    PySem.W.WalkO q loose XP YP l.row.toRowW d [] (fun f vs => PySem.call f vs) := by
  refine Att.attach_call hn hdf fun w s₀ s₁ mg mb fa o pm cd doc a vs ns G Y ho hd hcd hmg hobj hints hlen hg => ?_
  obtain ⟨K, fd, sp, KX, hb, hsp, hF⟩ := F w mg fa _ Y G.T.g hmg
  exact law_call KX G.T.g G.T.b G.T.builtins G.T.nolimit hg hobj hints (Nat.le_trans hlen hn2) hr hF hb (fun H hO hS => hsp H a ns hlen hO hS) fun H e s' c => by
    obtain ⟨_, _, _, _, _, _, _, _, _, _, _, _, z⟩ := c
    exact z

def sd_law : SpD := fun ds μ P _ => ∃ ns : List Int, ds = [.sq (intsD ns)] ∧ ns.length ≤ 63 ∧ P (.bl true) μ
theorem has_ints {K : PySem.W.Frag} {S : Hp} : ∀ ns : List Int, HasL K S (intsD ns) (ns.map V.int)
  | [] => .nil
  | n :: r => .cons .int (has_ints r)
theorem law_start {K : PySem.W.Frag} {H : Hp} {a : Addr} {ns : List Int} (hl : ns.length ≤ 63) (hs : SqL K H a (ns.map V.int)) : toSp K sd_law [.ref a] H (fun v _ => v = .bl true) fun _ _ _ => False := by
  refine ⟨H, [.sq (intsD ns)], fun _ => none, fun d _ => d = .bl true, fun _ _ _ => False, ⟨fun _ _ h => h, fun _ _ h => by cases h⟩, .cons ⟨a, _, rfl, hs, has_ints ns⟩ .nil, ⟨ns, rfl, hl, rfl⟩, ?_, fun _ _ _ _ _ _ _ h => h.elim⟩
  rintro d μ' v S' H' rfl _ _ hv
  exact hv.bl_inv
end Nm
namespace Nm
open PySem PySem.Spec PyProof.Rows L2
local macro_rules | `(tactic| walk_at "s") => `(tactic| first
  | (guard_target =~ Ws _ _ _ _ _ _; first | with_reducible refine ws_seq ?_ | with_reducible refine ws_set ?_ | with_reducible refine ws_if ?_ | with_reducible refine ws_ret ?_ | with_reducible refine ws_asg ?_ | with_reducible refine ws_drop ?_ | with_reducible refine ws_next ?_ | with_reducible refine ws_for ?_ | with_reducible refine ws_brk ?_ | with_reducible refine ws_cont ?_ | with_reducible refine ws_retN ?_ | with_reducible refine ws_fld ?_)
  | (guard_target =~ Wa _ _ _ _ _ _ _; first | with_reducible refine wa_cons ?_ | with_reducible refine wa_nil ?_)
  | (guard_target =~ We _ _ _ _ _ _ _; first | (guard_target =~ We _ _ (tOp _ _ _) _ _ _ _; first | with_reducible refine we_op opS_add ?_ | with_reducible refine we_op opS_sub ?_ | with_reducible refine we_op opS_mul ?_ | with_reducible refine we_op opS_mod ?_ | with_reducible refine we_op opS_div ?_ | with_reducible refine we_op opS_ix ?_ | with_reducible refine we_op opS_eq ?_ | with_reducible refine we_op opS_ne ?_ | with_reducible refine we_op opS_lt ?_ | with_reducible refine we_op opS_le ?_ | with_reducible refine we_op opS_gt ?_ | with_reducible refine we_op opS_ge ?_ | with_reducible refine we_op opS_in ?_ | with_reducible refine we_op opS_notIn ?_ | with_reducible refine we_op opS_and ?_ | with_reducible refine we_op opS_or ?_ | with_reducible refine we_op opS_shr ?_ | with_reducible refine we_op opS_shl ?_ | with_reducible refine we_op opS_pow ?_ | with_reducible refine we_op opS_isN ?_ | with_reducible refine we_op opS_notN ?_ | with_reducible refine we_op opS_xor ?_) | (guard_target =~ We _ _ (tCB _ _) _ _ _ _; first | with_reducible refine we_cb cbS_len ?_ | with_reducible refine we_cb cbS_int ?_ | with_reducible refine we_cb cbS_bool ?_ | with_reducible refine we_cb cbS_max ?_ | with_reducible refine we_cb cbS_min ?_ | with_reducible refine we_cb cbS_isi ?_) | with_reducible refine we_var rfl ?_ | with_reducible refine we_int ?_ | with_reducible refine we_str ?_ | with_reducible refine we_bl ?_ | with_reducible refine we_non ?_ | with_reducible refine we_ty ?_ | with_reducible refine we_ref ?_ | with_reducible refine we_sl ?_ | with_reducible refine we_orT ?_ | with_reducible refine we_andT ?_ | with_reducible refine we_notT ?_ | with_reducible refine we_if ?_ | with_reducible refine we_tup ⟨?_, ?_⟩ | with_reducible refine we_tup ?_ | with_reducible refine we_fld ?_ | with_reducible refine we_call (dds := []) (fun _ => HasL.nil) ?_ | with_reducible refine we_call0 (dds := []) (fun _ => HasL.nil) ?_ | with_reducible refine we_meth (dds := []) (fun _ => HasL.nil) ?_ | with_reducible refine we_bm mS_append ?_ | with_reducible refine we_bm mS_extend ?_ | with_reducible refine we_bm0 mS_clear ?_ | with_reducible refine we_bm mS_indexS ?_ | with_reducible refine we_bm mS_join ?_ | with_reducible refine we_bm mS_split ?_ | with_reducible refine we_bm mS_part ?_ | with_reducible refine we_un unS_neg ?_ | with_reducible refine we_un unS_inv ?_)
  | (guard_target =~ Wt _ _ _ _ _ _ _; first | with_reducible refine wt_test ?_ | with_reducible refine wt_tr ?_ | with_reducible refine wt_not ?_ | with_reducible refine wt_and ?_ | with_reducible refine wt_or ?_ | with_reducible refine wt_val ?_ | with_reducible refine wt_yes ?_)
  | (guard_target =~ Wg _ _ _ _ _ _; first | with_reducible refine wg_name ?_)
  | (guard_target =~ Wgs _ _ _ _ _ _; first | with_reducible refine wgs_cons ?_ | with_reducible refine wgs_nil ?_)
  | (guard_target =~ Wi _ _ _ _ _ _ _; first | with_reducible refine wi_str ?_ | with_reducible refine wi_list ?_ | with_reducible refine wi_rngN ?_ | with_reducible refine wi_rng2 ?_)
  | (guard_target =~ Wo _ _ _ _ _ _ _; first | with_reducible refine wo_none ?_ | with_reducible refine wo_some ?_)
  | with_reducible refine dAdd_ii ?_
  | with_reducible refine dI_ii ?_
  | with_reducible refine dU_i ?_
  | with_reducible refine dEq_fi ?_
  | with_reducible refine dEq_ti ?_
  | with_reducible refine dEq_fs ?_
  | with_reducible refine dEq_ts ?_
  | with_reducible refine dEq_fb ?_
  | with_reducible refine dEq_tb ?_
  | with_reducible refine dEq_sn ?_
  | with_reducible refine dEq_ns ?_
  | with_reducible refine dEq_nn ?_
  | with_reducible refine dIn_fs ?_
  | with_reducible refine dIn_ts ?_
  | with_reducible refine dIn_fi ?_
  | with_reducible refine dIn_ti ?_
  | with_reducible refine dIn_tc ?_
  | with_reducible refine dIn_fc ?_
  | with_reducible refine dSl_l ?_
  | with_reducible refine dSl_q ?_
  | with_reducible refine dLen_l ?_
  | with_reducible refine dLen_q ?_
  | (guard_target =~ dLen [.ref _] _ _; with_reducible refine dLen_r (by first | exact um_same | assumption) ?_)
  | with_reducible refine ty_l ?_
  | with_reducible refine ty_s ?_
  | (guard_target =~ tyD _ "list" (.ref _) ∧ _; with_reducible refine ty_r (by first | exact um_same | assumption) ?_)
  | with_reducible refine dLen_t ?_
  | with_reducible refine dInt_i ?_
  | with_reducible refine dInt_b ?_
  | with_reducible refine dBool_i ?_
  | with_reducible refine dMax_ii ?_
  | with_reducible refine dMin_ii ?_
  | with_reducible refine dList_l ?_
  | with_reducible refine dIsN_s ?_
  | with_reducible refine dIsN_n ?_
  | with_reducible refine dIsN_i ?_
  | with_reducible refine bl_ex ?_
  | with_reducible refine tru_b ?_
  | with_reducible refine tru_i ?_
  | with_reducible refine tru_l ?_
  | with_reducible refine iteT ?_
  | with_reducible refine iteF ?_
  | with_reducible refine iteNT ?_
  | with_reducible refine iteNF ?_
  | with_reducible refine ⟨_, rfl, ?_⟩)
local macro_rules | `(tactic| walk_at "w") => `(tactic| repeat walk_at "s")

/-! ### k12: the law -/
def dueL : Option (Str × Str) → List D
  | none => [.str "made", .str ""]
  | some z => [.str (tagS z.1), .str z.2]
theorem dueD_eq (z : Option (Str × Str)) : dueD z = .tup (dueL z) := by cases z <;> rfl
theorem tagS_so (c : Str) : PyData.strOk (tagS c) = true := by
  unfold tagS
  split
  · decide +kernel
  · split
    · decide +kernel
    · split <;> decide +kernel
theorem dueL_pl {z : Option (Str × Str)} (h : ∀ q, z = some q → PyData.strOk q.2 = true) : Pl 8 (.tup (dueL z)) := by
  cases z with
  | none =>
    intro d hd
    rcases List.mem_cons.mp hd with rfl | hd
    · show PyData.strOk ("made" : Str) = true; decide +kernel
    · rw [List.mem_singleton.mp hd]; show PyData.strOk ("" : Str) = true; decide +kernel
  | some q =>
    intro d hd
    rcases List.mem_cons.mp hd with rfl | hd
    · exact tagS_so q.1
    · rw [List.mem_singleton.mp hd]; exact h q rfl
theorem deqL_sameT {x : List D} (h : Pl 8 (.tup x)) : deqL x x = true := by
  rw [← deq_tup]
  exact deq_refl h
theorem subG_set : ∀ (Γ : Gm) (i : Nat), SubG (Γ.set i none) Γ
  | [], _ => .nil
  | x :: r, 0 => .drop (SubG.refl r)
  | x :: r, i + 1 => .cons (subG_set r i)
section
variable {P : Program} {w : World} {K : PySem.W.Frag} {mg : Str → Option Value} {base : Heap}
theorem ok_law {f : Addr} {fd : FuncData} (F : FunD K "law" "law" (defArgs s_law) (defBody s_law) (defScope s_law) [] [] f fd) (Z : Zs mg) (G_law_pool : GF P w K mg base "_law_pool" 2 ["_law_script"] (toSp K sd_pool)) (G_law_take : GF P w K mg base "_law_take" 1 ["_law_pool_here", "_law_at", "_law_many"] (toSp K sd_take))
    (G_law_names : GF P w K mg base "_law_names" 2 ["_law_pool_here", "_law_at", "_law_many"] (toSp K (sd_namesS 26))) (G_law_steps : GF P w K mg base "_law_steps" 3 ["_law_pool_here", "_law_at", "_law_inputs", "_law_many", "_law_wide"] (toSp K sd_steps)) (G_law_words : GF P w K mg base "_law_words" 1 ["_law_step", "_law_names_here"] (toSp K sd_words)) (G_law_gains : GF P w K mg base "_law_gains" 2 ["_law_steps_here"] (toSp K sd_lgains))
    (G_law_shows : GF P w K mg base "_law_shows" 5 ["_law_made", "_law_names_here", "_law_rows", "_law_pairs_here"] (toSp K (sd_shows12 K))) (G_law_spoil : GF P w K mg base "_law_spoil" 3 ["_law_pool_here", "_law_at", "_law_names_here", "_law_rows", "_law_stranger"] (toSp K sd_spoil12)) (G_law_due : GF P w K mg base "_law_due" 2 ["_law_names_here", "_law_rows"] (toSp K sd_due)) (G_law_parts_right : GF P w K mg base "_law_parts_right" 5 ["_law_rows"] (toSp K sd_pright))
    (G_law_refused : GF P w K mg base "_law_refused" 7 ["_law_names_here", "_law_rows"] (toSp K sd_refused)) (G_law_form_names : GF P w K mg base "_law_form_names" 1 ["_law_turn"] (toSp K sd_fnames)) (C_Script : GC P w K mg base "Script" (cS K) 5 ["self", "names", "steps"] (toSp K (sd_Script_init K))) (P_Script_names : GP P w K mg base (cS K) "names" 1 (toSp K (sd_Script_names K))) (P_Script_steps : GP P w K mg base (cS K) "steps" 1 (toSp K (sd_Script_steps K))) (M_Script_gains : GM P w K mg base (cS K) "gains" 3 ["self"] (toSp K (sd_Script_gains K))) :
    FnOk P w K mg base (L2.CX P w) 8 f fd ["_law_script"] (toSp K sd_law) := by
  refine fun_ok F sc_law (fun ds μ P X h => ?_) fun cdv A outer s H E hr => ⟨_, (pss_cons (ps_set (i := 1) sc_law.nd rfl (by first | exact Or.inl rfl | exact Or.inr rfl) (pe_gf G_law_pool (hr.mono (by decide)) tk_def (pa_cons (pv 0) pa_nil)))
    (pss_cons (ps_set (i := 2) sc_law.nd rfl (by first | exact Or.inl rfl | exact Or.inr rfl) (pe_lst (pa_cons pe_int pa_nil)))
    (pss_cons (ps_set (i := 3) sc_law.nd rfl (by first | exact Or.inl rfl | exact Or.inr rfl) (pe_op op_addU pe_int (pe_gf G_law_take (hr.mono (by decide)) tk_def (pa_cons (pv 1) (pa_cons (pv 2) (pa_cons pe_int pa_nil))))))
    (pss_cons (ps_set (i := 4) sc_law.nd rfl (by first | exact Or.inl rfl | exact Or.inr rfl) (pe_gf G_law_take (hr.mono (by decide)) tk_def (pa_cons (pv 1) (pa_cons (pv 2) (pa_cons pe_int pa_nil)))))
    (pss_cons (ps_if (pt_cmpR (op_eqK (K := K) rfl hr.units) (pe_gf G_law_take (hr.mono (by decide)) tk_def (pa_cons (pv 1) (pa_cons (pv 2) (pa_cons pe_int pa_nil)))) pe_int (nomark _))
      (pss_one (ps_set (i := 4) sc_law.nd rfl (by first | exact Or.inl rfl | exact Or.inr rfl) pe_int))
      pss_nil)
    (pss_cons (ps_set (i := 5) sc_law.nd rfl (by first | exact Or.inl rfl | exact Or.inr rfl) (pe_gf G_law_names (hr.mono (by decide)) tk_def (pa_cons (pv 1) (pa_cons (pv 2) (pa_cons (pe_op op_addU (pe_op op_addU (pv 3) (pv 4)) pe_int) pa_nil)))))
    (pss_cons (ps_set (i := 6) sc_law.nd rfl (by first | exact Or.inl rfl | exact Or.inr rfl) (pe_op op_addU (pe_lst (pa_cons pe_str pa_nil)) (pe_slice (sl_uK (K := K) rfl) (pv 5) po_none (po_some (pe_op op_addU (pv 3) (pv 4))))))
    (pss_cons (ps_set (i := 7) sc_law.nd rfl (by first | exact Or.inl rfl | exact Or.inr rfl) (pe_gf G_law_steps (hr.mono (by decide)) tk_def (pa_cons (pv 1) (pa_cons (pv 2) (pa_cons (pv 3) (pa_cons (pv 4) (pa_cons pe_int pa_nil)))))))
    (pss_cons (ps_setLc (i := 8) (own := [("_law_k", 9)]) rfl sc_law.nd rfl rfl (sw_true rfl rfl rfl (by decide +kernel)) (pi_range1 (by rfl) Z.z_range (pa_cons (pv 4) pa_nil)) (blkOk_by (own := [("_law_k", 9)]) (N := N_law) (sc := defScope s_law) (by decide +kernel)) (fun _ _ _ _ _ => (pg_name (i := 9) sc_law.nd rfl (by first | exact Or.inl rfl | exact Or.inr rfl))) (fun _ _ _ _ _ => pts_nil) (fun _ _ _ _ _ => (pe_tup (pa_cons (pe_ix (ix_seqK (K := K) rfl) (pv 6) (pe_op op_addU (pe_op op_addU pe_int (pv 3)) (pv 9)) (fun _ _ => rfl)) (pa_cons (pe_gf G_law_words (hr.mono (by decide)) tkZ (pa_cons (pe_ix (ix_seqK (K := K) rfl) (pv 7) (pv 9) (fun _ _ => rfl)) (pa_cons (pv 6) pa_nil))) pa_nil)))))
    (pss_cons (ps_setLc (i := 10) (own := [("_law_pair", 11)]) rfl sc_law.nd rfl rfl (sw_true rfl rfl rfl (by decide +kernel)) (pi_listK (K := K) rfl (pe_gf G_law_gains (hr.mono (by decide)) tk_def (pa_cons (pv 7) pa_nil))) (blkOk_by (own := [("_law_pair", 11)]) (N := N_law) (sc := defScope s_law) (by decide +kernel)) (fun _ _ _ _ _ => (pg_name (i := 11) sc_law.nd rfl (by first | exact Or.inl rfl | exact Or.inr rfl))) (fun _ _ _ _ _ => pts_nil) (fun _ _ _ _ _ => (pe_tup (pa_cons (pe_ix (ix_seqK (K := K) rfl) (pv 6) (pe_ix (ix_seqK (K := K) rfl) (pv 11) pe_int (fun _ _ => rfl)) (fun _ _ => rfl)) (pa_cons (pe_ix (ix_seqK (K := K) rfl) (pv 6) (pe_ix (ix_seqK (K := K) rfl) (pv 11) pe_int (fun _ _ => rfl)) (fun _ _ => rfl)) pa_nil)))))
    (pss_cons (ps_set (i := 12) sc_law.nd rfl (by first | exact Or.inl rfl | exact Or.inr rfl) (pe_slice (sl_uK (K := K) rfl) (pv 5) po_none (po_some (pv 3))))
    (pss_cons (ps_set (i := 13) sc_law.nd rfl (by first | exact Or.inl rfl | exact Or.inr rfl) (pe_callTy (call_listK (K := K) rfl) (by rfl) Z.z_list (by decide +kernel) (pa_cons (pv 12) pa_nil)))
    (pss_cons (ps_set (i := 14) sc_law.nd rfl (by first | exact Or.inl rfl | exact Or.inr rfl) (pe_callTy (call_listK (K := K) rfl) (by rfl) Z.z_list (by decide +kernel) (pa_cons (pv 8) pa_nil)))
    (pss_cons (ps_set (i := 15) sc_law.nd rfl (by first | exact Or.inl rfl | exact Or.inr rfl) (pe_gc C_Script (hr.mono (by decide)) tk_def (pa_cons (pv 13) (pa_cons (pv 14) pa_nil))))
    (pss_cons (ps_if (PW.pt (pw_or (pt_cmpR (op_neK (K := K) rfl hr.units) (pv 13) (pv 12) (nomark _)) (pw_or (pt_cmpR (op_neK (K := K) rfl hr.units) (pv 14) (pv 8) (nomark _)) (pw_or1 (pt_not (pt_trK (K := K) rfl (pe_gf G_law_shows (hr.mono (by decide)) tk_def (pa_cons (pv 15) (pa_cons (pv 12) (pa_cons (pv 8) (pa_cons (pv 10) pa_nil)))))))))))
      (pss_one (ps_ret pe_bl))
      pss_nil)
    (pss_cons (ps_expr (pe_bmK (K := K) rfl PySem.F.plainAttrs_list PySem.F.slot_list_append PySem.F.type_list_append mt_append (pv 13) (pa_cons (pe_ix (ix_seqK (K := K) rfl) (pv 5) (pe_un un_neg pe_int) (fun _ _ => rfl)) pa_nil)))
    (pss_cons (ps_expr (pe_bm0K (K := K) rfl PySem.F.plainAttrs_list PySem.F.slot_list_clear PySem.F.type_list_clear mt_clear (pv 14)))
    (pss_cons (ps_set (i := 16) sc_law.nd rfl (by first | exact Or.inl rfl | exact Or.inr rfl) (pe_gp P_Script_steps (hr.mono (by decide)) (pv 15)))
    (pss_cons (ps_expr (pe_bm0K (K := K) rfl PySem.F.plainAttrs_list PySem.F.slot_list_clear PySem.F.type_list_clear mt_clear (pv 16)))
    (pss_cons (ps_set (i := 16) sc_law.nd rfl (by first | exact Or.inl rfl | exact Or.inr rfl) (pe_gp P_Script_names (hr.mono (by decide)) (pv 15)))
    (pss_cons (ps_expr (pe_bm0K (K := K) rfl PySem.F.plainAttrs_list PySem.F.slot_list_clear PySem.F.type_list_clear mt_clear (pv 16)))
    (pss_cons (ps_set (i := 16) sc_law.nd rfl (by first | exact Or.inl rfl | exact Or.inr rfl) (pe_gm0 M_Script_gains (hr.mono (by decide)) tk_def (pv 15)))
    (pss_cons (ps_expr (pe_bm0K (K := K) rfl PySem.F.plainAttrs_list PySem.F.slot_list_clear PySem.F.type_list_clear mt_clear (pv 16)))
    (pss_cons (ps_set (i := 17) sc_law.nd rfl (by first | exact Or.inl rfl | exact Or.inr rfl) (pe_tup (pa_cons (pv 12) (pa_cons (pv 8) pa_nil))))
    (pss_cons (ps_for po_def rfl (pi_range1 (by rfl) Z.z_range (pa_cons (pe_gf G_law_take (hr.mono (by decide)) tk_def (pa_cons (pv 1) (pa_cons (pv 2) (pa_cons pe_int pa_nil)))) pa_nil)) (pg_name (i := 18) sc_law.nd rfl (by first | exact Or.inl rfl | exact Or.inr rfl))
      (pss_one (ps_set (i := 17) sc_law.nd rfl (by first | exact Or.inl rfl | exact Or.inr rfl) (pe_gf G_law_spoil (hr.mono (by decide)) tk_def (pa_cons (pv 1) (pa_cons (pv 2) (pa_cons (pe_ix (ix_seqK (K := K) rfl) (pv 17) pe_int (fun _ _ => rfl)) (pa_cons (pe_ix (ix_seqK (K := K) rfl) (pv 17) pe_int (fun _ _ => rfl)) (pa_cons (pe_ix (ix_seqK (K := K) rfl) (pv 5) (pe_un un_neg pe_int) (fun _ _ => rfl)) pa_nil)))))))))
    (pss_cons (ps_set (i := 19) sc_law.nd rfl (by first | exact Or.inl rfl | exact Or.inr rfl) (pe_gf G_law_due (hr.mono (by decide)) tk_def (pa_cons (pe_ix (ix_seqK (K := K) rfl) (pv 17) pe_int (fun _ _ => rfl)) (pa_cons (pe_ix (ix_seqK (K := K) rfl) (pv 17) pe_int (fun _ _ => rfl)) pa_nil))))
    (pss_cons (ps_if (pt_not (pt_trK (K := K) rfl (pe_gf G_law_parts_right (hr.mono (by decide)) tk_def (pa_cons (pe_ix (ix_seqK (K := K) rfl) (pv 17) pe_int (fun _ _ => rfl)) pa_nil))))
      (pss_one (ps_ret pe_bl))
      pss_nil)
    (pss_cons (ps_if (pt_cmpR (op_neK (K := K) rfl hr.units) (pe_gf G_law_refused (hr.mono (by decide)) tk_def (pa_cons (pe_callTy (call_listK (K := K) rfl) (by rfl) Z.z_list (by decide +kernel) (pa_cons (pe_ix (ix_seqK (K := K) rfl) (pv 17) pe_int (fun _ _ => rfl)) pa_nil)) (pa_cons (pe_callTy (call_listK (K := K) rfl) (by rfl) Z.z_list (by decide +kernel) (pa_cons (pe_ix (ix_seqK (K := K) rfl) (pv 17) pe_int (fun _ _ => rfl)) pa_nil)) pa_nil))) (pv 19) (nomark _))
      (pss_one (ps_ret pe_bl))
      pss_nil)
    (pss_cons (ps_if (PW.pt (pw_or (pt_not (pt_trK (K := K) rfl (pe_gf G_law_shows (hr.mono (by decide)) tk_def (pa_cons (pv 15) (pa_cons (pv 12) (pa_cons (pv 8) (pa_cons (pv 10) pa_nil))))))) (pw_or1 (pt_cmpR (op_neK (K := K) rfl hr.units) (pe_gf G_law_refused (hr.mono (by decide)) tk_def (pa_cons (pe_callTy (call_listK (K := K) rfl) (by rfl) Z.z_list (by decide +kernel) (pa_cons (pe_ix (ix_seqK (K := K) rfl) (pv 17) pe_int (fun _ _ => rfl)) pa_nil)) (pa_cons (pe_callTy (call_listK (K := K) rfl) (by rfl) Z.z_list (by decide +kernel) (pa_cons (pe_ix (ix_seqK (K := K) rfl) (pv 17) pe_int (fun _ _ => rfl)) pa_nil)) pa_nil))) (pv 19) (nomark _)))))
      (pss_one (ps_ret pe_bl))
      pss_nil)
    (pss_cons (ps_set (i := 12) sc_law.nd rfl (by first | exact Or.inl rfl | exact Or.inr rfl) (pe_gf G_law_form_names (hr.mono (by decide)) tk_def (pa_cons (pe_gf G_law_take (hr.mono (by decide)) tk_def (pa_cons (pv 1) (pa_cons (pv 2) (pa_cons pe_int pa_nil)))) pa_nil)))
    (pss_cons (ps_set (i := 6) sc_law.nd rfl (by first | exact Or.inl rfl | exact Or.inr rfl) (pe_op op_addU (pe_lst (pa_cons pe_str pa_nil)) (pv 12)))
    (pss_cons (ps_setLc (i := 8) (own := [("_law_k", 9)]) rfl sc_law.nd rfl rfl (sw_true rfl rfl rfl (by decide +kernel)) (pi_range1 (by rfl) Z.z_range (pa_cons (pv 4) pa_nil)) (blkOk_by (own := [("_law_k", 9)]) (N := N_law) (sc := defScope s_law) (by decide +kernel)) (fun _ _ _ _ _ => (pg_name (i := 9) sc_law.nd rfl (by first | exact Or.inl rfl | exact Or.inr rfl))) (fun _ _ _ _ _ => pts_nil) (fun _ _ _ _ _ => (pe_tup (pa_cons (pe_ix (ix_seqK (K := K) rfl) (pv 6) (pe_op op_addU (pe_op op_addU pe_int (pv 3)) (pv 9)) (fun _ _ => rfl)) (pa_cons (pe_gf G_law_words (hr.mono (by decide)) tkZ (pa_cons (pe_ix (ix_seqK (K := K) rfl) (pv 7) (pv 9) (fun _ _ => rfl)) (pa_cons (pv 6) pa_nil))) pa_nil)))))
    (pss_cons (ps_setLc (i := 10) (own := [("_law_pair", 11)]) rfl sc_law.nd rfl rfl (sw_true rfl rfl rfl (by decide +kernel)) (pi_listK (K := K) rfl (pe_gf G_law_gains (hr.mono (by decide)) tk_def (pa_cons (pv 7) pa_nil))) (blkOk_by (own := [("_law_pair", 11)]) (N := N_law) (sc := defScope s_law) (by decide +kernel)) (fun _ _ _ _ _ => (pg_name (i := 11) sc_law.nd rfl (by first | exact Or.inl rfl | exact Or.inr rfl))) (fun _ _ _ _ _ => pts_nil) (fun _ _ _ _ _ => (pe_tup (pa_cons (pe_ix (ix_seqK (K := K) rfl) (pv 6) (pe_ix (ix_seqK (K := K) rfl) (pv 11) pe_int (fun _ _ => rfl)) (fun _ _ => rfl)) (pa_cons (pe_ix (ix_seqK (K := K) rfl) (pv 6) (pe_ix (ix_seqK (K := K) rfl) (pv 11) pe_int (fun _ _ => rfl)) (fun _ _ => rfl)) pa_nil)))))
    (pss_one (ps_ret (pe_gf G_law_shows (hr.mono (by decide)) tk_def (pa_cons (pe_gc C_Script (hr.mono (by decide)) tk_def (pa_cons (pe_slice (sl_uK (K := K) rfl) (pv 12) po_none (po_some (pv 3))) (pa_cons (pv 8) pa_nil))) (pa_cons (pe_slice (sl_uK (K := K) rfl) (pv 12) po_none (po_some (pv 3))) (pa_cons (pv 8) (pa_cons (pv 10) pa_nil)))))))))))))))))))))))))))))))))))))))), fun ds μ Pd X h => ?_⟩
  · obtain ⟨ns, rfl, _⟩ := h; rfl
  · obtain ⟨ns, rfl, hns, hp⟩ := h
    show Ws K (wOf E) _ [some (.sq (intsD ns)), none, none, none, none, none, none, none, none, none, none, none, none, none, none, none, none, none, none, none] μ _
    have sl : ∀ n, n ≤ 100000 → n ≤ sizeLine := fun n h => Nat.le_of_lt (szl n h)
    walk_at "w"
    refine ⟨ns, rfl, hns, fun zs hz hzl => ?_⟩
    refine ws_seq (ws_set (we_lstM ?_))
    walk_at "w"
    refine ⟨sl 1 (by decide), fun a ha0 => ?_⟩
    have done : ∀ {n : Int} {M : Mu}, SubM (um μ a (.lst [.int n])) M → (retE Pd X).rt (.bl true) M := fun {n M} h => ⟨μ, (SubM.um ha0).trans h, hp⟩
    walk_at "w"
    refine ⟨zs, a, 0, 5, rfl, hz, by decide, um_same, fun r n1 h0 h1 => ?_⟩
    obtain ⟨i0, rfl⟩ := Int.eq_ofNat_of_zero_le h0
    rw [um_um]
    walk_at "w"
    refine ⟨zs, a, n1, 9, rfl, hz, by decide, um_same, fun r n2 h2 h3 => ?_⟩
    obtain ⟨m0, rfl⟩ := Int.eq_ofNat_of_zero_le h2
    rw [um_um]
    obtain ⟨inp, hinp⟩ : ∃ inp, inp = 1 + i0 := ⟨_, rfl⟩
    rw [show (1 : Int) + (i0 : Int) = (inp : Int) by omega]
    have hi5 : inp ≤ 5 := by omega
    have hi1 : 1 ≤ inp := by omega
    let Γ0 : Nat → Gm := fun many => [some (.sq (intsD ns)), some (.lst (intsD zs)), some (.ref a), some (.int (inp : Int)), some (.int (many : Int)), none, none, none, none, none, none, none, none, none, none, none, none, none, none, none]
    refine ws_seq (Ws.nxi (P := fun Γ' μ' => ∃ (many : Nat) (n' : Int), many ≤ 12 ∧ Γ' = Γ0 many ∧ μ' = um μ a (.lst [.int n'])) ?_ ?_)
    · walk_at "w"
      refine ⟨zs, a, n2, 8, rfl, hz, by decide, um_same, fun r n3 _ _ => ?_⟩
      rw [um_um]
      walk_at "w"
      refine iteD (fun _ => ?_) (fun _ => ?_)
      · walk_at "w"
        exact ⟨12, n3, by decide, rfl, rfl⟩
      · walk_at "w"
        exact ⟨m0, n3, by omega, rfl, rfl⟩
    clear h0 h1 h2 h3 hinp n1 n2 m0 i0
    rintro Γ' μ' ⟨many, n1, hm12, rfl, rfl⟩
    show Ws K (wOf E) _ (Γ0 many) _ _
    walk_at "w"
    refine ⟨zs, a, n1, inp + many + 1, by rw [Int.natCast_add, Int.natCast_add]; rfl, hz, um_same, by omega, fun named n2 hnl hnd hni hnn => ?_⟩
    rw [um_um]
    -- none and the names
    walk_at "w"
    refine we_lst ?_
    walk_at "w"
    refine ⟨sl 1 (by decide), ?_⟩
    walk_at "w"
    rw [show (inp : Int) + (many : Int) = ((inp + many : Nat) : Int) by omega, cut_strs]
    refine dAdd_ll (sl _ (by rw [List.length_map, List.length_take]; show 1 + _ ≤ _; omega)) ?_
    obtain ⟨known, hkn⟩ : ∃ known : List Str, known = tNONE :: named.take (inp + many) := ⟨_, rfl⟩
    have ekn : ([Nm.D.str "none"] : List Nm.D) ++ strsD (named.take (inp + many)) = strsD known := by rw [hkn]; rfl
    have hkl : known.length = 1 + inp + many := by rw [hkn, List.length_cons, List.length_take]; omega
    have hK : Kn known := by
      refine ⟨⟨_, hkn⟩, ?_, ?_⟩
      · rw [hkn]
        exact List.nodup_cons.mpr ⟨fun h => hnn (List.mem_of_mem_take h), hnd.sublist (List.take_sublist _ _)⟩
      · rw [hkn]
        intro x hx
        rcases List.mem_cons.mp hx with rfl | hx
        · decide +kernel
        · exact hni x (List.mem_of_mem_take hx)
    rw [ekn]
    -- the steps
    walk_at "w"
    refine ⟨zs, a, n2, inp, many, 99, rfl, hz, um_same, by omega, by omega, fun ss n3 hsl hok _ => ?_⟩
    rw [um_um]
    -- the rows and the pairs, for any such names
    have rowsW : ∀ {Γ : Gm} {M : Mu} {kn : List Str} {Pq : PD} {Xq : XD}, Kn kn → 1 + inp + ss.length ≤ kn.length → Γ[3]? = some (some (.int (inp : Int))) → Γ[4]? = some (some (.int (many : Int))) → Γ[6]? = some (some (.lst (strsD kn))) → Γ[7]? = some (some (.lst (stpsD ss))) → Γ.length = 20 → Pq (.lst (pairsD (rowsL kn inp ss))) M → True := fun _ _ _ _ _ _ _ _ => trivial
    clear rowsW
    have stD : ∀ {k : Nat}, k < many → (stpsD ss)[k]? = some (stpD (ss.getD k stp0)) := fun {k} h => by rw [List.getElem?_map, stp_at (by omega)]; rfl
    have hlK : 1 + inp + ss.length ≤ known.length := by omega
    let Γ1 : D → D → Option D → D → Option D → Option D → Option D → Option D → Option D → Option D → Option D → Option D → Gm := fun g6 g8 g9 g10 g11 g12 g13 g14 g15 g16 g17 g18 => [some (.sq (intsD ns)), some (.lst (intsD zs)), some (.ref a), some (.int (inp : Int)), some (.int (many : Int)), some (.lst (strsD named)), some g6, some (.lst (stpsD ss)), some g8, g9, some g10, g11, g12, g13, g14, g15, g16, g17, g18, none]
    refine ws_seq (ws_set ?_)
    refine we_lcF (own_name (by simp)) (List.range many) (fun k => .int (k : Int)) (fun _ => true) (fun k => pairD (rowL known inp k (ss.getD k stp0))) (szl _ (by rw [List.length_range]; omega)) ?_ ?_ ?_
    · walk_at "w"
      exact ⟨by omega, rfl, rfl⟩
    · rintro i k hk
      rcases Nat.lt_or_ge i many with q | q
      · rw [List.getElem?_range q] at hk
        obtain rfl := Option.some.inj hk
        obtain ⟨h6, hsa, hsb, hsc⟩ := okS_lt hok hlK _ (List.mem_of_getElem? (stp_at (show i < ss.length by omega)))
        walk_at "w"
        rw [show (1 : Int) + (inp : Int) + (i : Int) = ((1 + inp + i : Nat) : Int) by omega]
        refine dIx_l (atI_nat (strsD_get (nmK_get (show 1 + inp + i < known.length by omega)))) ?_
        walk_at "w"
        refine dIx_l (atI_nat (stD q)) ?_
        walk_at "w"
        have hb : ∀ {j}, j < known.length → (nmK known j).length ≤ 1000 := fun h => Nat.le_trans (name_len (hK.nm _ (nmK_mem h))) (by decide)
        refine ⟨_, known, _, _, _, rfl, nmK_get hsa, nmK_get hsb, nmK_get hsc, hb hsa, hb hsb, hb hsc, ?_⟩
        walk_at "w"
        exact ⟨sl 2 (by decide), rfl, rfl, rfl⟩
      · rw [List.getElem?_eq_none (by rw [List.length_range]; exact q)] at hk
        cases hk
    have erows : ((List.range many).filter fun _ => true).map (fun k => pairD (rowL known inp k (ss.getD k stp0))) = pairsD (rowsL known inp ss) := by
      rw [List.filter_eq_self.mpr fun _ _ => rfl]
      unfold rowsL
      rw [hsl]
      show _ = List.map pairD (List.map _ _)
      rw [List.map_map]
      rfl
    rw [erows]
    obtain ⟨rows, hrows⟩ : ∃ rows, rows = rowsL known inp ss := ⟨_, rfl⟩
    rw [← hrows]
    have hgains : gainsOf rows = (lgains ss).map (nmP known) := by rw [hrows]; exact rowsL_gains hK hlK hok
    have hlt := lgains_lt hok hlK
    -- the pairs
    refine ws_seq (ws_set ?_)
    refine we_lcF (own_name (by simp)) (lgains ss) ipD (fun _ => true) (fun p => pairD (nmP known p)) (szl _ (by have := lgains_len ss; omega)) ?_ ?_ ?_
    · walk_at "w"
      refine ⟨ss, rfl, by omega, ?_⟩
      exact ⟨_, .inl rfl, rfl, rfl⟩
    · rintro i p hpp
      obtain ⟨h1, h2⟩ := hlt p (List.mem_of_getElem? hpp)
      walk_at "w"
      refine dIx_t (atI_nat (j := 0) (show ([.int (p.1 : Int), .int (p.2 : Int)] : List Nm.D)[0]? = some (.int (p.1 : Int)) from rfl)) ?_
      refine dIx_l (atI_nat (strsD_get (nmK_get h1))) ?_
      walk_at "w"
      refine dIx_t (atI_nat (j := 1) (show ([.int (p.1 : Int), .int (p.2 : Int)] : List Nm.D)[1]? = some (.int (p.2 : Int)) from rfl)) ?_
      refine dIx_l (atI_nat (strsD_get (nmK_get h2))) ?_
      walk_at "w"
      exact ⟨sl 2 (by decide), rfl, rfl, rfl⟩
    have epairs : ((lgains ss).filter fun _ => true).map (fun p => pairD (nmP known p)) = pairsD (gainsOf rows) := by
      rw [List.filter_eq_self.mpr fun _ _ => rfl, hgains]
      show _ = List.map pairD (List.map _ _)
      rw [List.map_map]
      rfl
    rw [epairs]
    -- the names
    walk_at "w"
    rw [cut_strs]
    obtain ⟨names, hnames⟩ : ∃ names, names = named.take inp := ⟨_, rfl⟩
    rw [← hnames]
    have hnames2 : names = (known.drop 1).take inp := by
      rw [hnames, hkn]
      show named.take inp = (named.take (inp + many)).take inp
      rw [List.take_take, Nat.min_eq_left (by omega)]
    have hnl2 : names.length = inp := by rw [hnames, List.length_take]; omega
    have hni2 : ∀ x ∈ names, isName x = true := fun x hx => hni x (by rw [hnames] at hx; exact List.mem_of_mem_take hx)
    have hrl2 : rows.length = many := by rw [hrows, rowsL_len]; exact hsl
    have hrok := rowsL_ok hK hlK hok
    rw [← hrows] at hrok
    have hscr : scrFault names rows = none := by rw [hnames2, hrows]; exact scr_none hK hlK hok
    have npl : Pl 8 (.lst (strsD names)) := pl_strs fun x hx => isName_so (hni2 x hx)
    have rpl : Pl 8 (.lst (pairsD rows)) := pl_pairs fun r hr => ⟨isName_so (hrok r hr).2.1, (hrok r hr).2.2.2.1.ok⟩
    have l8 : ∀ x ∈ names, x.length ≤ 90000 := fun x hx => Nat.le_trans (name_len (hni2 x hx)) (by decide)
    have lr : ∀ s ∈ rows, s.1.length ≤ 90000 ∧ s.2.length ≤ 90000 := fun s hs => ⟨Nat.le_trans (name_len (hrok s hs).2.1) (by decide), Nat.le_trans (hrok s hs).2.2.1 (by decide)⟩
    have showsR : ∀ s ∈ rows, (fitK (kindS s.2) (partS s.2) ∧ ∀ q ∈ pairsS s, okP q) ∧ PyData.strOk s.1 = true ∧ s.2.length ≤ 90000 ∧ PyData.strOk s.2 = true ∧ ∃ ps, partsOf s.2 = some ps ∧ ps.length ≤ 1000 := fun s hs => by
      obtain ⟨h1, h2, h3, h4, _, ps, h5, h6⟩ := hrok s hs
      exact ⟨h1, isName_so h2, Nat.le_trans h3 (by decide), h4.ok, ps, h5, Nat.le_trans h6 (by decide)⟩
    -- lists that are handed over
    refine we_cb cbS_listM ?_
    walk_at "w"
    refine dListM_l fun gl hgl0 => ?_
    refine ws_seq (ws_set (we_cb cbS_listM ?_))
    walk_at "w"
    refine dListM_l fun sg hsg0 => ?_
    have gs : gl ≠ sg := mu_ne um_same hsg0
    have agl : a ≠ gl := mu_ne um_same hgl0
    obtain ⟨Ma, hMa⟩ : ∃ Ma, Ma = um μ a (.lst [.int n3]) := ⟨_, rfl⟩
    rw [← hMa] at hgl0 hsg0 ⊢
    have hsg1 : Ma sg = none := by rw [um_ne (Ne.symm gs)] at hsg0; exact hsg0
    let M2 : List Nm.D → List Nm.D → Mu := fun x y => um (um Ma gl (.lst x)) sg (.lst y)
    have M2g : ∀ x y, M2 x y gl = some (.lst x) := fun x y => by show um _ sg _ gl = _; rw [um_ne gs]; exact um_same
    have M2s : ∀ x y, M2 x y sg = some (.lst y) := fun x y => um_same
    have M2g' : ∀ x y x', um (M2 x y) gl (.lst x') = M2 x' y := fun x y x' => um_swap (Ne.symm gs)
    have M2s' : ∀ x y y', um (M2 x y) sg (.lst y') = M2 x y' := fun x y y' => um_um
    have M2sub : ∀ x y, SubM Ma (M2 x y) := fun x y => (SubM.um hgl0).trans (SubM.um (by rw [um_ne (Ne.symm gs)]; exact hsg1))
    let Γ2 : Option Nm.D → Option Nm.D → Option Nm.D → Option Nm.D → Option Nm.D → Option Nm.D → Option Nm.D → Gm := fun g13 g14 g15 g16 g17 g18 g19 => [some (.sq (intsD ns)), some (.lst (intsD zs)), some (.ref a), some (.int (inp : Int)), some (.int (many : Int)), some (.lst (strsD named)), some (.lst (strsD known)), some (.lst (stpsD ss)), some (.lst (pairsD rows)), none, some (.lst (pairsD (gainsOf rows))), none, some (.lst (strsD names)), g13, g14, g15, g16, g17, g18, g19]
    show Ws K (wOf E) _ (Γ2 (some (.ref gl)) (some (.ref sg)) none none none none none) (M2 (strsD names) (pairsD rows)) _
    -- the script
    refine ws_seq (ws_set (we_script ?_))
    walk_at "w"
    refine ⟨_, _, names, rows, rfl, M2g _ _, M2s _ _, by omega, by omega, l8, lr, hscr, fun x => ?_⟩
    obtain ⟨made, hmade⟩ : ∃ made, made = Nm.D.ins x (cS K) nsS (sfs names rows) := ⟨_, rfl⟩
    have sc : ∀ M, ScD K M made names rows := fun M => by rw [hmade]; exact scD_ins
    have isS : ∀ M, ob M made fun _ k _ _ => k = cS K := fun M => (sc M).use fun _ => rfl
    have isG : ∀ M, ob M made fun _ k ns _ => k = cS K ∧ ("gains" : Str) ∉ ns := fun M => (sc M).use fun _ => ⟨rfl, by decide +kernel⟩
    rw [← hmade]
    show Ws K (wOf E) _ (Γ2 (some (.ref gl)) (some (.ref sg)) (some made) none none none none) (M2 (strsD names) (pairsD rows)) _
    walk_at "w"
    refine dEq_trl (M2g _ _) npl npl ?_
    rw [deqL_same npl]
    walk_at "w"
    refine dEq_trl (M2s _ _) rpl rpl ?_
    rw [deqL_same rpl]
    walk_at "w"
    refine ⟨made, names, rows, rfl, sc _, by omega, by omega, showsR, ?_⟩
    walk_at "w"
    -- lists are changed
    obtain ⟨nm1, last, hlast⟩ := (List.eq_nil_or_concat named).resolve_left (List.ne_nil_of_length_pos (by omega))
    rw [List.concat_eq_append] at hlast
    have hlm : last ∈ named := by rw [hlast]; simp
    have elast : strsD named = strsD nm1 ++ [.str last] := by rw [hlast]; exact List.map_append ..
    refine ty_r (M2g _ _) ?_
    walk_at "w"
    refine dIx_l (d := .str last) (by rw [elast]; exact atI_last) ?_
    walk_at "w"
    refine dApp (M2g (strsD names) (pairsD rows)) (szl _ (by rw [List.length_map]; omega)) ?_
    rw [M2g']
    walk_at "w"
    refine ⟨_, M2s _ _, ?_⟩
    rw [M2s']
    -- from here on these lists are no longer looked at
    refine ws_sub (subG_set _ 13) (M2sub _ _) (ws_sub (subG_set _ 14) (SubM.refl _) ?_)
    show Ws K (wOf E) _ (Γ2 none none (some made) none none none none) Ma _
    -- returned lists are changed
    refine ws_seq (ws_set (we_prop ?_))
    walk_at "w"
    refine ⟨isS _, made, names, rows, rfl, sc _, by omega, fun p hp0 => ?_⟩
    walk_at "w"
    refine ⟨_, um_same, ?_⟩
    rw [um_um]
    refine ws_sub (subG_set _ 16) (SubM.um hp0) ?_
    show Ws K (wOf E) _ (Γ2 none none (some made) none none none none) Ma _
    refine ws_seq (ws_set (we_prop ?_))
    walk_at "w"
    refine ⟨isS _, made, names, rows, rfl, sc _, fun p hp0 => ?_⟩
    walk_at "w"
    refine ⟨_, um_same, ?_⟩
    rw [um_um]
    refine ws_sub (subG_set _ 16) (SubM.um hp0) ?_
    show Ws K (wOf E) _ (Γ2 none none (some made) none none none none) Ma _
    refine ws_seq (ws_set (we_meth (dds := []) (fun _ => HasL.nil) ?_))
    walk_at "w"
    refine ⟨isG _, ?_⟩
    walk_at "w"
    refine ⟨made, names, rows, rfl, sc _, by omega, fun s hs => (showsR s hs).1, fun p hp0 => ?_⟩
    walk_at "w"
    refine ⟨_, um_same, ?_⟩
    rw [um_um]
    refine ws_sub (subG_set _ 16) (SubM.um hp0) ?_
    show Ws K (wOf E) _ (Γ2 none none (some made) none none none none) Ma _
    rw [hMa]
    -- the changes
    walk_at "w"
    refine ⟨sl 2 (by decide), ?_⟩
    walk_at "w"
    refine ⟨zs, a, n3, 3, rfl, hz, by decide, um_same, fun r n4 h4 h5 => ?_⟩
    obtain ⟨turns, rfl⟩ := Int.eq_ofNat_of_zero_le h4
    rw [um_um]
    walk_at "w"
    refine ⟨by omega, ?_⟩
    refine ⟨fun i Γ' μ' => ∃ (ns' : List Str) (rs' : List (Str × Str)) (n' : Int) (g18 : Option Nm.D), Γ' = Γ2 none none (some made) none (some (.tup [.lst (strsD ns'), .lst (pairsD rs')])) g18 none ∧ μ' = um μ a (.lst [.int n']) ∧ ns'.length = inp ∧ rs'.length = many ∧ (∀ x ∈ ns', GoodN 100 x) ∧ ∀ r ∈ rs', GoodN 100 r.1 ∧ GoodN (54 + 300 * i) r.2,
      ⟨names, rows, n4, none, rfl, rfl, hnl2, hrl2, fun x hx => ⟨Nat.le_trans (name_len (hni2 x hx)) (by decide), asc_name (hni2 x hx)⟩, fun r hr => ⟨⟨Nat.le_trans (name_len (hrok r hr).2.1) (by decide), asc_name (hrok r hr).2.1⟩, (hrok r hr).2.2.1, (hrok r hr).2.2.2.2.1⟩⟩, ?_, ?_⟩
    · rintro i d Γ' μ' hi ⟨ns', rs', n', g18, rfl, rfl, h6, h7, h8, h9⟩
      obtain ⟨hi1, rfl⟩ := rng0_get hi
      have hd0 : atI ([.lst (strsD ns'), .lst (pairsD rs')] : List Nm.D) 0 = some (.lst (strsD ns')) := atI_nat (j := 0) rfl
      have hd1 : atI ([.lst (strsD ns'), .lst (pairsD rs')] : List Nm.D) 1 = some (.lst (pairsD rs')) := atI_nat (j := 1) rfl
      walk_at "w"
      refine dIx_t hd0 ?_
      walk_at "w"
      refine dIx_t hd1 ?_
      walk_at "w"
      refine dIx_l (d := .str last) (by rw [elast]; exact atI_last) ?_
      walk_at "w"
      refine ⟨zs, a, n', ns', rs', last, 54 + 300 * i, rfl, hz, um_same, List.ne_nil_of_length_pos (by omega), by omega, by omega, by omega, h8, h9, ⟨Nat.le_trans (name_len (hni last hlm)) (by decide), asc_name (hni last hlm)⟩, fun ns2 rs2 n5 k1 k2 k3 k4 => ?_⟩
      rw [um_um]
      exact Fo.of ⟨ns2, rs2, n5, _, rfl, rfl, by omega, by omega, k3, k4⟩
    · rintro Γ' μ' ⟨ns', rs', n', g18, rfl, rfl, h6, h7, h8, h9⟩
      rw [rng0_length] at h9
      have hd0 : atI ([.lst (strsD ns'), .lst (pairsD rs')] : List Nm.D) 0 = some (.lst (strsD ns')) := atI_nat (j := 0) rfl
      have hd1 : atI ([.lst (strsD ns'), .lst (pairsD rs')] : List Nm.D) 1 = some (.lst (pairsD rs')) := atI_nat (j := 1) rfl
      have k8 : ∀ x ∈ ns', x.length ≤ 90000 ∧ PyData.strOk x = true := fun x hx => ⟨Nat.le_trans (h8 x hx).1 (by decide), (h8 x hx).2.ok⟩
      have k9 : ∀ r ∈ rs', (r.1.length ≤ 90000 ∧ PyData.strOk r.1 = true) ∧ r.2.length ≤ 90000 ∧ PyData.strOk r.2 = true := fun r hr => ⟨⟨Nat.le_trans (h9 r hr).1.1 (by decide), (h9 r hr).1.2.ok⟩, Nat.le_trans (h9 r hr).2.1 (by omega), (h9 r hr).2.2.ok⟩
      have dpl : Pl 8 (.tup (dueL (scrFault ns' rs'))) := dueL_pl fun q hq => scr_so hq (fun x hx => (k8 x hx).2) fun r hr => ⟨(k9 r hr).1.2, (k9 r hr).2.2⟩
      walk_at "w"
      refine dIx_t hd0 ?_
      walk_at "w"
      refine dIx_t hd1 ?_
      walk_at "w"
      refine ⟨ns', rs', rfl, by omega, by omega, fun x hx => (k8 x hx).1, fun r hr => ⟨(k9 r hr).1.1, (k9 r hr).2⟩, ?_⟩
      rw [dueD_eq]
      show Ws K (wOf E) _ (Γ2 none none (some made) none (some (.tup [.lst (strsD ns'), .lst (pairsD rs')])) g18 (some (.tup (dueL (scrFault ns' rs'))))) _ _
      walk_at "w"
      refine dIx_t hd1 ?_
      walk_at "w"
      refine ⟨rs', rfl, by omega, fun r hr => (k9 r hr).2, ?_⟩
      have ref : ∀ {M : Mu} {Pq : PD}, Pq (.bl (!deqL (dueL (scrFault ns' rs')) (dueL (scrFault ns' rs')))) M → dEq true (.tup (dueL (scrFault ns' rs'))) (.tup (dueL (scrFault ns' rs'))) M Pq := fun h => dEq_tt dpl dpl h
      walk_at "w"
      refine we_cb cbS_list ?_
      walk_at "w"
      refine dIx_t hd0 ?_
      walk_at "w"
      refine we_cb cbS_list ?_
      walk_at "w"
      refine dIx_t hd1 ?_
      walk_at "w"
      refine ⟨ns', rs', rfl, by omega, by omega, k8, k9, ?_⟩
      rw [dueD_eq]
      walk_at "w"
      refine ref ?_
      rw [deqL_sameT dpl]
      walk_at "w"
      refine ⟨made, names, rows, rfl, sc _, by omega, by omega, showsR, ?_⟩
      walk_at "w"
      refine we_cb cbS_list ?_
      walk_at "w"
      refine dIx_t hd0 ?_
      walk_at "w"
      refine we_cb cbS_list ?_
      walk_at "w"
      refine dIx_t hd1 ?_
      walk_at "w"
      refine ⟨ns', rs', rfl, by omega, by omega, k8, k9, ?_⟩
      rw [dueD_eq]
      walk_at "w"
      refine ref ?_
      rw [deqL_sameT dpl]
      walk_at "w"
      -- the same steps under names such as over
      refine ⟨zs, a, n', 18, rfl, hz, by decide, um_same, fun r n5 k1 k2 => ?_⟩
      obtain ⟨t, rfl⟩ := Int.eq_ofNat_of_zero_le k1
      rw [um_um]
      walk_at "w"
      refine ⟨t, rfl, ?_⟩
      walk_at "w"
      refine we_lst ?_
      walk_at "w"
      refine ⟨sl 1 (by decide), ?_⟩
      have h18 : (strsD (rotL t)).length = 18 := (List.length_map ..).trans (rotL_len t)
      walk_at "w"
      refine dAdd_ll (sl _ (by rw [h18]; decide)) ?_
      obtain ⟨kn2, hkn2⟩ : ∃ kn2 : List Str, kn2 = tNONE :: rotL t := ⟨_, rfl⟩
      have ekn2 : ([Nm.D.str "none"] : List Nm.D) ++ strsD (rotL t) = strsD kn2 := by rw [hkn2]; rfl
      have hkl2 : kn2.length = 19 := by rw [hkn2, List.length_cons, rotL_len]
      have hK2 : Kn kn2 := by
        obtain ⟨q1, q2, q3⟩ := rotL_ok (t := t)
        refine ⟨⟨_, hkn2⟩, ?_, ?_⟩
        · rw [hkn2]
          exact List.nodup_cons.mpr ⟨q3, q2⟩
        · rw [hkn2]
          intro x hx
          rcases List.mem_cons.mp hx with rfl | hx
          · decide +kernel
          · exact q1 x hx
      rw [ekn2]
      have hlK2 : 1 + inp + ss.length ≤ kn2.length := by omega
      refine ws_seq (ws_set ?_)
      refine we_lcF (own_name (by simp)) (List.range many) (fun k => .int (k : Int)) (fun _ => true) (fun k => pairD (rowL kn2 inp k (ss.getD k stp0))) (szl _ (by rw [List.length_range]; omega)) ?_ ?_ ?_
      · walk_at "w"
        exact ⟨by omega, rfl, rfl⟩
      · rintro i k hk
        rcases Nat.lt_or_ge i many with q | q
        · rw [List.getElem?_range q] at hk
          obtain rfl := Option.some.inj hk
          obtain ⟨h6, hsa, hsb, hsc⟩ := okS_lt hok hlK2 _ (List.mem_of_getElem? (stp_at (show i < ss.length by omega)))
          walk_at "w"
          rw [show (1 : Int) + (inp : Int) + (i : Int) = ((1 + inp + i : Nat) : Int) by omega]
          refine dIx_l (atI_nat (strsD_get (nmK_get (show 1 + inp + i < kn2.length by omega)))) ?_
          walk_at "w"
          refine dIx_l (atI_nat (stD q)) ?_
          walk_at "w"
          have hb : ∀ {j}, j < kn2.length → (nmK kn2 j).length ≤ 1000 := fun h => Nat.le_trans (name_len (hK2.nm _ (nmK_mem h))) (by decide)
          refine ⟨_, kn2, _, _, _, rfl, nmK_get hsa, nmK_get hsb, nmK_get hsc, hb hsa, hb hsb, hb hsc, ?_⟩
          walk_at "w"
          exact ⟨sl 2 (by decide), rfl, rfl, rfl⟩
        · rw [List.getElem?_eq_none (by rw [List.length_range]; exact q)] at hk
          cases hk
      have erows2 : ((List.range many).filter fun _ => true).map (fun k => pairD (rowL kn2 inp k (ss.getD k stp0))) = pairsD (rowsL kn2 inp ss) := by
        rw [List.filter_eq_self.mpr fun _ _ => rfl]
        unfold rowsL
        rw [hsl]
        show _ = List.map pairD (List.map _ _)
        rw [List.map_map]
        rfl
      rw [erows2]
      obtain ⟨rows2, hrows2⟩ : ∃ rows2, rows2 = rowsL kn2 inp ss := ⟨_, rfl⟩
      rw [← hrows2]
      have hgains2 : gainsOf rows2 = (lgains ss).map (nmP kn2) := by rw [hrows2]; exact rowsL_gains hK2 hlK2 hok
      have hlt2 := lgains_lt hok hlK2
      refine ws_seq (ws_set ?_)
      refine we_lcF (own_name (by simp)) (lgains ss) ipD (fun _ => true) (fun p => pairD (nmP kn2 p)) (szl _ (by have := lgains_len ss; omega)) ?_ ?_ ?_
      · walk_at "w"
        refine ⟨ss, rfl, by omega, ?_⟩
        exact ⟨_, .inl rfl, rfl, rfl⟩
      · rintro i p hpp
        obtain ⟨h1, h2⟩ := hlt2 p (List.mem_of_getElem? hpp)
        walk_at "w"
        refine dIx_t (atI_nat (j := 0) (show ([.int (p.1 : Int), .int (p.2 : Int)] : List Nm.D)[0]? = some (.int (p.1 : Int)) from rfl)) ?_
        refine dIx_l (atI_nat (strsD_get (nmK_get h1))) ?_
        walk_at "w"
        refine dIx_t (atI_nat (j := 1) (show ([.int (p.1 : Int), .int (p.2 : Int)] : List Nm.D)[1]? = some (.int (p.2 : Int)) from rfl)) ?_
        refine dIx_l (atI_nat (strsD_get (nmK_get h2))) ?_
        walk_at "w"
        exact ⟨sl 2 (by decide), rfl, rfl, rfl⟩
      have epairs2 : ((lgains ss).filter fun _ => true).map (fun p => pairD (nmP kn2 p)) = pairsD (gainsOf rows2) := by
        rw [List.filter_eq_self.mpr fun _ _ => rfl, hgains2]
        show _ = List.map pairD (List.map _ _)
        rw [List.map_map]
        rfl
      rw [epairs2]
      have hrl3 : rows2.length = many := by rw [hrows2, rowsL_len]; exact hsl
      have hrok2 := rowsL_ok hK2 hlK2 hok
      rw [← hrows2] at hrok2
      have hscr2 : scrFault ((rotL t).take inp) rows2 = none := by
        rw [show (rotL t).take inp = (kn2.drop 1).take inp by rw [hkn2]; rfl, hrows2]
        exact scr_none hK2 hlK2 hok
      have showsR2 : ∀ s ∈ rows2, (fitK (kindS s.2) (partS s.2) ∧ ∀ q ∈ pairsS s, okP q) ∧ PyData.strOk s.1 = true ∧ s.2.length ≤ 90000 ∧ PyData.strOk s.2 = true ∧ ∃ ps, partsOf s.2 = some ps ∧ ps.length ≤ 1000 := fun s hs => by
        obtain ⟨h1, h2, h3, h4, _, ps, h5, h6⟩ := hrok2 s hs
        exact ⟨h1, isName_so h2, Nat.le_trans h3 (by decide), h4.ok, ps, h5, Nat.le_trans h6 (by decide)⟩
      walk_at "w"
      refine we_script ?_
      walk_at "w"
      rw [cut_strs]
      walk_at "w"
      refine ⟨_, _, (rotL t).take inp, rows2, rfl, rfl, rfl, by rw [List.length_take, rotL_len]; omega, by omega, fun x hx => Nat.le_trans (name_len (rotL_ok.1 x (List.mem_of_mem_take hx))) (by decide), fun s hs => ⟨Nat.le_trans (name_len (hrok2 s hs).2.1) (by decide), Nat.le_trans (hrok2 s hs).2.2.1 (by decide)⟩, hscr2, fun y => ?_⟩
      walk_at "w"
      rw [cut_strs]
      walk_at "w"
      refine ⟨_, (rotL t).take inp, rows2, rfl, scD_ins, by rw [List.length_take, rotL_len]; omega, by omega, showsR2, ?_⟩
      exact done (SubM.refl _)
end
end Nm
namespace Nm
open PySem PySem.Spec PyProof.Rows L2
theorem h_is_name {K : PySem.W.Frag} {h : Heap} {mg : Str → Option Value} (X : K.In h) (G : h.Ns mainGlobals mg) (c : He.SaysD faH fnH K) : D_is_name K mg := by
  obtain ⟨fd, F⟩ := c.def_ 0 rfl
  exact ⟨⟨_, fd, He.glo_ok X G (c.fact 25 (f := .glo "is_name") rfl), F⟩⟩
theorem h_step_parts {K : PySem.W.Frag} {h : Heap} {mg : Str → Option Value} (X : K.In h) (G : h.Ns mainGlobals mg) (c : He.SaysD faH fnH K) : D_step_parts K mg := by
  obtain ⟨fd, F⟩ := c.def_ 1 rfl
  exact ⟨⟨_, fd, He.glo_ok X G (c.fact 26 (f := .glo "step_parts") rfl), F⟩⟩
theorem h_merged {K : PySem.W.Frag} {h : Heap} {mg : Str → Option Value} (X : K.In h) (G : h.Ns mainGlobals mg) (c : He.SaysD faH fnH K) : D_merged K mg := by
  obtain ⟨fd, F⟩ := c.def_ 2 rfl
  exact ⟨⟨_, fd, He.glo_ok X G (c.fact 27 (f := .glo "merged") rfl), F⟩⟩
theorem h_step_gains {K : PySem.W.Frag} {h : Heap} {mg : Str → Option Value} (X : K.In h) (G : h.Ns mainGlobals mg) (c : He.SaysD faH fnH K) : D_step_gains K mg := by
  obtain ⟨fd, F⟩ := c.def_ 3 rfl
  exact ⟨⟨_, fd, He.glo_ok X G (c.fact 28 (f := .glo "step_gains") rfl), F⟩⟩
theorem h_check_new {K : PySem.W.Frag} {h : Heap} {mg : Str → Option Value} (X : K.In h) (G : h.Ns mainGlobals mg) (c : He.SaysD faH fnH K) : D_check_new K mg := by
  obtain ⟨fd, F⟩ := c.def_ 4 rfl
  exact ⟨⟨_, fd, He.glo_ok X G (c.fact 29 (f := .glo "check_new") rfl), F⟩⟩
theorem h_step_row {K : PySem.W.Frag} {h : Heap} {mg : Str → Option Value} (X : K.In h) (G : h.Ns mainGlobals mg) (c : He.SaysD faH fnH K) : D_step_row K mg := by
  obtain ⟨fd, F⟩ := c.def_ 5 rfl
  exact ⟨⟨_, fd, He.glo_ok X G (c.fact 30 (f := .glo "step_row") rfl), F⟩⟩
theorem h_law_mixed {K : PySem.W.Frag} {h : Heap} {mg : Str → Option Value} (X : K.In h) (G : h.Ns mainGlobals mg) (c : He.SaysD faH fnH K) : D_law_mixed K mg := by
  obtain ⟨fd, F⟩ := c.def_ 6 rfl
  exact ⟨⟨_, fd, He.glo_ok X G (c.fact 31 (f := .glo "_law_mixed") rfl), F⟩⟩
theorem h_law_pool {K : PySem.W.Frag} {h : Heap} {mg : Str → Option Value} (X : K.In h) (G : h.Ns mainGlobals mg) (c : He.SaysD faH fnH K) : D_law_pool K mg := by
  obtain ⟨fd, F⟩ := c.def_ 7 rfl
  exact ⟨⟨_, fd, He.glo_ok X G (c.fact 32 (f := .glo "_law_pool") rfl), F⟩⟩
theorem h_law_take {K : PySem.W.Frag} {h : Heap} {mg : Str → Option Value} (X : K.In h) (G : h.Ns mainGlobals mg) (c : He.SaysD faH fnH K) : D_law_take K mg := by
  obtain ⟨fd, F⟩ := c.def_ 8 rfl
  exact ⟨⟨_, fd, He.glo_ok X G (c.fact 33 (f := .glo "_law_take") rfl), F⟩⟩
theorem h_law_names {K : PySem.W.Frag} {h : Heap} {mg : Str → Option Value} (X : K.In h) (G : h.Ns mainGlobals mg) (c : He.SaysD faH fnH K) : D_law_names K mg := by
  obtain ⟨fd, F⟩ := c.def_ 9 rfl
  exact ⟨⟨_, fd, He.glo_ok X G (c.fact 34 (f := .glo "_law_names") rfl), F⟩⟩
theorem h_law_pairs {K : PySem.W.Frag} {h : Heap} {mg : Str → Option Value} (X : K.In h) (G : h.Ns mainGlobals mg) (c : He.SaysD faH fnH K) : D_law_pairs K mg := by
  obtain ⟨fd, F⟩ := c.def_ 10 rfl
  exact ⟨⟨_, fd, He.glo_ok X G (c.fact 35 (f := .glo "_law_pairs") rfl), F⟩⟩
theorem h_law_gains {K : PySem.W.Frag} {h : Heap} {mg : Str → Option Value} (X : K.In h) (G : h.Ns mainGlobals mg) (c : He.SaysD faH fnH K) : D_law_gains K mg := by
  obtain ⟨fd, F⟩ := c.def_ 11 rfl
  exact ⟨⟨_, fd, He.glo_ok X G (c.fact 36 (f := .glo "_law_gains") rfl), F⟩⟩
theorem h_law_steps {K : PySem.W.Frag} {h : Heap} {mg : Str → Option Value} (X : K.In h) (G : h.Ns mainGlobals mg) (c : He.SaysD faH fnH K) : D_law_steps K mg := by
  obtain ⟨fd, F⟩ := c.def_ 12 rfl
  exact ⟨⟨_, fd, He.glo_ok X G (c.fact 37 (f := .glo "_law_steps") rfl), F⟩⟩
theorem h_law_words {K : PySem.W.Frag} {h : Heap} {mg : Str → Option Value} (X : K.In h) (G : h.Ns mainGlobals mg) (c : He.SaysD faH fnH K) : D_law_words K mg := by
  obtain ⟨fd, F⟩ := c.def_ 13 rfl
  exact ⟨⟨_, fd, He.glo_ok X G (c.fact 38 (f := .glo "_law_words") rfl), F⟩⟩
theorem h_law_texts {K : PySem.W.Frag} {h : Heap} {mg : Str → Option Value} (X : K.In h) (G : h.Ns mainGlobals mg) (c : He.SaysD faH fnH K) : D_law_texts K mg := by
  obtain ⟨fd, F⟩ := c.def_ 14 rfl
  exact ⟨⟨_, fd, He.glo_ok X G (c.fact 39 (f := .glo "_law_texts") rfl), F⟩⟩
theorem h_law_bad_name {K : PySem.W.Frag} {h : Heap} {mg : Str → Option Value} (X : K.In h) (G : h.Ns mainGlobals mg) (c : He.SaysD faH fnH K) : D_law_bad_name K mg := by
  obtain ⟨fd, F⟩ := c.def_ 15 rfl
  exact ⟨⟨_, fd, He.glo_ok X G (c.fact 40 (f := .glo "_law_bad_name") rfl), F⟩⟩
theorem h_law_is_name {K : PySem.W.Frag} {h : Heap} {mg : Str → Option Value} (X : K.In h) (G : h.Ns mainGlobals mg) (c : He.SaysD faH fnH K) : D_law_is_name K mg := by
  obtain ⟨fd, F⟩ := c.def_ 16 rfl
  exact ⟨⟨_, fd, He.glo_ok X G (c.fact 41 (f := .glo "_law_is_name") rfl), F⟩⟩
theorem h_law_operands {K : PySem.W.Frag} {h : Heap} {mg : Str → Option Value} (X : K.In h) (G : h.Ns mainGlobals mg) (c : He.SaysD faH fnH K) : D_law_operands K mg := by
  obtain ⟨fd, F⟩ := c.def_ 17 rfl
  exact ⟨⟨_, fd, He.glo_ok X G (c.fact 42 (f := .glo "_law_operands") rfl), F⟩⟩
theorem h_law_due {K : PySem.W.Frag} {h : Heap} {mg : Str → Option Value} (X : K.In h) (G : h.Ns mainGlobals mg) (c : He.SaysD faH fnH K) : D_law_due K mg := by
  obtain ⟨fd, F⟩ := c.def_ 18 rfl
  exact ⟨⟨_, fd, He.glo_ok X G (c.fact 43 (f := .glo "_law_due") rfl), F⟩⟩
theorem h_law_spoil {K : PySem.W.Frag} {h : Heap} {mg : Str → Option Value} (X : K.In h) (G : h.Ns mainGlobals mg) (c : He.SaysD faH fnH K) : D_law_spoil K mg := by
  obtain ⟨fd, F⟩ := c.def_ 19 rfl
  exact ⟨⟨_, fd, He.glo_ok X G (c.fact 44 (f := .glo "_law_spoil") rfl), F⟩⟩
theorem h_law_refused {K : PySem.W.Frag} {h : Heap} {mg : Str → Option Value} (X : K.In h) (G : h.Ns mainGlobals mg) (c : He.SaysD faH fnH K) : D_law_refused K mg := by
  obtain ⟨fd, F⟩ := c.def_ 20 rfl
  exact ⟨⟨_, fd, He.glo_ok X G (c.fact 45 (f := .glo "_law_refused") rfl), F⟩⟩
theorem h_law_shows {K : PySem.W.Frag} {h : Heap} {mg : Str → Option Value} (X : K.In h) (G : h.Ns mainGlobals mg) (c : He.SaysD faH fnH K) : D_law_shows K mg := by
  obtain ⟨fd, F⟩ := c.def_ 21 rfl
  exact ⟨⟨_, fd, He.glo_ok X G (c.fact 46 (f := .glo "_law_shows") rfl), F⟩⟩
theorem h_law_parts_right {K : PySem.W.Frag} {h : Heap} {mg : Str → Option Value} (X : K.In h) (G : h.Ns mainGlobals mg) (c : He.SaysD faH fnH K) : D_law_parts_right K mg := by
  obtain ⟨fd, F⟩ := c.def_ 22 rfl
  exact ⟨⟨_, fd, He.glo_ok X G (c.fact 47 (f := .glo "_law_parts_right") rfl), F⟩⟩
theorem h_law_form_names {K : PySem.W.Frag} {h : Heap} {mg : Str → Option Value} (X : K.In h) (G : h.Ns mainGlobals mg) (c : He.SaysD faH fnH K) : D_law_form_names K mg := by
  obtain ⟨fd, F⟩ := c.def_ 23 rfl
  exact ⟨⟨_, fd, He.glo_ok X G (c.fact 48 (f := .glo "_law_form_names") rfl), F⟩⟩
theorem h_law {K : PySem.W.Frag} {h : Heap} {mg : Str → Option Value} (X : K.In h) (G : h.Ns mainGlobals mg) (c : He.SaysD faH fnH K) : D_law K mg := by
  obtain ⟨fd, F⟩ := c.def_ 24 rfl
  exact ⟨⟨_, fd, He.glo_ok X G (c.fact 49 (f := .glo "law") rfl), F⟩⟩
theorem h_MergeErroru_initu {K : PySem.W.Frag} (c : He.SaysD faH fnH K) : D_MergeErroru_initu K := by
  obtain ⟨fd, F⟩ := c.def_ 25 rfl
  exact ⟨⟨_, fd, He.meth_ok (c.fact 50 (f := .meth "MergeError" "__init__") rfl), F⟩⟩
theorem h_Scriptu_initu {K : PySem.W.Frag} (c : He.SaysD faH fnH K) : D_Scriptu_initu K := by
  obtain ⟨fd, F⟩ := c.def_ 26 rfl
  exact ⟨⟨_, fd, He.meth_ok (c.fact 51 (f := .meth "Script" "__init__") rfl), F⟩⟩
theorem h_Script_gains {K : PySem.W.Frag} (c : He.SaysD faH fnH K) : D_Script_gains K := by
  obtain ⟨fd, F⟩ := c.def_ 27 rfl
  exact ⟨⟨_, fd, He.meth_ok (c.fact 52 (f := .meth "Script" "gains") rfl), F⟩⟩
theorem h_cl_Script {K : PySem.W.Frag} (c : He.SaysD faH fnH K) : Cls K (cA K "Script") := He.cls_ok (c.fact 53 (f := .cls "Script") rfl)
theorem h_gl_Script {K : PySem.W.Frag} {h : Heap} {mg : Str → Option Value} (X : K.In h) (G : h.Ns mainGlobals mg) (c : He.SaysD faH fnH K) : mg "Script" = some (.ref (cA K "Script")) := He.glo_ok X G (c.fact 54 (f := .glo "Script") rfl)
theorem h_mk_Script {K : PySem.W.Frag} (c : He.SaysD faH fnH K) : Mk K (cA K "Script") (He.ma K (cA K "Script") "__init__") := He.mkr_ok (c.fact 55 (f := .mkr "Script") rfl)
theorem h_na_Script_inputs {K : PySem.W.Frag} (c : He.SaysD faH fnH K) : NoAttr K (cA K "Script") "inputs" := He.noat_ok (c.fact 56 (f := .noat "Script" "inputs") rfl)
theorem h_na_Script_rows {K : PySem.W.Frag} (c : He.SaysD faH fnH K) : NoAttr K (cA K "Script") "rows" := He.noat_ok (c.fact 57 (f := .noat "Script" "rows") rfl)
theorem h_na_Script_known {K : PySem.W.Frag} (c : He.SaysD faH fnH K) : NoAttr K (cA K "Script") "known" := He.noat_ok (c.fact 58 (f := .noat "Script" "known") rfl)
theorem h_c_LETTERS {K : PySem.W.Frag} {h : Heap} {mg : Str → Option Value} (X : K.In h) (G : h.Ns mainGlobals mg) (c : He.SaysD faH fnH K) : ∃ t, mg "LETTERS" = some (.str tLETTERS t) := He.str_ok X G (c.fact 59 (f := .str "LETTERS" tLETTERS) rfl)
theorem h_c_SIGNS {K : PySem.W.Frag} {h : Heap} {mg : Str → Option Value} (X : K.In h) (G : h.Ns mainGlobals mg) (c : He.SaysD faH fnH K) : ∃ t, mg "SIGNS" = some (.str tSIGNS t) := He.str_ok X G (c.fact 60 (f := .str "SIGNS" tSIGNS) rfl)
theorem h_c_LONGEST {K : PySem.W.Frag} {h : Heap} {mg : Str → Option Value} (X : K.In h) (G : h.Ns mainGlobals mg) (c : He.SaysD faH fnH K) : ∃ t, mg "LONGEST" = some (.int 8 t) := He.int_ok X G (c.fact 61 (f := .int "LONGEST" 8) rfl)
theorem h_c_NONE {K : PySem.W.Frag} {h : Heap} {mg : Str → Option Value} (X : K.In h) (G : h.Ns mainGlobals mg) (c : He.SaysD faH fnH K) : ∃ t, mg "NONE" = some (.str tNONE t) := He.str_ok X G (c.fact 62 (f := .str "NONE" tNONE) rfl)
theorem h_pr_Script_names {K : PySem.W.Frag} {w : World} (c : SaysX faH fnH prH tsH exH w K) : ∃ p f fd, PropOf K (cA K "Script") "names" p f ∧ FunD K "names" "Script.names" (defArgs s_Script_names) (defBody s_Script_names) (defScope s_Script_names) [] [] f fd := by
  obtain ⟨q, fd, F⟩ := c.prop 0 rfl
  exact ⟨_, _, fd, q, F⟩
theorem h_pr_Script_steps {K : PySem.W.Frag} {w : World} (c : SaysX faH fnH prH tsH exH w K) : ∃ p f fd, PropOf K (cA K "Script") "steps" p f ∧ FunD K "steps" "Script.steps" (defArgs s_Script_steps) (defBody s_Script_steps) (defScope s_Script_steps) [] [] f fd := by
  obtain ⟨q, fd, F⟩ := c.prop 1 rfl
  exact ⟨_, _, fd, q, F⟩
theorem h_sm_Script_operands {K : PySem.W.Frag} {w : World} (c : SaysX faH fnH prH tsH exH w K) : ClX.CRead K (cA K "Script") (.type "type") ∧ ∃ p f fd, PySem.W.findCls K (.ref (cA K "Script")) (.type "type") "operands" = some (.get (.builtin "staticmethod.__get__") (.ref p) .none (.ref (cA K "Script"))) ∧ (∃ rest, PySem.W.recIn K p "staticmethod" = some (.ref f :: rest)) ∧ PySem.W.keepIn K (.ref f) = true ∧ FunD K "operands" "Script.operands" (defArgs s_Script_operands) (defBody s_Script_operands) (defScope s_Script_operands) [] [] f fd := by
  obtain ⟨r, q, rc, kp, fd, F⟩ := c.smet 2 rfl
  exact ⟨r, _, _, fd, q, rc, kp, F⟩
theorem h_tb_FORMS {K : PySem.W.Frag} {w : World} {h : Heap} {mg : Str → Option Value} (X : K.In h) (G : h.Ns mainGlobals mg) (c : SaysX faH fnH prH tsH exH w K) : GTab K w mg "FORMS" (cA K "FORMS") tFORMS := c.tab (mg := mg) 0 rfl (He.glo_ok X G (c.d.fact 63 (f := .glo "FORMS") rfl))
theorem h_Z {K : PySem.W.Frag} {h : Heap} {mg : Str → Option Value} (X : K.In h) (G : h.Ns mainGlobals mg) (c : He.SaysD faH fnH K) : Zs mg := ⟨He.free_ok X G (c.fact 0 (f := .free "len") rfl), He.free_ok X G (c.fact 1 (f := .free "range") rfl), He.free_ok X G (c.fact 2 (f := .free "int") rfl), He.free_ok X G (c.fact 3 (f := .free "bool") rfl), He.free_ok X G (c.fact 4 (f := .free "list") rfl), He.free_ok X G (c.fact 5 (f := .free "str") rfl), He.free_ok X G (c.fact 6 (f := .free "tuple") rfl), He.free_ok X G (c.fact 7 (f := .free "max") rfl), He.free_ok X G (c.fact 8 (f := .free "min") rfl), He.free_ok X G (c.fact 9 (f := .free "isinstance") rfl), He.free_ok X G (c.fact 10 (f := .free "sum") rfl), He.free_ok X G (c.fact 11 (f := .free "zip") rfl), He.free_ok X G (c.fact 12 (f := .free "enumerate") rfl), He.free_ok X G (c.fact 13 (f := .free "ValueError") rfl), He.free_ok X G (c.fact 14 (f := .free "sorted") rfl), He.free_ok X G (c.fact 15 (f := .free "abs") rfl), He.free_ok X G (c.fact 16 (f := .free "any") rfl), He.free_ok X G (c.fact 17 (f := .free "all") rfl), He.free_ok X G (c.fact 18 (f := .free "reversed") rfl), He.free_ok X G (c.fact 19 (f := .free "dict") rfl), He.free_ok X G (c.fact 20 (f := .free "iter") rfl), He.free_ok X G (c.fact 21 (f := .free "repr") rfl), He.free_ok X G (c.fact 22 (f := .free "print") rfl), He.free_ok X G (c.fact 23 (f := .free "type") rfl), He.free_ok X G (c.fact 24 (f := .free "NotImplemented") rfl)⟩
theorem e_0 {K : PySem.W.Frag} (h : exH K = true) : (xcB K "MergeError") = true := (Bool.and_eq_true_iff.mp h).1
theorem e_1 {K : PySem.W.Frag} (h : exH K = true) : (xcB K "BadName") = true := (Bool.and_eq_true_iff.mp (Bool.and_eq_true_iff.mp h).2).1
theorem e_2 {K : PySem.W.Frag} (h : exH K = true) : (xcB K "Taken") = true := (Bool.and_eq_true_iff.mp (Bool.and_eq_true_iff.mp (Bool.and_eq_true_iff.mp h).2).2).1
theorem e_3 {K : PySem.W.Frag} (h : exH K = true) : (xcB K "Unknown") = true := (Bool.and_eq_true_iff.mp (Bool.and_eq_true_iff.mp (Bool.and_eq_true_iff.mp (Bool.and_eq_true_iff.mp h).2).2).2).1
theorem e_4 {K : PySem.W.Frag} (h : exH K = true) : (xcB K "BadStep") = true := (Bool.and_eq_true_iff.mp (Bool.and_eq_true_iff.mp (Bool.and_eq_true_iff.mp (Bool.and_eq_true_iff.mp (Bool.and_eq_true_iff.mp h).2).2).2).2).1
theorem e_5 {K : PySem.W.Frag} (h : exH K = true) : (vvB K) = true := (Bool.and_eq_true_iff.mp (Bool.and_eq_true_iff.mp (Bool.and_eq_true_iff.mp (Bool.and_eq_true_iff.mp (Bool.and_eq_true_iff.mp (Bool.and_eq_true_iff.mp h).2).2).2).2).2).1
theorem e_6 {K : PySem.W.Frag} (h : exH K = true) : (xfaB K ["BadName", "Taken", "Unknown", "BadStep"]) = true := (Bool.and_eq_true_iff.mp (Bool.and_eq_true_iff.mp (Bool.and_eq_true_iff.mp (Bool.and_eq_true_iff.mp (Bool.and_eq_true_iff.mp (Bool.and_eq_true_iff.mp (Bool.and_eq_true_iff.mp h).2).2).2).2).2).2).1
theorem e_7 {K : PySem.W.Frag} (h : exH K = true) : (ownB K (cA K "Script")) = true := (Bool.and_eq_true_iff.mp (Bool.and_eq_true_iff.mp (Bool.and_eq_true_iff.mp (Bool.and_eq_true_iff.mp (Bool.and_eq_true_iff.mp (Bool.and_eq_true_iff.mp (Bool.and_eq_true_iff.mp (Bool.and_eq_true_iff.mp h).2).2).2).2).2).2).2).1
theorem h_X_MergeError {P : Program} {w : World} {K : PySem.W.Frag} {h : Heap} {mg : Str → Option Value} {base : Heap} (X : K.In h) (G : h.Ns mainGlobals mg) (c : He.SaysD faH fnH K) (e : exH K = true) : GX P w K mg base "MergeError" (cA K "MergeError") :=
  xcB_ok (e_0 e) (He.glo_ok X G (c.fact 64 (f := .glo "MergeError") rfl)) (ok_exc_init (h_MergeErroru_initu c) (He.free_ok X G (c.fact 13 (f := .free "ValueError") rfl)) (vvB_ok (e_5 e))) (He.meth_ok (c.fact 50 (f := .meth "MergeError" "__init__") rfl)).at_
theorem h_X_BadName {P : Program} {w : World} {K : PySem.W.Frag} {h : Heap} {mg : Str → Option Value} {base : Heap} (X : K.In h) (G : h.Ns mainGlobals mg) (c : He.SaysD faH fnH K) (e : exH K = true) : GX P w K mg base "BadName" (cA K "BadName") :=
  xcB_ok (e_1 e) (He.glo_ok X G (c.fact 65 (f := .glo "BadName") rfl)) (ok_exc_init (h_MergeErroru_initu c) (He.free_ok X G (c.fact 13 (f := .free "ValueError") rfl)) (vvB_ok (e_5 e))) (He.meth_ok (c.fact 50 (f := .meth "MergeError" "__init__") rfl)).at_
theorem h_X_Taken {P : Program} {w : World} {K : PySem.W.Frag} {h : Heap} {mg : Str → Option Value} {base : Heap} (X : K.In h) (G : h.Ns mainGlobals mg) (c : He.SaysD faH fnH K) (e : exH K = true) : GX P w K mg base "Taken" (cA K "Taken") :=
  xcB_ok (e_2 e) (He.glo_ok X G (c.fact 66 (f := .glo "Taken") rfl)) (ok_exc_init (h_MergeErroru_initu c) (He.free_ok X G (c.fact 13 (f := .free "ValueError") rfl)) (vvB_ok (e_5 e))) (He.meth_ok (c.fact 50 (f := .meth "MergeError" "__init__") rfl)).at_
theorem h_X_Unknown {P : Program} {w : World} {K : PySem.W.Frag} {h : Heap} {mg : Str → Option Value} {base : Heap} (X : K.In h) (G : h.Ns mainGlobals mg) (c : He.SaysD faH fnH K) (e : exH K = true) : GX P w K mg base "Unknown" (cA K "Unknown") :=
  xcB_ok (e_3 e) (He.glo_ok X G (c.fact 67 (f := .glo "Unknown") rfl)) (ok_exc_init (h_MergeErroru_initu c) (He.free_ok X G (c.fact 13 (f := .free "ValueError") rfl)) (vvB_ok (e_5 e))) (He.meth_ok (c.fact 50 (f := .meth "MergeError" "__init__") rfl)).at_
theorem h_X_BadStep {P : Program} {w : World} {K : PySem.W.Frag} {h : Heap} {mg : Str → Option Value} {base : Heap} (X : K.In h) (G : h.Ns mainGlobals mg) (c : He.SaysD faH fnH K) (e : exH K = true) : GX P w K mg base "BadStep" (cA K "BadStep") :=
  xcB_ok (e_4 e) (He.glo_ok X G (c.fact 68 (f := .glo "BadStep") rfl)) (ok_exc_init (h_MergeErroru_initu c) (He.free_ok X G (c.fact 13 (f := .free "ValueError") rfl)) (vvB_ok (e_5 e))) (He.meth_ok (c.fact 50 (f := .meth "MergeError" "__init__") rfl)).at_
theorem h_XF {K : PySem.W.Frag} (e : exH K = true) : XF K ["BadName", "Taken", "Unknown", "BadStep"] := xfaB_ok (e_6 e)

end Nm
namespace Nm
open PySem PySem.Spec PyProof.Rows L2
theorem factsH {P : Program} {w : World} {K : PySem.W.Frag} {h : Heap} {mg : Str → Option Value} {f : Addr} (X : K.In h) (G : h.Ns mainGlobals mg) (hfa : mg ("law" : Str) = some (.ref f)) (s : SaysX faH fnH prH tsH exH w K) :
    ∃ fd : FuncData, (∀ (s : Shared) (v : Value), BindsTo s fd ⟨[v], []⟩ [("_law_script", v)]) ∧ ∀ base : Heap, K.In base → base.Ns mainGlobals mg → FnOk P w K mg base (L2.CX P w) 8 f fd ["_law_script"] (toSp K sd_law) := by
  have c := s.d
  have e := s.ex_
  obtain ⟨f', fd, hf', F⟩ := (h_law X G c).ex
  have ef := hfa.symm.trans hf'
  cases ef
  have b := FunD.bindsA (ps := ["_law_script"]) F fun _ _ _ _ _ _ us hl => match us, hl with | [_], _ => rfl
  refine ⟨fd, fun s v => b s [v] rfl, fun base _ _ => ?_⟩
  have Z := h_Z X G c
  have cl := h_cl_Script c
  have n1 := h_na_Script_inputs c
  have n2 := h_na_Script_rows c
  have n3 := h_na_Script_known c
  have xm : GX P w K mg base "MergeError" (cA K "MergeError") := h_X_MergeError X G c e
  have xb : GX P w K mg base "BadName" (cA K "BadName") := h_X_BadName X G c e
  have xt : GX P w K mg base "Taken" (cA K "Taken") := h_X_Taken X G c e
  have xu : GX P w K mg base "Unknown" (cA K "Unknown") := h_X_Unknown X G c e
  have xs : GX P w K mg base "BadStep" (cA K "BadStep") := h_X_BadStep X G c e
  have gis : GF P w K mg base "is_name" 1 ["word"] (toSp K sd_is_name) := ok_is_name (h_is_name X G c) Z (h_c_LETTERS X G c) (h_c_SIGNS X G c) (h_c_LONGEST X G c)
  have gsp := ok_step_parts (P := P) (w := w) (base := base) (h_step_parts X G c) Z (h_tb_FORMS X G s) xs
  have gcn := ok_check_new (h_check_new X G c) Z xb xt gis
  have gsr := ok_step_row (h_step_row X G c) Z xu gcn gsp
  have msi := ok_Script_init (h_Scriptu_initu c) Z (h_c_NONE X G c) cl n1 n2 n3 gcn gsr
  have cs := gc_of msi (h_gl_Script X G c) (h_mk_Script c)
  have gme := ok_merged (P := P) (w := w) (base := base) (h_merged X G c) Z
  have gsg := ok_step_gains (h_step_gains X G c) Z gme
  have mga := ok_Script_gains (h_Script_gains c) cl n2 gsg
  have psn : GP P w K mg base (cS K) "names" 1 (toSp K (sd_Script_names K)) := by
    obtain ⟨p, g, gd, pr, FT⟩ := h_pr_Script_names s
    exact gp_of cl pr FT (FunD.bindsN FT fun _ _ _ _ _ _ us hl => match us, hl with | [_], _ => rfl) (ok_Script_names Z cl n1 FT)
  have pss : GP P w K mg base (cS K) "steps" 1 (toSp K (sd_Script_steps K)) := by
    obtain ⟨p, g, gd, pr, FT⟩ := h_pr_Script_steps s
    exact gp_of cl pr FT (FunD.bindsN FT fun _ _ _ _ _ _ us hl => match us, hl with | [_], _ => rfl) (ok_Script_steps Z cl n2 FT)
  have sso : GSM P w K mg base (cS K) "operands" 4 ["text"] (toSp K (sd_step_parts K)) := by
    obtain ⟨rd, p, g, gd, h1, h2, h3, FT⟩ := h_sm_Script_operands s
    exact gsm_of rd h1 h2 h3 FT (FunD.bindsN FT fun _ _ _ _ _ _ us hl => match us, hl with | [_], _ => rfl) (ok_Script_operands Z gsp FT)
  have gmx : GF P w K mg base "_law_mixed" 1 ["_law_cell", "_law_k"] (toSp K sd_mixed) := ok_mixed (h_law_mixed X G c) Z
  have gpl : GF P w K mg base "_law_pool" 2 ["_law_script"] (toSp K sd_pool) := ok_pool (h_law_pool X G c) Z gmx
  have gtk : GF P w K mg base "_law_take" 1 ["_law_pool_here", "_law_at", "_law_many"] (toSp K sd_take) := ok_take (h_law_take X G c) Z
  have gnm := ok_namesS (h_law_names X G c) Z gtk
  have gtx : GF P w K mg base "_law_texts" 1 ["_law_actual", "_law_expected"] (toSp K sd_texts) := ok_texts (h_law_texts X G c) Z
  have glp := ok_lpairs (P := P) (w := w) (base := base) (h_law_pairs X G c) Z
  have glg := ok_lgains (h_law_gains X G c) Z glp
  have gst := ok_steps (h_law_steps X G c) Z gtk glg
  have gwd := ok_words (P := P) (w := w) (base := base) (h_law_words X G c) Z
  have gbn := ok_bad (h_law_bad_name X G c) Z gtk
  have gin := ok_lname (P := P) (w := w) (base := base) (h_law_is_name X G c) Z
  have gop := ok_lops (P := P) (w := w) (base := base) (h_law_operands X G c) Z
  have gdu := ok_due (h_law_due X G c) Z gin gop
  have gfn := ok_fnames (P := P) (w := w) (base := base) (h_law_form_names X G c) Z
  have gso := ok_spoil12 (h_law_spoil X G c) Z gtk gbn
  have grf := ok_refused (h_law_refused X G c) Z (h_XF e) xm xb xt xs xu cs psn pss gtx
  have gsh := ok_shows12 (h_law_shows X G c) Z cs psn pss mga sso gop gtx
  have gpr := ok_pright (h_law_parts_right X G c) Z (h_XF e) xs cs sso gop gtx
  exact ok_law F Z gpl gtk gnm gst gwd glg gsh gso gdu gpr grf gfn cs psn pss mga
end Nm
open PySem PySem.W PySem.Calls PyProof.Rows
theorem PySem.Challenge.cw_needmerge_k12_script_made_or_refused_holds : PySem.Challenge.rw_needmerge_k12_script_made_or_refused.Holds := by
  w_on; o_law
  refine HandSHeadRun.head_any (r := Nm.RR) (q := view Nm.RR.prog [43]) (H := Nm.hkH) (ob := Nm.obH) (M := 20000) (loose := Nm.looseH) (d := HandSHeadRun.topDef Nm.RR.prog 43) (kwd := []) Nm.obH_eq
    (by kernel_rfl) (fun s => by kernel_rfl) Nm.runH (by kernel_rfl) (by kernel_rfl) (by kernel_rfl) (by rfl) (by first | assumption | decide +kernel) (by decide +kernel) ⟨rfl, rfl, rfl, rfl, rfl, by decide +kernel⟩ ?hw ?hc
  case hw => w_witness2
  case hc =>
    refine Nm.walk_ofX (l := PySem.Challenge.rw_needmerge_k12_script_made_or_refused) (n := 63) (k := 8) (x := "_law_script") rfl (by decide) (by kernel_rfl) ⟨rfl, by decide, by decide⟩ ?F
    intro w mg fa h Y G hmg0
    obtain ⟨K, KX, c⟩ := Y
    have hmg : mg ("law" : PySem.Str) = some (.ref fa) := by
      have e : (HandSHeadRun.topDef Nm.RR.prog 43).name = ("law" : PySem.Str) := by kernel_rfl
      rw [← e]
      exact hmg0
    obtain ⟨fd, hb, hF⟩ := Nm.factsH (P := (PySem.Challenge.rw_needmerge_k12_script_made_or_refused).prog) (w := w) KX G hmg c
    exact ⟨K, fd, _, KX, hb, fun H a ns hl _ hS => Nm.law_start hl hS, hF⟩
