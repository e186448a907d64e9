import PyProof.Rows.All
import Wide.All
import OpenK.AllK
import Wide.FinOn
import HandS.ForMost
import KE.DataEq
import KE.DataFind
import KE.DataCmp
import KE.DataMinMax
import KE.SortData
import HandS.Style
import HandS.IsInst
import HandS.Conv
import HandS.SortKw
import HandS.Flow
import KE.SortCalls
import KE.GoesNew
import HandS.TryOnly
import HandS.SetFor
import HandS.Defaults
import HandS.SetBool
import HandS.Strs
import HandS.Head0
import HandS.Head1
import HandS.Head2
import HandS.HeadEnd
import HandS.HeadHook1
import HandS.HeadHook2
import PySem.Challenge.RW_spindlefit_k88_whole_services_with_spind
set_option Elab.async false
set_option linter.all false
set_option autoImplicit false
set_option maxRecDepth 100000
set_option maxHeartbeats 0
-- DL1
/-! DL1: values as data over HandS's abstract heap: D, Rep, the slots of a def as data (Rho), what is hidden, Sim. -/
namespace DL
open PySem PySem.Spec PyProof.Rows L2

/-- data: None, bools, ints, texts, lists (t = false) and tuples (t = true) -/
inductive D where
  | non | bl (b : Bool) | int (i : Int) | str (s : Str) | sq (t : Bool) (xs : List D)

def Sq (K : PySem.W.Frag) (H : Hp) : Bool → Addr → List V → Prop
  | true, a, vs => SqT K H a vs
  | false, a, vs => SqL K H a vs

mutual
def Rep (K : PySem.W.Frag) (H : Hp) : D → V → Prop
  | .non, v => v = .non
  | .bl b, v => v = .bl b
  | .int i, v => v = .int i
  | .str s, v => v = .str s
  | .sq t ds, v => ∃ a vs, v = .ref a ∧ Sq K H t a vs ∧ vs.length ≤ sizeLine ∧ Reps K H ds vs
def Reps (K : PySem.W.Frag) (H : Hp) : List D → List V → Prop
  | [], vs => vs = []
  | d :: ds, vs => ∃ v r, vs = v :: r ∧ Rep K H d v ∧ Reps K H ds r
end

section
variable {K : PySem.W.Frag} {H H' : Hp}
theorem Sq.mono (e : Same H H') : ∀ {t : Bool} {a : Addr} {vs : List V}, Sq K H t a vs → Sq K H' t a vs
  | false, _, _, h => e.seq h
  | true, _, _, h => by
    rcases h with (h | ⟨o, h⟩) | h
    · exact .inl (.inl (e _ _ h))
    · exact .inl (.inr ⟨o, e _ _ h⟩)
    · exact .inr h
mutual
theorem Rep.mono (e : Same H H') : ∀ {d : D} {v : V}, Rep K H d v → Rep K H' d v
  | .non, _, h => h
  | .bl _, _, h => h
  | .int _, _, h => h
  | .str _, _, h => h
  | .sq t ds, v, h => by
    rw [Rep] at h ⊢
    obtain ⟨a, vs, h1, h2, h3, h4⟩ := h
    exact ⟨a, vs, h1, h2.mono e, h3, Reps.mono e h4⟩
theorem Reps.mono (e : Same H H') : ∀ {ds : List D} {vs : List V}, Reps K H ds vs → Reps K H' ds vs
  | [], _, h => h
  | d :: ds, vs, h => by
    rw [Reps] at h ⊢
    obtain ⟨v, r, h1, h2, h3⟩ := h
    exact ⟨v, r, h1, Rep.mono e h2, Reps.mono e h3⟩
end
theorem Reps.length : ∀ {ds : List D} {vs : List V}, Reps K H ds vs → ds.length = vs.length
  | [], _, h => by
    rw [Reps] at h
    subst h
    rfl
  | d :: ds, vs, h => by
    rw [Reps] at h
    obtain ⟨v, r, h1, _, h3⟩ := h
    subst h1
    rw [List.length_cons, List.length_cons, Reps.length h3]
theorem Reps.nil : Reps K H [] [] := by
  rw [Reps]
theorem Reps.cons {d : D} {v : V} {ds : List D} {vs : List V} (h : Rep K H d v) (t : Reps K H ds vs) : Reps K H (d :: ds) (v :: vs) := by
  rw [Reps]
  exact ⟨v, vs, rfl, h, t⟩
theorem Reps.append : ∀ {ds es : List D} {vs ws : List V}, Reps K H ds vs → Reps K H es ws → Reps K H (ds ++ es) (vs ++ ws)
  | [], _, _, _, h, g => by
    rw [Reps] at h
    subst h
    exact g
  | d :: ds, es, vs, ws, h, g => by
    rw [Reps] at h
    obtain ⟨v, r, h1, h2, h3⟩ := h
    subst h1
    exact .cons h2 (Reps.append h3 g)
theorem Reps.get : ∀ {ds : List D} {vs : List V} {i : Nat} {d : D}, Reps K H ds vs → ds[i]? = some d → ∃ v, vs[i]? = some v ∧ Rep K H d v
  | [], _, _, _, _, e => by simp at e
  | d :: ds, vs, i, x, h, e => by
    rw [Reps] at h
    obtain ⟨v, r, h1, h2, h3⟩ := h
    subst h1
    cases i with
    | zero =>
      rw [List.getElem?_cons_zero] at e
      cases e
      exact ⟨v, by simp, h2⟩
    | succ i =>
      rw [List.getElem?_cons_succ] at e
      obtain ⟨u, e1, e2⟩ := Reps.get h3 e
      exact ⟨u, by simpa using e1, e2⟩
theorem Reps.getV : ∀ {ds : List D} {vs : List V} {i : Nat} {v : V}, Reps K H ds vs → vs[i]? = some v → ∃ d, ds[i]? = some d ∧ Rep K H d v
  | [], vs, i, v, h, e => by
    rw [Reps] at h
    subst h
    simp at e
  | d :: ds, vs, i, x, h, e => by
    rw [Reps] at h
    obtain ⟨v, r, h1, h2, h3⟩ := h
    subst h1
    cases i with
    | zero =>
      rw [List.getElem?_cons_zero] at e
      cases e
      exact ⟨d, by simp, h2⟩
    | succ i =>
      rw [List.getElem?_cons_succ] at e
      obtain ⟨u, e1, e2⟩ := Reps.getV h3 e
      exact ⟨u, by simpa using e1, e2⟩
theorem Reps.take : ∀ {ds : List D} {vs : List V} (n : Nat), Reps K H ds vs → Reps K H (ds.take n) (vs.take n)
  | [], vs, n, h => by
    rw [Reps] at h
    subst h
    rw [List.take_nil, List.take_nil]
    exact .nil
  | d :: ds, vs, 0, h => by
    rw [List.take_zero, List.take_zero]
    exact .nil
  | d :: ds, vs, n + 1, h => by
    rw [Reps] at h
    obtain ⟨v, r, h1, h2, h3⟩ := h
    subst h1
    exact .cons h2 (Reps.take n h3)
theorem Reps.drop : ∀ {ds : List D} {vs : List V} (n : Nat), Reps K H ds vs → Reps K H (ds.drop n) (vs.drop n)
  | [], vs, n, h => by
    rw [Reps] at h
    subst h
    rw [List.drop_nil, List.drop_nil]
    exact .nil
  | d :: ds, vs, 0, h => h
  | d :: ds, vs, n + 1, h => by
    rw [Reps] at h
    obtain ⟨v, r, h1, h2, h3⟩ := h
    subst h1
    exact Reps.drop n h3
theorem Reps.set {d : D} {v : V} (q : Rep K H d v) : ∀ {ds : List D} {vs : List V} (i : Nat), Reps K H ds vs → Reps K H (ds.set i d) (vs.set i v)
  | [], vs, n, h => by
    rw [Reps] at h
    subst h
    exact .nil
  | x :: ds, vs, 0, h => by
    rw [Reps] at h
    obtain ⟨v', r, h1, h2, h3⟩ := h
    subst h1
    exact .cons q h3
  | x :: ds, vs, n + 1, h => by
    rw [Reps] at h
    obtain ⟨v', r, h1, h2, h3⟩ := h
    subst h1
    exact .cons h2 (Reps.set q n h3)
theorem Reps.eraseIdx : ∀ {ds : List D} {vs : List V} (i : Nat), Reps K H ds vs → Reps K H (ds.eraseIdx i) (vs.eraseIdx i)
  | [], vs, n, h => by
    rw [Reps] at h
    subst h
    exact .nil
  | x :: ds, vs, 0, h => by
    rw [Reps] at h
    obtain ⟨v', r, h1, h2, h3⟩ := h
    subst h1
    exact h3
  | x :: ds, vs, n + 1, h => by
    rw [Reps] at h
    obtain ⟨v', r, h1, h2, h3⟩ := h
    subst h1
    exact .cons h2 (Reps.eraseIdx n h3)
theorem Reps.reverse : ∀ {ds : List D} {vs : List V}, Reps K H ds vs → Reps K H ds.reverse vs.reverse
  | [], vs, h => by
    rw [Reps] at h
    subst h
    exact .nil
  | x :: ds, vs, h => by
    rw [Reps] at h
    obtain ⟨v', r, h1, h2, h3⟩ := h
    subst h1
    rw [List.reverse_cons, List.reverse_cons]
    exact (Reps.reverse h3).append (.cons h2 .nil)
end

/-! ### as the library's data -/
mutual
def D.py : D → PyData
  | .non => .none
  | .bl b => .bool b
  | .int i => .int i
  | .str s => .str s
  | .sq false xs => .list (D.pys xs)
  | .sq true xs => .tuple (D.pys xs)
def D.pys : List D → List PyData
  | [] => []
  | x :: xs => D.py x :: D.pys xs
end
theorem pys_map : ∀ xs : List D, D.pys xs = xs.map D.py
  | [] => rfl
  | x :: xs => by
    rw [D.pys, pys_map xs]
    rfl
mutual
theorem py_plain : ∀ d : D, d.py.plain = true
  | .non => rfl
  | .bl _ => rfl
  | .int _ => rfl
  | .str _ => rfl
  | .sq false xs => by
    rw [D.py, PyData.plain]
    exact pys_plain xs
  | .sq true xs => by
    rw [D.py, PyData.plain]
    exact pys_plain xs
theorem pys_plain : ∀ xs : List D, PyData.plainAll (D.pys xs) = true
  | [] => rfl
  | x :: xs => by
    rw [D.pys, PyData.plainAll, py_plain x, pys_plain xs]
    rfl
end
section
variable {X : Cx} {pins : List (Addr × Obj)} {σ : L2.St} {H : Hp} {s : Shared}
mutual
theorem reads_of (I : Inv X pins σ H s) : ∀ {d : D} {v : V} {u : Value}, Rep X.K H d v → RelV v u → ∃ as, Reads s.heap u d.py as
  | .non, v, u, h, r => by
    rw [Rep] at h
    subst h
    cases (show u = Value.none from r)
    exact ⟨_, .none⟩
  | .bl b, v, u, h, r => by
    rw [Rep] at h
    subst h
    cases (show u = Value.bool b from r)
    exact ⟨_, .bool b⟩
  | .int i, v, u, h, r => by
    rw [Rep] at h
    subst h
    obtain ⟨t, e⟩ := (show ∃ t, u = Value.int i t from r)
    subst e
    exact ⟨_, .int i t⟩
  | .str z, v, u, h, r => by
    rw [Rep] at h
    subst h
    obtain ⟨t, e⟩ := (show ∃ t, u = Value.str z t from r)
    subst e
    exact ⟨_, .str z t⟩
  | .sq false ds, v, u, h, r => by
    rw [Rep] at h
    obtain ⟨a, vs, h1, h2, h3, h4⟩ := h
    subst h1
    cases (show u = Value.ref a from r)
    obtain ⟨its, rv, p, _⟩ := I.list (show SqL X.K H a vs from h2)
    obtain ⟨o, n, e1, e2, e3, e4⟩ := p
    obtain ⟨as, q⟩ := readsAll_of I h4 rv
    rw [D.py]
    exact ⟨_, .list e1 e2 e4 (by simpa using q)⟩
  | .sq true ds, v, u, h, r => by
    rw [Rep] at h
    obtain ⟨a, vs, h1, h2, h3, h4⟩ := h
    subst h1
    cases (show u = Value.ref a from r)
    obtain ⟨its, rv, p, _⟩ := I.tuple (show SqT X.K H a vs from h2)
    obtain ⟨o, e1, e2, n, e3⟩ := p
    obtain ⟨as, q⟩ := readsAll_of I h4 rv
    rw [D.py]
    exact ⟨_, .tuple e1 e2 e3 (by simpa using q)⟩
theorem readsAll_of (I : Inv X pins σ H s) : ∀ {ds : List D} {vs : List V} {us : List Value}, Reps X.K H ds vs → Vals vs us → ∃ as, ReadsAll s.heap us (D.pys ds) as
  | [], vs, us, h, r => by
    rw [Reps] at h
    subst h
    cases r
    exact ⟨_, .nil⟩
  | d :: ds, vs, us, h, r => by
    rw [Reps] at h
    obtain ⟨v, rr, h1, h2, h3⟩ := h
    subst h1
    cases r with
    | cons r1 r2 =>
      obtain ⟨as, q1⟩ := reads_of I h2 r1
      obtain ⟨bs, q2⟩ := readsAll_of I h3 r2
      rw [D.pys]
      exact ⟨_, .cons q1 q2⟩
end
end
end DL

-- DL2
/-! DL2: slots as data, what is hidden, Sim; judgements of pure expressions. -/
namespace DL
open PySem PySem.Spec PyProof.Rows L2

/-- a slot: unknown, a value, a list that this def alone holds, a list that its caller lends -/
inductive Sl where
  | un | va (d : D) | ow (xs : List D) | io (xs : List D)
abbrev Rho := List Sl

/-- what stands around a body: B the heap at the entry, G what of it may be seen, io the lent list -/
structure Fm where
  K : PySem.W.Frag
  B : Hp
  G : Hp
  io : Option Addr

def Own (σ : L2.St) (ρ : Rho) (p : Addr) : Prop := ∃ (i : Nat) (xs : List D), σ[i]? = some (some (.ref p)) ∧ (ρ[i]? = some (.ow xs) ∨ ρ[i]? = some (.io xs))
open Classical in
noncomputable def vis (G H H' : Hp) : Hp := fun p => if G p = none ∧ H p ≠ none then none else H' p
open Classical in
noncomputable def hid (F : Fm) (H : Hp) (σ : L2.St) (ρ : Rho) : Hp := fun p => if Own σ ρ p then none else vis F.G F.B H p
open Classical in
noncomputable def del (p : Addr) (H : Hp) : Hp := fun q => if q = p then none else H q

theorem vis_sub {G H H' : Hp} : Same (vis G H H') H' := fun p o h => by
  unfold vis at h
  split at h
  · cases h
  · exact h
theorem vis_some {G H H' : Hp} {p : Addr} {o : HO} (h : H' p = some o) (g : H p ≠ none → G p ≠ none) : vis G H H' p = some o := by
  unfold vis
  rw [if_neg]
  · exact h
  · rintro ⟨h1, h2⟩
    exact g h2 h1
theorem vis_old {G H H' : Hp} {p : Addr} {o : HO} (h : vis G H H' p = some o) : H' p = some o ∧ (H p ≠ none → G p ≠ none) := by
  unfold vis at h
  split at h
  · cases h
  · rename_i q
    exact ⟨h, fun h1 h2 => q ⟨h2, h1⟩⟩
theorem vis_mono {G H H1 H2 : Hp} (e : Same H1 H2) : Same (vis G H H1) (vis G H H2) := fun p o h => by
  obtain ⟨h1, h2⟩ := vis_old h
  exact vis_some (e _ _ h1) h2
/-- where all is seen -/
theorem vis_all {H H' : Hp} : vis H H H' = H' := by
  funext p
  unfold vis
  rw [if_neg]
  rintro ⟨h1, h2⟩
  exact h2 h1
theorem hid_old {F : Fm} {H : Hp} {σ : L2.St} {ρ : Rho} {p : Addr} {o : HO} (h : hid F H σ ρ p = some o) : ¬ Own σ ρ p ∧ H p = some o ∧ (F.B p ≠ none → F.G p ≠ none) := by
  unfold hid at h
  split at h
  · cases h
  · rename_i q
    obtain ⟨h1, h2⟩ := vis_old h
    exact ⟨q, h1, h2⟩
theorem hid_some {F : Fm} {H : Hp} {σ : L2.St} {ρ : Rho} {p : Addr} {o : HO} (n : ¬ Own σ ρ p) (h : H p = some o) (g : F.B p ≠ none → F.G p ≠ none) : hid F H σ ρ p = some o := by
  unfold hid
  rw [if_neg n]
  exact vis_some h g
theorem hid_sub {F : Fm} {H : Hp} {σ : L2.St} {ρ : Rho} : Same (hid F H σ ρ) H := fun p o h => (hid_old h).2.1
theorem hid_mono {F : Fm} {H H' : Hp} {σ : L2.St} {ρ : Rho} (e : Same H H') : Same (hid F H σ ρ) (hid F H' σ ρ) := fun p o h => by
  obtain ⟨h1, h2, h3⟩ := hid_old h
  exact hid_some h1 (e _ _ h2) h3
theorem del_sub {p : Addr} {H : Hp} : Same (del p H) H := fun q o h => by
  unfold del at h
  split at h
  · cases h
  · exact h
theorem del_some {p q : Addr} {H : Hp} {o : HO} (h : H q = some o) (n : q ≠ p) : del p H q = some o := by
  unfold del
  rw [if_neg n]
  exact h

structure Sim (F : Fm) (σ : L2.St) (H : Hp) (ρ : Rho) : Prop where
  len : ρ.length = σ.length
  va : ∀ (i : Nat) (d : D), ρ[i]? = some (.va d) → ∃ v, σ[i]? = some (some v) ∧ Rep F.K (hid F H σ ρ) d v
  ow : ∀ (i : Nat) (xs : List D), ρ[i]? = some (.ow xs) → ∃ p vs, σ[i]? = some (some (.ref p)) ∧ H p = some (.lst vs) ∧ F.B p = none ∧ vs.length ≤ sizeLine ∧ Reps F.K (hid F H σ ρ) xs vs
  io : ∀ (i : Nat) (xs : List D), ρ[i]? = some (.io xs) → i = 0 ∧ ∃ p vs, F.io = some p ∧ σ[i]? = some (some (.ref p)) ∧ H p = some (.lst vs) ∧ vs.length ≤ sizeLine ∧ Reps F.K (hid F H σ ρ) xs vs
  inj : ∀ (i j : Nat) (p : Addr) (xs ys : List D), ρ[i]? = some (.ow xs) → ρ[j]? = some (.ow ys) → σ[i]? = some (some (.ref p)) → σ[j]? = some (some (.ref p)) → i = j
  ent : ∀ p, F.io = some p → F.B p ≠ none ∧ F.G p = none ∧ ∃ xs, ρ[0]? = some (.io xs)
  base : ∀ b o, F.B b = some o → F.io ≠ some b → H b = some o
  sub : Same F.G F.B

theorem vis_self {G H H' : Hp} (g : Same G H) (e : Same H H') : Same G (vis G H H') := fun p o h => vis_some (e _ _ (g _ _ h)) fun _ q => by
  rw [h] at q
  cases q
theorem vis_new {G H H' : Hp} {p : Addr} {o : HO} (h : H' p = some o) (n : H p = none) : vis G H H' p = some o := vis_some h fun q => (q n).elim
theorem Own.mono {σ : L2.St} {ρ : Rho} {p : Addr} (h : Own σ ρ p) : ∃ i : Nat, σ[i]? = some (some (.ref p)) := let ⟨i, _, e, _⟩ := h; ⟨i, e⟩

section
variable {F : Fm} {σ : L2.St} {H H' : Hp} {ρ : Rho} {p : Addr}
/-- what is owned is tracked -/
theorem Sim.own (S : Sim F σ H ρ) (h : Own σ ρ p) : ∃ vs, H p = some (.lst vs) := by
  obtain ⟨i, xs, e, h⟩ := h
  rcases h with h | h
  · obtain ⟨q, vs, e1, e2, _⟩ := S.ow i xs h
    rw [e] at e1
    cases e1
    exact ⟨vs, e2⟩
  · obtain ⟨_, q, vs, _, e1, e2, _⟩ := S.io i xs h
    rw [e] at e1
    cases e1
    exact ⟨vs, e2⟩
theorem Sim.own_ne (S : Sim F σ H ρ) (h : Own σ ρ p) : H p ≠ none := by
  obtain ⟨vs, e⟩ := S.own h
  rw [e]
  exact fun z => nomatch z
theorem Sim.ent_ne (S : Sim F σ H ρ) (h : F.B p ≠ none) : H p ≠ none := by
  obtain ⟨o, ho⟩ := Option.ne_none_iff_exists'.mp h
  by_cases q : F.io = some p
  · obtain ⟨_, _, xs, hx⟩ := S.ent p q
    obtain ⟨_, r, vs, e0, e1, e2, _⟩ := S.io 0 xs hx
    rw [q] at e0
    cases e0
    rw [e2]
    exact fun z => nomatch z
  · rw [S.base p o ho q]
    exact fun z => nomatch z
/-- what is new is not hidden -/
theorem Sim.fresh (S : Sim F σ H ρ) (n : H p = none) : ¬ Own σ ρ p ∧ F.B p = none := by
  refine ⟨fun w => S.own_ne w n, ?_⟩
  cases q : F.B p with
  | none => rfl
  | some o => exact (S.ent_ne (p := p) (by rw [q]; exact fun z => nomatch z) n).elim
/-- what a step shows, hidden -/
theorem Sim.vis (S : Sim F σ H ρ) : Same (vis (hid F H σ ρ) H H') (hid F H' σ ρ) := fun p o h => by
  obtain ⟨h1, h2⟩ := vis_old h
  by_cases q : H p = none
  · obtain ⟨a, b⟩ := S.fresh q
    exact hid_some a h1 fun z => (z b).elim
  · obtain ⟨u, hu⟩ := Option.ne_none_iff_exists'.mp (h2 q)
    obtain ⟨a, _, c⟩ := hid_old hu
    exact hid_some a h1 c
/-- the heap grows -/
theorem Sim.ext (S : Sim F σ H ρ) (e : Same H H') : Sim F σ H' ρ where
  len := S.len
  va := fun i d h => let ⟨v, h1, h2⟩ := S.va i d h; ⟨v, h1, h2.mono (hid_mono e)⟩
  ow := fun i xs h => let ⟨p, vs, h1, h2, h3, h4, h5⟩ := S.ow i xs h; ⟨p, vs, h1, e _ _ h2, h3, h4, h5.mono (hid_mono e)⟩
  io := fun i xs h => let ⟨h0, p, vs, h1, h2, h3, h4, h5⟩ := S.io i xs h; ⟨h0, p, vs, h1, h2, e _ _ h3, h4, h5.mono (hid_mono e)⟩
  inj := S.inj
  ent := S.ent
  base := fun b o h n => e _ _ (S.base b o h n)
  sub := S.sub
end

open Classical in
/-- what is seen: m: what is owned too -/
noncomputable def see (m : Bool) (F : Fm) (H : Hp) (σ : L2.St) (ρ : Rho) : Hp := fun p => if m = true ∧ Own σ ρ p then H p else hid F H σ ρ p
theorem see_own {F : Fm} {H : Hp} {σ : L2.St} {ρ : Rho} {p : Addr} (h : Own σ ρ p) : see true F H σ ρ p = H p := by
  unfold see
  rw [if_pos ⟨rfl, h⟩]
theorem see_false {F : Fm} {H : Hp} {σ : L2.St} {ρ : Rho} : see false F H σ ρ = hid F H σ ρ := by
  funext p
  unfold see
  rw [if_neg]
  exact fun z => Bool.false_ne_true z.1
theorem see_some {m : Bool} {F : Fm} {H : Hp} {σ : L2.St} {ρ : Rho} {p : Addr} {o : HO} (h : see m F H σ ρ p = some o) : H p = some o ∧ ((m = true ∧ Own σ ρ p) ∨ (¬ Own σ ρ p ∧ (F.B p ≠ none → F.G p ≠ none))) := by
  unfold see at h
  split at h
  · exact ⟨h, .inl ‹_›⟩
  · obtain ⟨a, b, c⟩ := hid_old h
    exact ⟨b, .inr ⟨a, c⟩⟩
theorem see_of {m : Bool} {F : Fm} {H : Hp} {σ : L2.St} {ρ : Rho} {p : Addr} {o : HO} (h : H p = some o) (q : (m = true ∧ Own σ ρ p) ∨ (¬ Own σ ρ p ∧ (F.B p ≠ none → F.G p ≠ none))) : see m F H σ ρ p = some o := by
  unfold see
  rcases q with q | ⟨q1, q2⟩
  · rw [if_pos q]
    exact h
  · rw [if_neg fun z => q1 z.2]
    exact hid_some q1 h q2
theorem see_sub {m : Bool} {F : Fm} {H : Hp} {σ : L2.St} {ρ : Rho} : Same (see m F H σ ρ) H := fun p o h => (see_some h).1
theorem see_mono {m : Bool} {F : Fm} {H H' : Hp} {σ : L2.St} {ρ : Rho} (e : Same H H') : Same (see m F H σ ρ) (see m F H' σ ρ) := fun p o h => by
  obtain ⟨h1, h2⟩ := see_some h
  exact see_of (e _ _ h1) h2
theorem see_vis {m : Bool} {F : Fm} {H H' : Hp} {σ : L2.St} {ρ : Rho} (S : Sim F σ H ρ) (e : Same H H') : Same (vis (see m F H σ ρ) H H') (see m F H' σ ρ) := fun p o h => by
  obtain ⟨h1, h2⟩ := vis_old h
  by_cases q : H p = none
  · obtain ⟨a, b⟩ := S.fresh q
    exact see_of h1 (.inr ⟨a, fun z => (z b).elim⟩)
  · obtain ⟨u, hu⟩ := Option.ne_none_iff_exists'.mp (h2 q)
    exact see_of h1 (see_some hu).2
theorem see_le {m : Bool} {F : Fm} {H : Hp} {σ : L2.St} {ρ : Rho} : Same (hid F H σ ρ) (see m F H σ ρ) := fun p o h => by
  obtain ⟨a, b, c⟩ := hid_old h
  exact see_of b (.inr ⟨a, c⟩)

/-! ### judgements: expressions that change nothing -/
/-- e is worth f ρ; m: it may be (or hold) a list that is owned -/
def DP (X : Cx) (m : Bool) (e : Expr) (f : Rho → Option D) : Prop :=
  ∃ t, PE X e t ∧ ∀ (F : Fm) (σ : L2.St) (H : Hp) (ρ : Rho) (d : D) (Q : VK), F.K = X.K → Sim F σ H ρ → f ρ = some d → (∀ v H', Same H H' → Rep X.K (see m F H' σ ρ) d v → Q v H') → t σ H Q
def DPs (X : Cx) (m : Bool) (es : List Expr) (f : Rho → Option (List D)) : Prop :=
  ∃ t, PA X es t ∧ ∀ (F : Fm) (σ : L2.St) (H : Hp) (ρ : Rho) (ds : List D) (Q : List V → Hp → Prop), F.K = X.K → Sim F σ H ρ → f ρ = some ds → (∀ vs H', Same H H' → Reps X.K (see m F H' σ ρ) ds vs → Q vs H') → t σ H Q
def DT (X : Cx) (e : Expr) (f : Rho → Option Bool) : Prop :=
  ∃ t, PT X e t ∧ ∀ (F : Fm) (σ : L2.St) (H : Hp) (ρ : Rho) (b : Bool) (Q : Bool → Hp → Prop), F.K = X.K → Sim F σ H ρ → f ρ = some b → (∀ H', Same H H' → Q b H') → t σ H Q

/-- operations on values, by data -/
def rD2 (K : PySem.W.Frag) (g : D → D → Option D) : R2 := fun x y H Q => ∃ (G : Hp) (a b d : D), Same G H ∧ Rep K G a x ∧ Rep K G b y ∧ g a b = some d ∧ ∀ z H', Same H H' → Rep K (vis G H H') d z → Q z H'
def rD1 (K : PySem.W.Frag) (g : D → Option D) : V → Hp → VK → Prop := fun x H Q => ∃ (G : Hp) (a d : D), Same G H ∧ Rep K G a x ∧ g a = some d ∧ ∀ z H', Same H H' → Rep K (vis G H H') d z → Q z H'
def rDs (K : PySem.W.Frag) (g : List D → Option D) : List V → Hp → VK → Prop := fun xs H Q => ∃ (G : Hp) (as : List D) (d : D), Same G H ∧ Reps K G as xs ∧ g as = some d ∧ ∀ z H', Same H H' → Rep K (vis G H H') d z → Q z H'

section
variable {X : Cx} {m : Bool} {e a b c : Expr} {es : List Expr} {pos : Pos} {fa fb fc : Rho → Option D}

theorem DP.up (h : DP X false e fa) : DP X true e fa := by
  obtain ⟨t, p, r⟩ := h
  exact ⟨t, p, fun F σ H ρ d Q hk S hf q => r F σ H ρ d Q hk S hf fun v H' e' h' => q v H' e' (h'.mono (by rw [see_false]; exact see_le))⟩

def getV (i : Nat) : Rho → Option D := fun ρ => match ρ[i]? with
  | some (.va d) => some d
  | _ => none
/-- a list that is owned, read where it stands -/
def getB (i : Nat) : Rho → Option D := fun ρ => match ρ[i]? with
  | some (.va d) => some d
  | some (.ow xs) => some (.sq false xs)
  | some (.io xs) => some (.sq false xs)
  | _ => none
theorem dp_pe {t : TE} (h : PE X e t) (r : ∀ (F : Fm) (σ : L2.St) (H : Hp) (ρ : Rho) (d : D) (Q : VK), F.K = X.K → Sim F σ H ρ → fa ρ = some d → (∀ v H', Same H H' → Rep X.K (see m F H' σ ρ) d v → Q v H') → t σ H Q) : DP X m e fa := ⟨t, h, r⟩
theorem dp_var {i : Nat} (h : PE X e (tVar i)) : DP X false e (getV i) := by
  refine ⟨_, h, fun F σ H ρ d Q hk S hf q => ?_⟩
  unfold getV at hf
  split at hf
  · rename_i d' hd
    cases hf
    obtain ⟨v, e1, e2⟩ := S.va i d hd
    exact ⟨v, e1, q v H (Same.refl H) (by rw [← hk, see_false]; exact e2)⟩
  · cases hf
theorem dp_varB {i : Nat} (h : PE X e (tVar i)) : DP X true e (getB i) := by
  refine ⟨_, h, fun F σ H ρ d Q hk S hf q => ?_⟩
  unfold getB at hf
  split at hf
  · rename_i d' hd
    cases hf
    obtain ⟨v, e1, e2⟩ := S.va i d hd
    exact ⟨v, e1, q v H (Same.refl H) (by rw [← hk]; exact e2.mono see_le)⟩
  · rename_i xs hd
    cases hf
    obtain ⟨p, vs, e1, e2, e3, e4, e5⟩ := S.ow i xs hd
    refine ⟨_, e1, q _ H (Same.refl H) ?_⟩
    rw [Rep]
    exact ⟨p, vs, rfl, SqL.of (by rw [see_own ⟨i, xs, e1, .inl hd⟩]; exact e2), e4, by rw [← hk]; exact e5.mono see_le⟩
  · rename_i xs hd
    cases hf
    obtain ⟨_, p, vs, _, e1, e2, e4, e5⟩ := S.io i xs hd
    refine ⟨_, e1, q _ H (Same.refl H) ?_⟩
    rw [Rep]
    exact ⟨p, vs, rfl, SqL.of (by rw [see_own ⟨i, xs, e1, .inr hd⟩]; exact e2), e4, by rw [← hk]; exact e5.mono see_le⟩
  · cases hf
def cst (d : D) : Rho → Option D := fun _ => some d
theorem dp_cst {d : D} {v : V} (h : PE X e (tC v)) (r : ∀ H, Rep X.K H d v) : DP X m e (cst d) := by
  refine ⟨_, h, fun F σ H ρ d' Q hk S hf q => ?_⟩
  cases hf
  exact q v H (Same.refl H) (r _)
theorem dp_int {i : Int} {j : Nat} : DP X m (.Constant (.int i) j pos) (cst (.int i)) := dp_cst pe_int fun _ => by rw [Rep]
theorem dp_bl {b : Bool} {j : Nat} : DP X m (.Constant (.bool b) j pos) (cst (.bl b)) := dp_cst pe_bl fun _ => by rw [Rep]
theorem dp_non {j : Nat} : DP X m (.Constant .none j pos) (cst .non) := dp_cst pe_non fun _ => by rw [Rep]
theorem dp_str {z : Str} {j : Nat} : DP X m (.Constant (.str z) j pos) (cst (.str z)) := dp_cst pe_str fun _ => by rw [Rep]

/-! ### two, one, many -/
def bin (g : D → D → Option D) (fa fb : Rho → Option D) : Rho → Option D := fun ρ => match fa ρ with
  | some x => match fb ρ with
    | some y => g x y
    | none => none
  | none => none
def una (g : D → Option D) (fa : Rho → Option D) : Rho → Option D := fun ρ => match fa ρ with
  | some x => g x
  | none => none
theorem bin_some {g : D → D → Option D} {ρ : Rho} {d : D} (h : bin g fa fb ρ = some d) : ∃ x y, fa ρ = some x ∧ fb ρ = some y ∧ g x y = some d := by
  unfold bin at h
  split at h
  · split at h
    · exact ⟨_, _, ‹_›, ‹_›, h⟩
    · cases h
  · cases h
theorem una_some {g : D → Option D} {ρ : Rho} {d : D} (h : una g fa ρ = some d) : ∃ x, fa ρ = some x ∧ g x = some d := by
  unfold una at h
  split at h
  · exact ⟨_, ‹_›, h⟩
  · cases h
/-- two expressions, then an operation -/
theorem bin_run {ta tb : TE} {g : D → D → Option D}
    (ra : ∀ (F : Fm) (σ : L2.St) (H : Hp) (ρ : Rho) (d : D) (Q : VK), F.K = X.K → Sim F σ H ρ → fa ρ = some d → (∀ v H', Same H H' → Rep X.K (see m F H' σ ρ) d v → Q v H') → ta σ H Q)
    (rb : ∀ (F : Fm) (σ : L2.St) (H : Hp) (ρ : Rho) (d : D) (Q : VK), F.K = X.K → Sim F σ H ρ → fb ρ = some d → (∀ v H', Same H H' → Rep X.K (see m F H' σ ρ) d v → Q v H') → tb σ H Q)
    {F : Fm} {σ : L2.St} {H : Hp} {ρ : Rho} {d : D} {Q : VK} (hk : F.K = X.K) (S : Sim F σ H ρ) (hf : bin g fa fb ρ = some d) (q : ∀ v H', Same H H' → Rep X.K (see m F H' σ ρ) d v → Q v H') : tOp (rD2 X.K g) ta tb σ H Q := by
  obtain ⟨x, y, h1, h2, h3⟩ := bin_some hf
  refine ra F σ H ρ x _ hk S h1 fun v H1 e1 q1 => rb F σ H1 ρ y _ hk (S.ext e1) h2 fun u H2 e2 q2 => ?_
  exact ⟨see m F H2 σ ρ, x, y, d, see_sub, q1.mono (see_mono e2), q2, h3, fun z H3 e3 q3 => q z H3 ((e1.trans e2).trans e3) (q3.mono (see_vis (S.ext (e1.trans e2)) e3))⟩
theorem dp_bin {op : Operator} {g : D → D → Option D} (ho : OpR X (binaryOp op) (rD2 X.K g)) (ha : DP X m a fa) (hb : DP X m b fb) : DP X m (.BinOp a op b pos) (bin g fa fb) := by
  obtain ⟨ta, pa, ra⟩ := ha
  obtain ⟨tb, pb, rb⟩ := hb
  exact ⟨_, pe_op ho pa pb, fun F σ H ρ d Q hk S hf q => bin_run ra rb hk S hf q⟩
theorem dp_cmp {op : CmpOp} {g : D → D → Option D} (ho : OpR X (compareOp op) (rD2 X.K g)) (ha : DP X m a fa) (hb : DP X m b fb) (hm : behindInMarks op b = false) : DP X m (.Compare a [op] [b] pos) (bin g fa fb) := by
  obtain ⟨ta, pa, ra⟩ := ha
  obtain ⟨tb, pb, rb⟩ := hb
  exact ⟨_, pe_cmpR ho pa pb hm, fun F σ H ρ d Q hk S hf q => bin_run ra rb hk S hf q⟩
theorem dp_ix {g : D → D → Option D} (ho : IxR X (rD2 X.K g)) (ha : DP X m a fa) (hb : DP X m b fb) (hs : PlainIx b) : DP X m (.Subscript a b pos) (bin g fa fb) := by
  obtain ⟨ta, pa, ra⟩ := ha
  obtain ⟨tb, pb, rb⟩ := hb
  exact ⟨_, pe_ix ho pa pb hs, fun F σ H ρ d Q hk S hf q => bin_run ra rb hk S hf q⟩
theorem dp_un {op : UnaryOp} {g : D → Option D} (ho : UnR X (unaryOp op) (rD1 X.K g)) (ha : DP X m a fa) : DP X m (.UnaryOp op a pos) (una g fa) := by
  obtain ⟨ta, pa, ra⟩ := ha
  refine ⟨_, pe_un ho pa, fun F σ H ρ d Q hk S hf q => ?_⟩
  obtain ⟨x, h1, h3⟩ := una_some hf
  refine ra F σ H ρ x _ hk S h1 fun v H1 e1 q1 => ?_
  exact ⟨see m F H1 σ ρ, x, d, see_sub, q1, h3, fun z H3 e3 q3 => q z H3 (e1.trans e3) (q3.mono (see_vis (S.ext e1) e3))⟩
end
end DL

-- DL3
/-! DL3: operations on data, and the rules of values for them. -/
namespace DL
open PySem PySem.Spec PyProof.Rows L2

structure Okx (X : Cx) : Prop where
  un : X.A.units + 200 < cLine
  calm : X.calm = true
theorem Okx.of {k : Nat} {X : Cx} (h : Room k X.A) (c : X.calm = true) : Okx X := ⟨by have := h.un; omega, c⟩

section
variable {K : PySem.W.Frag} {H : Hp} {v : V}
theorem Rep.non_eq (h : Rep K H .non v) : v = .non := by rwa [Rep] at h
theorem Rep.bl_eq {b : Bool} (h : Rep K H (.bl b) v) : v = .bl b := by rwa [Rep] at h
theorem Rep.int_eq {i : Int} (h : Rep K H (.int i) v) : v = .int i := by rwa [Rep] at h
theorem Rep.str_eq {z : Str} (h : Rep K H (.str z) v) : v = .str z := by rwa [Rep] at h
theorem Rep.sq_eq {t : Bool} {ds : List D} (h : Rep K H (.sq t ds) v) : ∃ a vs, v = .ref a ∧ Sq K H t a vs ∧ vs.length ≤ sizeLine ∧ Reps K H ds vs := by rwa [Rep] at h
theorem rep_non : Rep K H .non .non := by rw [Rep]
theorem rep_bl {b : Bool} : Rep K H (.bl b) (.bl b) := by rw [Rep]
theorem rep_int {i : Int} : Rep K H (.int i) (.int i) := by rw [Rep]
theorem rep_str {z : Str} : Rep K H (.str z) (.str z) := by rw [Rep]
theorem rep_sq {t : Bool} {ds : List D} {a : Addr} {vs : List V} (h : Sq K H t a vs) (l : vs.length ≤ sizeLine) (r : Reps K H ds vs) : Rep K H (.sq t ds) (.ref a) := by
  rw [Rep]
  exact ⟨a, vs, rfl, h, l, r⟩
end

/-! ### equality of data -/
mutual
def D.beq : D → D → Bool
  | .non, .non => true
  | .bl a, .bl b => a == b
  | .bl a, .int j => (if a then 1 else 0) == j
  | .int i, .bl b => i == (if b then 1 else 0)
  | .int i, .int j => i == j
  | .str x, .str y => x == y
  | .sq t xs, .sq u ys => (t == u) && D.beqs xs ys
  | _, _ => false
def D.beqs : List D → List D → Bool
  | [], [] => true
  | x :: xs, y :: ys => D.beq x y && D.beqs xs ys
  | _, _ => false
end
mutual
theorem beq_py : ∀ a b : D, PyData.eqv a.py b.py = D.beq a b
  | .non, .non => rfl
  | .non, .bl _ => rfl
  | .non, .int _ => rfl
  | .non, .str _ => rfl
  | .non, .sq false _ => rfl
  | .non, .sq true _ => rfl
  | .bl _, .non => rfl
  | .bl _, .bl _ => by rw [D.beq]; rfl
  | .bl _, .int _ => by rw [D.beq]; rfl
  | .bl _, .str _ => rfl
  | .bl _, .sq false _ => rfl
  | .bl _, .sq true _ => rfl
  | .int _, .non => rfl
  | .int _, .bl _ => by rw [D.beq]; rfl
  | .int _, .int _ => by rw [D.beq]; rfl
  | .int _, .str _ => rfl
  | .int _, .sq false _ => rfl
  | .int _, .sq true _ => rfl
  | .str _, .non => rfl
  | .str _, .bl _ => rfl
  | .str _, .int _ => rfl
  | .str _, .str _ => by rw [D.beq]; rfl
  | .str _, .sq false _ => rfl
  | .str _, .sq true _ => rfl
  | .sq false _, .non => rfl
  | .sq false _, .bl _ => rfl
  | .sq false _, .int _ => rfl
  | .sq false _, .str _ => rfl
  | .sq true _, .non => rfl
  | .sq true _, .bl _ => rfl
  | .sq true _, .int _ => rfl
  | .sq true _, .str _ => rfl
  | .sq false _, .sq true _ => rfl
  | .sq true _, .sq false _ => rfl
  | .sq false xs, .sq false ys => by
    rw [D.beq, D.py, D.py, PyData.eqv, beqs_py xs ys]
    rfl
  | .sq true xs, .sq true ys => by
    rw [D.beq, D.py, D.py, PyData.eqv, beqs_py xs ys]
    rfl
theorem beqs_py : ∀ xs ys : List D, PyData.eqvAll (D.pys xs) (D.pys ys) = D.beqs xs ys
  | [], [] => rfl
  | [], _ :: _ => rfl
  | _ :: _, [] => rfl
  | x :: xs, y :: ys => by
    rw [D.beqs, D.pys, D.pys, PyData.eqvAll, beq_py x y, beqs_py xs ys]
end
mutual
/-- nested at most k deep -/
def D.shal : D → Nat → Bool
  | .sq _ xs, k => match k with
    | 0 => false
    | k + 1 => D.shals xs k
  | _, _ => true
def D.shals : List D → Nat → Bool
  | [], _ => true
  | x :: xs, k => D.shal x k && D.shals xs k
end
mutual
theorem shal_py : ∀ (d : D) (k : Nat), d.shal k = true → d.py.depth ≤ k
  | .non, _, _ => Nat.zero_le _
  | .bl _, _, _ => Nat.zero_le _
  | .int _, _, _ => Nat.zero_le _
  | .str _, _, _ => Nat.zero_le _
  | .sq false _, 0, h => by
    rw [D.shal] at h
    cases h
  | .sq true _, 0, h => by
    rw [D.shal] at h
    cases h
  | .sq false xs, k + 1, h => by
    rw [D.shal] at h
    rw [D.py, PyData.depth]
    exact Nat.succ_le_succ (shals_py xs k h)
  | .sq true xs, k + 1, h => by
    rw [D.shal] at h
    rw [D.py, PyData.depth]
    exact Nat.succ_le_succ (shals_py xs k h)
theorem shals_py : ∀ (xs : List D) (k : Nat), D.shals xs k = true → PyData.depthAll (D.pys xs) ≤ k
  | [], _, _ => Nat.zero_le _
  | x :: xs, k, h => by
    rw [D.shals, Bool.and_eq_true] at h
    rw [D.pys, PyData.depthAll]
    exact Nat.max_le.mpr ⟨shal_py x k h.1, shals_py xs k h.2⟩
end

section
variable {X : Cx}
/-- the usual shape: two values of data give a value -/
theorem opD {f : Value → Value → Sem Value} {g : D → D → Option D}
    (rule : ∀ (pins : List (Addr × Obj)) (s : Shared) (σ : L2.St) (H G : Hp) (x y : V) (v u : Value) (a b d : D) (Q : VK), Inv X pins σ H s → RelV x v → RelV y u → Same G H → Rep X.K G a x → Rep X.K G b y → g a b = some d →
      (∀ z H', Same H H' → Rep X.K (vis G H H') d z → Q z H') → wpAny (model X.prog X.w) X.A (f v u) (EP X pins σ Q) X.xe s) : OpR X f (rD2 X.K g) := by
  intro pins s σ H x y v u Q I rx ry h
  obtain ⟨G, a, b, d, e, ra, rb, hg, q⟩ := h
  exact rule pins s σ H G x y v u a b d Q I rx ry e ra rb hg q
theorem fin_b {pins : List (Addr × Obj)} {σ : L2.St} {H G : Hp} {s : Shared} {Q : VK} {b c : Bool} {d : D} (I : Inv X pins σ H s) (hg : some (D.bl b) = some d) (q : ∀ z H', Same H H' → Rep X.K (vis G H H') d z → Q z H') (e : b = c) : EP X pins σ Q (.bool c) s := by
  cases hg
  subst e
  exact ⟨.bl b, H, I, rfl, q _ _ (Same.refl H) rep_bl⟩

def okd (a b : D) : Bool := a.shal 50 || b.shal 50
theorem okd_room (o : Okx X) {a b : D} (h : okd a b = true) : X.A.units + min a.py.depth b.py.depth < cLine := by
  have := o.un
  unfold okd at h
  rw [Bool.or_eq_true] at h
  rcases h with h | h
  · have := shal_py a 50 h
    omega
  · have := shal_py b 50 h
    omega
def eqD (a b : D) : Option D := if okd a b = true then some (.bl (D.beq a b)) else none
def neD (a b : D) : Option D := if okd a b = true then some (.bl (!D.beq a b)) else none
theorem o_eq (o : Okx X) : OpR X (compareOp .Eq) (rD2 X.K eqD) := opD fun pins s σ H G x y v u a b d Q I rx ry e ra rb hg q => by
  unfold eqD at hg
  split at hg
  · rename_i hk
    obtain ⟨as, r1⟩ := reads_of I (ra.mono e) rx
    obtain ⟨bs, r2⟩ := reads_of I (rb.mono e) ry
    exact PySem.SeqAt.eq_plain r1 r2 (py_plain a) (py_plain b) (okd_room o hk) (fin_b I hg q (beq_py a b).symm)
  · cases hg
theorem o_ne (o : Okx X) : OpR X (compareOp .NotEq) (rD2 X.K neD) := opD fun pins s σ H G x y v u a b d Q I rx ry e ra rb hg q => by
  unfold neD at hg
  split at hg
  · rename_i hk
    obtain ⟨as, r1⟩ := reads_of I (ra.mono e) rx
    obtain ⟨bs, r2⟩ := reads_of I (rb.mono e) ry
    exact PySem.SeqAt.ne_plain r1 r2 (py_plain a) (py_plain b) (okd_room o hk) (fin_b I hg q (by rw [beq_py a b]))
  · cases hg
/-- is None -/
def D.isNon : D → Bool
  | .non => true
  | _ => false
def isN (a b : D) : Option D := match b with
  | .non => some (.bl a.isNon)
  | .bl c => match a with
    | .bl b => some (.bl (decide (b = c)))
    | _ => none
  | _ => none
def isnN (a b : D) : Option D := match b with
  | .non => some (.bl (!a.isNon))
  | .bl c => match a with
    | .bl b => some (.bl (!decide (b = c)))
    | _ => none
  | _ => none
theorem rep_isN {K : PySem.W.Frag} {H : Hp} {a : D} {x : V} (h : Rep K H a x) : decide (x = .non) = a.isNon := by
  cases a with
  | non => have e := h.non_eq; subst e; rfl
  | bl b => have e := h.bl_eq; subst e; rfl
  | int i => have e := h.int_eq; subst e; rfl
  | str z => have e := h.str_eq; subst e; rfl
  | sq t xs =>
    obtain ⟨a, vs, e, _⟩ := h.sq_eq
    subst e
    rfl
theorem o_isN : OpR X (compareOp .Is) (rD2 X.K isN) := opD fun pins s σ H G x y v u a b d Q I rx ry e ra rb hg q => by
  cases b with
  | non =>
    refine op_isN pins s σ H x y v u Q I rx ry ⟨rb.non_eq, ?_⟩
    rw [isN] at hg
    cases hg
    exact q _ _ (Same.refl H) (by rw [rep_isN ra]; exact rep_bl)
  | bl c =>
    cases a with
    | bl b =>
      refine op_isBl pins s σ H x y v u Q I rx ry ⟨b, c, ra.bl_eq, rb.bl_eq, ?_⟩
      unfold isN at hg
      cases hg
      exact q _ _ (Same.refl H) rep_bl
    | _ => cases hg
  | _ => cases hg
theorem o_isnN : OpR X (compareOp .IsNot) (rD2 X.K isnN) := opD fun pins s σ H G x y v u a b d Q I rx ry e ra rb hg q => by
  cases b with
  | non =>
    refine op_notN pins s σ H x y v u Q I rx ry ⟨rb.non_eq, ?_⟩
    rw [isnN] at hg
    cases hg
    exact q _ _ (Same.refl H) (by rw [rep_isN ra]; exact rep_bl)
  | bl c =>
    cases a with
    | bl b =>
      refine op_notBl pins s σ H x y v u Q I rx ry ⟨b, c, ra.bl_eq, rb.bl_eq, ?_⟩
      unfold isnN at hg
      cases hg
      exact q _ _ (Same.refl H) rep_bl
    | _ => cases hg
  | _ => cases hg

/-! ### order -/
mutual
def D.alk : D → D → Bool
  | .non, .non => true
  | .bl _, .bl _ => true
  | .int _, .int _ => true
  | .str _, .str _ => true
  | .sq t xs, .sq u ys => (t == u) && D.alks xs ys
  | _, _ => false
def D.alks : List D → List D → Bool
  | x :: xs, y :: ys => D.alk x y && D.alks xs ys
  | [], _ => true
  | _ :: _, [] => true
end
mutual
def D.lt : D → D → Bool
  | .bl a, .bl b => decide (b2i a < b2i b)
  | .int i, .int j => decide (i < j)
  | .str x, .str y => decide (x.cps.toList < y.cps.toList)
  | .sq _ xs, .sq _ ys => D.lts xs ys
  | _, _ => false
def D.lts : List D → List D → Bool
  | [], [] => false
  | [], _ :: _ => true
  | _ :: _, [] => false
  | x :: xs, y :: ys => if D.beq x y = true then D.lts xs ys else D.lt x y
end
mutual
theorem alk_py : ∀ a b : D, D.alk a b = true → PySem.W.alike a.py b.py = true
  | .non, .non, _ => rfl
  | .bl _, .bl _, _ => rfl
  | .int _, .int _, _ => rfl
  | .str _, .str _, _ => rfl
  | .sq false xs, .sq false ys, h => by
    rw [D.alk, Bool.and_eq_true] at h
    rw [D.py, D.py, PySem.W.alike]
    exact alks_py xs ys h.2
  | .sq true xs, .sq true ys, h => by
    rw [D.alk, Bool.and_eq_true] at h
    rw [D.py, D.py, PySem.W.alike]
    exact alks_py xs ys h.2
  | .sq false _, .sq true _, h => by
    rw [D.alk] at h
    cases h
  | .sq true _, .sq false _, h => by
    rw [D.alk] at h
    cases h
  | .non, .bl _, h => by cases h
  | .non, .int _, h => by cases h
  | .non, .str _, h => by cases h
  | .non, .sq _ _, h => by cases h
  | .bl _, .non, h => by cases h
  | .bl _, .int _, h => by cases h
  | .bl _, .str _, h => by cases h
  | .bl _, .sq _ _, h => by cases h
  | .int _, .non, h => by cases h
  | .int _, .bl _, h => by cases h
  | .int _, .str _, h => by cases h
  | .int _, .sq _ _, h => by cases h
  | .str _, .non, h => by cases h
  | .str _, .bl _, h => by cases h
  | .str _, .int _, h => by cases h
  | .str _, .sq _ _, h => by cases h
  | .sq _ _, .non, h => by cases h
  | .sq _ _, .bl _, h => by cases h
  | .sq _ _, .int _, h => by cases h
  | .sq _ _, .str _, h => by cases h
theorem alks_py : ∀ xs ys : List D, D.alks xs ys = true → PySem.W.alikeAll (D.pys xs) (D.pys ys) = true
  | [], [], _ => rfl
  | [], _ :: _, _ => rfl
  | _ :: _, [], _ => rfl
  | x :: xs, y :: ys, h => by
    rw [D.alks, Bool.and_eq_true] at h
    rw [D.pys, D.pys, PySem.W.alikeAll, alk_py x y h.1, alks_py xs ys h.2]
    rfl
end
theorem toks0 : PyProof.Rows.lexLt PyProof.Rows.itemOrd (PySem.W.keyToksAll []) (PySem.W.keyToksAll []) = false := PyProof.Rows.lex_irrefl _
theorem toks1 (y : PyData) (ys : List PyData) : PyProof.Rows.lexLt PyProof.Rows.itemOrd (PySem.W.keyToksAll []) (PySem.W.keyToksAll (y :: ys)) = true := by
  rw [PySem.W.toks_all_cons]
  simp only [PySem.W.keyToksAll]
  rw [PyProof.Rows.lex_diff (O := PyProof.Rows.itemOrd) (by simp)]
  rfl
theorem toks2 (y : PyData) (ys : List PyData) : PyProof.Rows.lexLt PyProof.Rows.itemOrd (PySem.W.keyToksAll (y :: ys)) (PySem.W.keyToksAll []) = false := by
  rw [PySem.W.toks_all_cons]
  simp only [PySem.W.keyToksAll]
  rw [PyProof.Rows.lex_diff (O := PyProof.Rows.itemOrd) (by simp)]
  rfl
mutual
theorem lt_py : ∀ a b : D, D.alk a b = true → a ≠ .non → PySem.W.dataLt a.py b.py = D.lt a b
  | .non, .non, _, n => absurd rfl n
  | .bl _, .bl _, _, _ => by rw [D.lt, D.py, D.py, PySem.W.dataLt_bool]
  | .int _, .int _, _, _ => by rw [D.lt, D.py, D.py, PySem.W.dataLt_int]
  | .str _, .str _, _, _ => by rw [D.lt, D.py, D.py, PySem.W.dataLt_str]
  | .sq false xs, .sq false ys, h, _ => by
    rw [D.alk, Bool.and_eq_true] at h
    rw [D.lt, D.py, D.py, PySem.W.dataLt_list]
    exact lts_py xs ys h.2
  | .sq true xs, .sq true ys, h, _ => by
    rw [D.alk, Bool.and_eq_true] at h
    rw [D.lt, D.py, D.py, PySem.W.dataLt_tuple]
    exact lts_py xs ys h.2
  | .sq false _, .sq true _, h, _ => by
    rw [D.alk] at h
    cases h
  | .sq true _, .sq false _, h, _ => by
    rw [D.alk] at h
    cases h
  | .non, .bl _, h, _ => by cases h
  | .non, .int _, h, _ => by cases h
  | .non, .str _, h, _ => by cases h
  | .non, .sq _ _, h, _ => by cases h
  | .bl _, .non, h, _ => by cases h
  | .bl _, .int _, h, _ => by cases h
  | .bl _, .str _, h, _ => by cases h
  | .bl _, .sq _ _, h, _ => by cases h
  | .int _, .non, h, _ => by cases h
  | .int _, .bl _, h, _ => by cases h
  | .int _, .str _, h, _ => by cases h
  | .int _, .sq _ _, h, _ => by cases h
  | .str _, .non, h, _ => by cases h
  | .str _, .bl _, h, _ => by cases h
  | .str _, .int _, h, _ => by cases h
  | .str _, .sq _ _, h, _ => by cases h
  | .sq _ _, .non, h, _ => by cases h
  | .sq _ _, .bl _, h, _ => by cases h
  | .sq _ _, .int _, h, _ => by cases h
  | .sq _ _, .str _, h, _ => by cases h
theorem lts_py : ∀ xs ys : List D, D.alks xs ys = true → PyProof.Rows.lexLt PyProof.Rows.itemOrd (PySem.W.keyToksAll (D.pys xs)) (PySem.W.keyToksAll (D.pys ys)) = D.lts xs ys
  | [], [], _ => toks0
  | [], y :: ys, _ => by
    rw [D.pys]
    exact toks1 _ _
  | x :: xs, [], _ => by
    rw [D.pys]
    exact toks2 _ _
  | x :: xs, y :: ys, h => by
    rw [D.alks, Bool.and_eq_true] at h
    rw [D.pys, D.pys, PySem.W.dataLt_cons (alk_py x y h.1), D.lts, beq_py x y, lts_py xs ys h.2]
    by_cases hb : D.beq x y = true
    · rw [if_pos hb, if_pos hb]
    · rw [if_neg hb, if_neg hb]
      by_cases hn : x = .non
      · subst hn
        cases y with
        | non => exact absurd rfl hb
        | _ => cases h.1
      · exact lt_py x y h.1 hn
end
theorem py_none {a : D} (h : a ≠ .non) : a.py ≠ .none := by
  cases a with
  | non => exact absurd rfl h
  | sq t xs => cases t <;> (rw [D.py]; exact fun z => nomatch z)
  | bl b => exact fun z => nomatch z
  | int i => exact fun z => nomatch z
  | str z => exact fun z => nomatch z
theorem alk_symm_ne {a b : D} (h : D.alk a b = true) (n : a ≠ .non) : b ≠ .non := by
  rintro rfl
  cases a with
  | non => exact n rfl
  | _ => cases h
/-- may be ordered -/
def okl (a b : D) : Bool := okd a b && D.alk a b && !a.isNon
theorem okl_of {a b : D} (h : okl a b = true) : okd a b = true ∧ D.alk a b = true ∧ a ≠ .non := by
  unfold okl at h
  rw [Bool.and_eq_true, Bool.and_eq_true] at h
  refine ⟨h.1.1, h.1.2, ?_⟩
  rintro rfl
  cases h.2
mutual
theorem alk_comm : ∀ a b : D, D.alk a b = true → D.alk b a = true
  | .non, .non, _ => rfl
  | .bl _, .bl _, _ => rfl
  | .int _, .int _, _ => rfl
  | .str _, .str _, _ => rfl
  | .sq t xs, .sq u ys, h => by
    rw [D.alk, Bool.and_eq_true] at h
    rw [D.alk, alks_comm xs ys h.2, eq_of_beq h.1]
    simp
  | .non, .bl _, h => by cases h
  | .non, .int _, h => by cases h
  | .non, .str _, h => by cases h
  | .non, .sq _ _, h => by cases h
  | .bl _, .non, h => by cases h
  | .bl _, .int _, h => by cases h
  | .bl _, .str _, h => by cases h
  | .bl _, .sq _ _, h => by cases h
  | .int _, .non, h => by cases h
  | .int _, .bl _, h => by cases h
  | .int _, .str _, h => by cases h
  | .int _, .sq _ _, h => by cases h
  | .str _, .non, h => by cases h
  | .str _, .bl _, h => by cases h
  | .str _, .int _, h => by cases h
  | .str _, .sq _ _, h => by cases h
  | .sq _ _, .non, h => by cases h
  | .sq _ _, .bl _, h => by cases h
  | .sq _ _, .int _, h => by cases h
  | .sq _ _, .str _, h => by cases h
theorem alks_comm : ∀ xs ys : List D, D.alks xs ys = true → D.alks ys xs = true
  | [], [], _ => rfl
  | [], _ :: _, _ => rfl
  | _ :: _, [], _ => rfl
  | x :: xs, y :: ys, h => by
    rw [D.alks, Bool.and_eq_true] at h
    rw [D.alks, alk_comm x y h.1, alks_comm xs ys h.2]
    rfl
end
def ltD (a b : D) : Option D := if okl a b = true then some (.bl (D.lt a b)) else none
def leD (a b : D) : Option D := if okl a b = true then some (.bl (!D.lt b a)) else none
def gtD (a b : D) : Option D := if okl a b = true then some (.bl (D.lt b a)) else none
def geD (a b : D) : Option D := if okl a b = true then some (.bl (!D.lt a b)) else none
theorem o_lt (o : Okx X) : OpR X (compareOp .Lt) (rD2 X.K ltD) := opD fun pins s σ H G x y v u a b d Q I rx ry e ra rb hg q => by
  unfold ltD at hg
  split at hg
  · rename_i hk
    obtain ⟨h1, h2, h3⟩ := okl_of hk
    obtain ⟨as, r1⟩ := reads_of I (ra.mono e) rx
    obtain ⟨bs, r2⟩ := reads_of I (rb.mono e) ry
    exact PySem.W.lt_data r1 r2 (alk_py a b h2) (py_none h3) (okd_room o h1) (fin_b I hg q (lt_py a b h2 h3).symm)
  · cases hg
theorem o_gt (o : Okx X) : OpR X (compareOp .Gt) (rD2 X.K gtD) := opD fun pins s σ H G x y v u a b d Q I rx ry e ra rb hg q => by
  unfold gtD at hg
  split at hg
  · rename_i hk
    obtain ⟨h1, h2, h3⟩ := okl_of hk
    obtain ⟨as, r1⟩ := reads_of I (ra.mono e) rx
    obtain ⟨bs, r2⟩ := reads_of I (rb.mono e) ry
    exact PySem.W.gt_data r1 r2 (alk_py a b h2) (py_none h3) (okd_room o h1) (fin_b I hg q (lt_py b a (alk_comm a b h2) (alk_symm_ne h2 h3)).symm)
  · cases hg
theorem o_le (o : Okx X) : OpR X (compareOp .LtE) (rD2 X.K leD) := opD fun pins s σ H G x y v u a b d Q I rx ry e ra rb hg q => by
  unfold leD at hg
  split at hg
  · rename_i hk
    obtain ⟨h1, h2, h3⟩ := okl_of hk
    obtain ⟨as, r1⟩ := reads_of I (ra.mono e) rx
    obtain ⟨bs, r2⟩ := reads_of I (rb.mono e) ry
    exact PySem.W.le_data r1 r2 (alk_py a b h2) (py_none h3) (okd_room o h1) (fin_b I hg q (congrArg not (lt_py b a (alk_comm a b h2) (alk_symm_ne h2 h3)).symm))
  · cases hg
theorem o_ge (o : Okx X) : OpR X (compareOp .GtE) (rD2 X.K geD) := opD fun pins s σ H G x y v u a b d Q I rx ry e ra rb hg q => by
  unfold geD at hg
  split at hg
  · rename_i hk
    obtain ⟨h1, h2, h3⟩ := okl_of hk
    obtain ⟨as, r1⟩ := reads_of I (ra.mono e) rx
    obtain ⟨bs, r2⟩ := reads_of I (rb.mono e) ry
    exact PySem.W.ge_data r1 r2 (alk_py a b h2) (py_none h3) (okd_room o h1) (fin_b I hg q (congrArg not (lt_py a b h2 h3).symm))
  · cases hg

/-! ### in -/
def inD (a b : D) : Option D := match b with
  | .sq _ ys => if a.shal 50 = true then some (.bl (ys.any fun y => D.beq y a)) else none
  | _ => none
def ninD (a b : D) : Option D := match b with
  | .sq _ ys => if a.shal 50 = true then some (.bl (!ys.any fun y => D.beq y a)) else none
  | _ => none
theorem any_py (a : D) (ys : List D) : ((D.pys ys).any fun y => PyData.eqv y a.py) = ys.any fun y => D.beq y a := by
  rw [pys_map, List.any_map]
  congr 1
  funext y
  exact beq_py y a
theorem in_room (o : Okx X) {a : D} (h : a.shal 50 = true) (ys : List D) : X.A.units + 1 + min (PyData.depthAll (D.pys ys)) a.py.depth < cLine := by
  have := o.un
  have := shal_py a 50 h
  omega
theorem o_in (o : Okx X) : OpR X (compareOp .In) (rD2 X.K inD) := opD fun pins s σ H G x y v u a b d Q I rx ry e ra rb hg q => by
  cases b with
  | sq t ys =>
    rw [inD] at hg
    split at hg
    · rename_i hk
      obtain ⟨as, r1⟩ := reads_of I (ra.mono e) rx
      obtain ⟨bs, r2⟩ := reads_of I (rb.mono e) ry
      cases t with
      | false =>
        rw [D.py] at r2
        exact PySem.SeqAt.in_list_data r2 r1 (pys_plain ys) (py_plain a) (in_room o hk ys) (fin_b I hg q (any_py a ys).symm)
      | true =>
        rw [D.py] at r2
        exact PySem.SeqAt.in_tuple_data r2 r1 (pys_plain ys) (py_plain a) (in_room o hk ys) (fin_b I hg q (any_py a ys).symm)
    · cases hg
  | _ => cases hg
theorem o_nin (o : Okx X) : OpR X (compareOp .NotIn) (rD2 X.K ninD) := opD fun pins s σ H G x y v u a b d Q I rx ry e ra rb hg q => by
  cases b with
  | sq t ys =>
    rw [ninD] at hg
    split at hg
    · rename_i hk
      obtain ⟨as, r1⟩ := reads_of I (ra.mono e) rx
      obtain ⟨bs, r2⟩ := reads_of I (rb.mono e) ry
      cases t with
      | false =>
        rw [D.py] at r2
        exact PySem.SeqAt.notIn_list_data r2 r1 (pys_plain ys) (py_plain a) (in_room o hk ys) (fin_b I hg q (by rw [any_py a ys]))
      | true =>
        rw [D.py] at r2
        exact PySem.SeqAt.notIn_tuple_data r2 r1 (pys_plain ys) (py_plain a) (in_room o hk ys) (fin_b I hg q (by rw [any_py a ys]))
    · cases hg
  | _ => cases hg

/-! ### arithmetic -/
def intD (C : Int → Int → Bool) (g : Int → Int → Int) (a b : D) : Option D := match a, b with
  | .int i, .int j => if C i j = true then some (.int (g i j)) else none
  | _, _ => none
theorem o_int {op : Operator} {C : Int → Int → Prop} {c : Int → Int → Bool} {g : Int → Int → Int} (ho : OpR X (binaryOp op) (rI C fun i j => .int (g i j))) (hc : ∀ i j, c i j = true → C i j) : OpR X (binaryOp op) (rD2 X.K (intD c g)) :=
  opD fun pins s σ H G x y v u a b d Q I rx ry e ra rb hg q => by
    unfold intD at hg
    split at hg
    · rename_i i j
      split at hg
      · rename_i h
        cases hg
        exact ho pins s σ H x y v u Q I rx ry ⟨i, j, ra.int_eq, rb.int_eq, hc i j h, q _ _ (Same.refl H) rep_int⟩
      · cases hg
    · cases hg
def subD : D → D → Option D := intD (fun _ _ => true) fun i j => i - j
def mulD : D → D → Option D := intD (fun i j => decide ((-(2 ^ 64) < i ∧ i < 2 ^ 64) ∨ (-(2 ^ 64) < j ∧ j < 2 ^ 64))) fun i j => i * j
def fdivD : D → D → Option D := intD (fun _ j => decide (0 < j ∧ j < 1073741824)) fun i j => i / j
def modD : D → D → Option D := intD (fun _ j => decide (0 < j)) fun i j => i % j
def powD : D → D → Option D := intD (fun i j => decide (0 ≤ j ∧ j ≤ 1000000 ∧ i.natAbs < 2 ^ 64)) fun i j => i ^ j.toNat
theorem rI_of {op : Operator} {g : Int → Int → V} (h : OpR X (binaryOp op) (rI0 g)) : OpR X (binaryOp op) (rI (fun _ _ => True) g) := fun pins s σ H x y v u Q I rx ry q => by
  obtain ⟨i, j, e1, e2, _, q⟩ := q
  exact h pins s σ H x y v u Q I rx ry ⟨i, j, e1, e2, q⟩
theorem o_sub : OpR X (binaryOp .Sub) (rD2 X.K subD) := o_int (rI_of op_sub) fun _ _ _ => trivial
theorem o_mul : OpR X (binaryOp .Mult) (rD2 X.K mulD) := o_int op_mul fun i j h => of_decide_eq_true (p := (-(2 ^ 64) < i ∧ i < 2 ^ 64) ∨ (-(2 ^ 64) < j ∧ j < 2 ^ 64)) h
theorem o_fdiv : OpR X (binaryOp .FloorDiv) (rD2 X.K fdivD) := o_int op_fdiv fun i j h => of_decide_eq_true (p := 0 < j ∧ j < 1073741824) h
theorem o_mod : OpR X (binaryOp .Mod) (rD2 X.K modD) := o_int op_mod fun _ _ h => of_decide_eq_true h
theorem o_pow : OpR X (binaryOp .Pow) (rD2 X.K powD) := o_int op_pow fun i j h => of_decide_eq_true (p := 0 ≤ j ∧ j ≤ 1000000 ∧ i.natAbs < 2 ^ 64) h
def negD : D → Option D
  | .int i => some (.int (-i))
  | _ => none
theorem o_neg : UnR X (unaryOp .USub) (rD1 X.K negD) := by
  intro pins s σ H x v Q I rx h
  obtain ⟨G, a, d, e, ra, hg, q⟩ := h
  cases a with
  | int i =>
    rw [negD] at hg
    cases hg
    exact un_neg pins s σ H x v Q I rx ⟨i, ra.int_eq, q _ _ (Same.refl H) rep_int⟩
  | _ => cases hg

/-! ### a + b -/
def addD : D → D → Option D
  | .int i, .int j => some (.int (i + j))
  | .str x, .str y => if x.length + y.length ≤ 16777216 then some (.str (x ++ y)) else none
  | .sq t xs, .sq u ys => if t = u ∧ xs.length + ys.length ≤ 16777216 then some (.sq t (xs ++ ys)) else none
  | _, _ => none
theorem fin_new {pins : List (Addr × Obj)} {σ : L2.St} {H G : Hp} {s : Shared} {Q : VK} {h' : Heap} {a : Addr} {tk : Nat} {ds : List D} {vs : List V} {its : List Value} (I : Inv X pins σ H s) (e : Same G H)
    (kp : ∀ b u, s.heap.get? b = some u → h'.get? b = some u) (hp : s.heap.objs.size ≤ a) (rv : Vals vs its) (hz : vs.length ≤ sizeLine) (rs : Reps X.K G ds vs) (t : Bool) (n : Nat)
    (ho : h'.get? a = some { cls := .type (if t = true then "tuple" else "list"), data := .seq its.toArray n })
    (q : ∀ z H', Same H H' → Rep X.K (vis G H H') (.sq t ds) z → Q z H') : EP X pins σ Q (.ref a) { s with heap := h', toks := tk } := by
  have hn : H a = none := I.hok.fresh hp
  cases t with
  | false =>
    refine ⟨.ref a, upd H a (.lst vs), I.laid kp hp ⟨hz, its, n, rv, ho⟩, rfl, q _ _ (fun b o h => by rw [upd_ne (ne_of_none h hn)]; exact h) ?_⟩
    exact rep_sq (.inl (.inl (vis_new upd_same hn))) hz (rs.mono (vis_self e fun b o h => by rw [upd_ne (ne_of_none h hn)]; exact h))
  | true =>
    refine ⟨.ref a, upd H a (.tup vs), I.laid kp hp ⟨hz, its, rv, ⟨_, ho, rfl, n, rfl⟩⟩, rfl, q _ _ (fun b o h => by rw [upd_ne (ne_of_none h hn)]; exact h) ?_⟩
    exact rep_sq (.inl (.inl (vis_new upd_same hn))) hz (rs.mono (vis_self e fun b o h => by rw [upd_ne (ne_of_none h hn)]; exact h))
theorem o_add : OpR X (binaryOp .Add) (rD2 X.K addD) := opD fun pins s σ H G x y v u a b d Q I rx ry e ra rb hg q => by
  have hl : sizeLine = 16777216 := sizeLine_eq
  unfold addD at hg
  split at hg
  · rename_i i j
    cases hg
    exact op_add pins s σ H x y v u Q I rx ry ⟨i, j, ra.int_eq, rb.int_eq, q _ _ (Same.refl H) rep_int⟩
  · rename_i i j
    split at hg
    · rename_i h
      cases hg
      exact op_add_str pins s σ H x y v u Q I rx ry ⟨i, j, ra.str_eq, rb.str_eq, by omega, q _ _ (Same.refl H) rep_str⟩
    · cases hg
  · rename_i t xs u' ys
    split at hg
    · rename_i h
      obtain ⟨h1, h2⟩ := h
      subst h1
      cases hg
      obtain ⟨a1, vs, e1, s1, z1, r1⟩ := ra.sq_eq
      obtain ⟨a2, ws, e2, s2, z2, r2⟩ := rb.sq_eq
      subst e1 e2
      cases rx
      cases ry
      have l1 := r1.length
      have l2 := r2.length
      cases t with
      | false =>
        obtain ⟨its, v1, p1, _⟩ := I.list (show SqL X.K H a1 vs from Sq.mono e s1)
        obtain ⟨jts, v2, p2, _⟩ := I.list (show SqL X.K H a2 ws from Sq.mono e s2)
        have m1 := v1.length
        have m2 := v2.length
        obtain ⟨⟨c1, d1, t1, q1⟩, n1, g1, k1, k2, k3⟩ := p1
        obtain ⟨⟨c2, d2, t2, q2⟩, n2, g2, k4, k5, k6⟩ := p2
        simp only at k1 k2 k3 k4 k5 k6
        subst k1 k2 k3 k4 k5 k6
        refine PySem.concat_meets ⟨_, g1, rfl⟩ ⟨_, g2, rfl⟩ PySem.noFill_list_add PySem.seq_list_add PySem.F.slot_list_add PySem.F.entry_list_add (PySem.F.args_list_add_2 _ _)
          (PyProof.Rows.list_addW a1 a2 its.toArray jts.toArray n1 n2 none none q1 q2 (by simp only [List.size_toArray]; omega)) ⟨g1, g2, ?_⟩
        have ea : its.toArray ++ jts.toArray = (its ++ jts).toArray := by simp
        rw [ea]
        exact fin_new I e (fun b o h => Heap.get?_push_of_some _ h) (Nat.le_refl _) (v1.append v2) (by rw [List.length_append]; omega) (r1.append r2) false 0 (Heap.get?_push_size _ rfl) q
      | true =>
        obtain ⟨its, v1, p1, _⟩ := I.tuple (show SqT X.K H a1 vs from Sq.mono e s1)
        obtain ⟨jts, v2, p2, _⟩ := I.tuple (show SqT X.K H a2 ws from Sq.mono e s2)
        have m1 := v1.length
        have m2 := v2.length
        by_cases hv : vs = []
        · subst hv
          have hx : xs = [] := List.eq_nil_of_length_eq_zero l1
          subst hx
          have hi : its = [] := List.eq_nil_of_length_eq_zero m1.symm
          subst hi
          obtain ⟨⟨c1, d1, t1, q1⟩, g1, k1, n1, k2⟩ := p1
          obtain ⟨⟨c2, d2, t2, q2⟩, g2, k3, n2, k4⟩ := p2
          simp only at k1 k2 k3 k4
          subst k1 k2 k3 k4
          refine PySem.concat_meets ⟨_, g1, rfl⟩ ⟨_, g2, rfl⟩ PySem.noFill_tuple_add PySem.seq_tuple_add PySem.F.slot_tuple_add PySem.F.entry_tuple_add (PySem.F.args_tuple_add_2 _ _)
            (PyProof.Rows.tuple_addW0 a1 a2 _ _ n1 n2 d1 d2 q1 q2 (by simp)) ⟨g1, g2, ?_⟩
          exact ⟨.ref a2, H, I, rfl, q _ _ (Same.refl H) (by rw [List.nil_append]; exact (rb.mono (vis_self e (Same.refl H))))⟩
        · refine HT.cat_tup p1 p2 (fun z => hv (v1.nil_iff.mp z)) (fun z => ?_) (fun z => ?_) (by omega)
          · have hw : ws = [] := v2.nil_iff.mp z
            subst hw
            have hy : ys = [] := List.eq_nil_of_length_eq_zero l2
            subst hy
            exact ⟨.ref a1, H, I, rfl, q _ _ (Same.refl H) (by rw [List.append_nil]; exact (ra.mono (vis_self e (Same.refl H))))⟩
          · exact fin_new I e (fun b o h => Heap.get?_push_of_some _ h) (Nat.le_refl _) (v1.append v2) (by rw [List.length_append]; omega) (r1.append r2) true 0 (Heap.get?_push_size _ rfl) q
    · cases hg
  · cases hg

/-! ### a[i] -/
def ixD : D → D → Option D
  | .sq _ xs, .int i => atI xs i
  | _, _ => none
theorem atI_rep {K : PySem.W.Frag} {G : Hp} {ds : List D} {vs : List V} {i : Int} {d : D} (r : Reps K G ds vs) (h : atI ds i = some d) : ∃ v, atI vs i = some v ∧ Rep K G d v := by
  unfold atI at h ⊢
  rw [← r.length]
  obtain ⟨j, h1, h2⟩ := Option.bind_eq_some_iff.mp h
  obtain ⟨v, h3, h4⟩ := r.get h2
  exact ⟨v, by rw [h1]; exact h3, h4⟩
theorem o_ix : IxR X (rD2 X.K ixD) := by
  intro ve se pins s σ H x y v u Q I rx ry h hs
  obtain ⟨G, a, b, d, e, ra, rb, hg, q⟩ := h
  unfold ixD at hg
  split at hg
  · rename_i t xs i
    obtain ⟨a1, vs, e1, s1, z1, r1⟩ := ra.sq_eq
    obtain ⟨z, h1, h2⟩ := atI_rep r1 hg
    have fin : Q z H := q _ _ (Same.refl H) (h2.mono (vis_self e (Same.refl H)))
    cases t with
    | false => exact ix_list ve se pins s σ H x y v u Q I rx ry ⟨a1, vs, i, z, e1, rb.int_eq, Sq.mono e (t := false) s1, h1, fin⟩ hs
    | true => exact ix_tup ve se pins s σ H x y v u Q I rx ry ⟨a1, vs, i, z, e1, rb.int_eq, Sq.mono e (t := true) s1, h1, fin⟩ hs
  · cases hg
end
end DL

-- DL4
/-! DL4: tests, and/or/not, chains, a if t else b, displays, slices, calls. -/
namespace DL
open PySem PySem.Spec PyProof.Rows L2

section
variable {X : Cx} {m : Bool} {e a b c : Expr} {es rest : List Expr} {pos : Pos} {fa fb fc : Rho → Option D} {ca cb : Rho → Option Bool}

/-- a test whatever its 'whole' is -/
def DW (X : Cx) (e : Expr) (f : Rho → Option Bool) : Prop :=
  ∃ t, PW X e t ∧ ∀ (F : Fm) (σ : L2.St) (H : Hp) (ρ : Rho) (b : Bool) (Q : Bool → Hp → Prop), F.K = X.K → Sim F σ H ρ → f ρ = some b → (∀ H', Same H H' → Q b H') → t σ H Q
theorem DW.dt (h : DW X e ca) : DT X e ca := let ⟨t, p, r⟩ := h; ⟨t, p.pt, r⟩

def boolD : Option D → Option Bool
  | some (.bl b) => some b
  | _ => none
theorem boolD_some {o : Option D} {b : Bool} (h : boolD o = some b) : o = some (.bl b) := by
  unfold boolD at h
  split at h
  · cases h
    rfl
  · cases h
theorem dt_cmp {op : CmpOp} {g : D → D → Option D} (ho : OpR X (compareOp op) (rD2 X.K g)) (ha : DP X m a fa) (hb : DP X m b fb) (hm : behindInMarks op b = false) : DT X (.Compare a [op] [b] pos) (fun ρ => boolD (bin g fa fb ρ)) := by
  obtain ⟨ta, pa, ra⟩ := ha
  obtain ⟨tb, pb, rb⟩ := hb
  exact ⟨_, pt_cmpR ho pa pb hm, fun F σ H ρ d Q hk S hf q => bin_run ra rb hk S (boolD_some hf) fun v H' e' r => ⟨d, r.bl_eq, q H' e'⟩⟩

/-! ### truth -/
def truD : D → Bool
  | .non => false
  | .bl b => b
  | .int i => i != 0
  | .str z => (z.length : Int) != 0
  | .sq _ xs => !xs.isEmpty
theorem tru_of {K : PySem.W.Frag} {H : Hp} {d : D} {v : V} (h : Rep K H d v) (hs : ∀ z, d = .str z → z.length ≤ sizeLine) : TruV K v H (truD d) := by
  cases d with
  | non => have e := h.non_eq; subst e; rfl
  | bl b => have e := h.bl_eq; subst e; rfl
  | int i => have e := h.int_eq; subst e; rfl
  | str z => have e := h.str_eq; subst e; exact ⟨hs z rfl, rfl⟩
  | sq t xs =>
    obtain ⟨a, vs, e, h1, h2, h3⟩ := h.sq_eq
    subst e
    have he : (!xs.isEmpty) = !vs.isEmpty := by
      have l := h3.length
      cases xs with
      | nil =>
        cases vs with
        | nil => rfl
        | cons _ _ => cases l
      | cons _ _ =>
        cases vs with
        | nil => cases l
        | cons _ _ => rfl
    cases t with
    | false => exact .inl ⟨vs, h1, he⟩
    | true => exact .inr (.inl ⟨vs, h1, he⟩)
/-- the truth of a value, texts within the line -/
def truO : Option D → Option Bool
  | some (.str z) => if z.length ≤ 16777216 then some (truD (.str z)) else none
  | some d => some (truD d)
  | none => none
theorem truO_some {o : Option D} {b : Bool} (h : truO o = some b) : ∃ d, o = some d ∧ truD d = b ∧ ∀ z, d = .str z → z.length ≤ sizeLine := by
  unfold truO at h
  split at h
  · split at h
    · rename_i z hz
      cases h
      exact ⟨_, rfl, rfl, fun w e => by cases e; rw [sizeLine_eq]; exact hz⟩
    · cases h
  · rename_i d hd
    cases h
    exact ⟨_, rfl, rfl, fun z e => (hd z e).elim⟩
  · cases h
theorem dt_val (h : DP X m a fa) (he : ∀ whole, isTrue a X.env whole = (do let v ← whole; standAt a.pos; holding [v] (truthy v)) := by intro _; rfl) : DT X a (fun ρ => truO (fa ρ)) := by
  obtain ⟨t, p, r⟩ := h
  refine ⟨_, pt_truth p he, fun F σ H ρ b Q hk S hf q => ?_⟩
  obtain ⟨d, h1, h2, h3⟩ := truO_some hf
  exact r F σ H ρ d _ hk S h1 fun v H' e' rr => ⟨b, by rw [← h2]; exact tru_of (rr.mono see_sub) h3, q H' e'⟩

/-! ### and, or, not of tests -/
def andB (ca cb : Rho → Option Bool) : Rho → Option Bool := fun ρ => match ca ρ with
  | some true => cb ρ
  | some false => some false
  | none => none
def orB (ca cb : Rho → Option Bool) : Rho → Option Bool := fun ρ => match ca ρ with
  | some true => some true
  | some false => cb ρ
  | none => none
def notB (ca : Rho → Option Bool) : Rho → Option Bool := fun ρ => match ca ρ with
  | some b => some (!b)
  | none => none
theorem dw_and1 (h : DT X a ca) : DW X (.BoolOp .And [a] pos) ca := let ⟨t, p, r⟩ := h; ⟨t, pw_and1 p, r⟩
theorem dw_or1 (h : DT X a ca) : DW X (.BoolOp .Or [a] pos) ca := let ⟨t, p, r⟩ := h; ⟨t, pw_or1 p, r⟩
theorem dw_and (h : DT X a ca) (g : DW X (.BoolOp .And (b :: rest) pos) cb) : DW X (.BoolOp .And (a :: b :: rest) pos) (andB ca cb) := by
  obtain ⟨t, p, r⟩ := h
  obtain ⟨u, p2, r2⟩ := g
  refine ⟨_, pw_and p p2, fun F σ H ρ d Q hk S hf q => ?_⟩
  unfold andB at hf
  split at hf
  · refine r F σ H ρ true _ hk S ‹_› fun H' e' => ?_
    exact r2 F σ H' ρ d Q hk (S.ext e') hf fun H2 e2 => q H2 (e'.trans e2)
  · cases hf
    exact r F σ H ρ false _ hk S ‹_› fun H' e' => q H' e'
  · cases hf
theorem dw_or (h : DT X a ca) (g : DW X (.BoolOp .Or (b :: rest) pos) cb) : DW X (.BoolOp .Or (a :: b :: rest) pos) (orB ca cb) := by
  obtain ⟨t, p, r⟩ := h
  obtain ⟨u, p2, r2⟩ := g
  refine ⟨_, pw_or p p2, fun F σ H ρ d Q hk S hf q => ?_⟩
  unfold orB at hf
  split at hf
  · cases hf
    exact r F σ H ρ true _ hk S ‹_› fun H' e' => q H' e'
  · refine r F σ H ρ false _ hk S ‹_› fun H' e' => ?_
    exact r2 F σ H' ρ d Q hk (S.ext e') hf fun H2 e2 => q H2 (e'.trans e2)
  · cases hf
theorem dt_not (h : DT X a ca) : DT X (.UnaryOp .Not a pos) (notB ca) := by
  obtain ⟨t, p, r⟩ := h
  refine ⟨_, pt_not p, fun F σ H ρ d Q hk S hf q => ?_⟩
  unfold notB at hf
  split at hf
  · cases hf
    exact r F σ H ρ _ _ hk S ‹_› fun H' e' => q H' e'
  · cases hf

/-! ### and, or, not of values (bools) -/
def andV (fa fb : Rho → Option D) : Rho → Option D := fun ρ => match fa ρ with
  | some (.bl true) => fb ρ
  | some (.bl false) => some (.bl false)
  | _ => none
def orV (fa fb : Rho → Option D) : Rho → Option D := fun ρ => match fa ρ with
  | some (.bl true) => some (.bl true)
  | some (.bl false) => fb ρ
  | _ => none
def notV (fa : Rho → Option D) : Rho → Option D := fun ρ => match fa ρ with
  | some (.bl b) => some (.bl (!b))
  | _ => none
theorem dp_one {op : BoolOp} (h : DP X m a fa) : DP X m (.BoolOp op [a] pos) fa := let ⟨t, p, r⟩ := h; ⟨t, pe_one p, r⟩
theorem dp_and (h : DP X m a fa) (g : DP X m (.BoolOp .And (b :: rest) pos) fb) : DP X m (.BoolOp .And (a :: b :: rest) pos) (andV fa fb) := by
  obtain ⟨t, p, r⟩ := h
  obtain ⟨u, p2, r2⟩ := g
  refine ⟨_, pe_and p p2, fun F σ H ρ d Q hk S hf q => ?_⟩
  unfold andV at hf
  split at hf
  · refine r F σ H ρ _ _ hk S ‹_› fun v H' e' rr => ⟨true, rr.bl_eq, ?_⟩
    rw [if_pos rfl]
    exact r2 F σ H' ρ d Q hk (S.ext e') hf fun v H2 e2 => q v H2 (e'.trans e2)
  · cases hf
    refine r F σ H ρ _ _ hk S ‹_› fun v H' e' rr => ⟨false, rr.bl_eq, ?_⟩
    rw [if_neg Bool.false_ne_true]
    exact q _ H' e' rep_bl
  · cases hf
theorem dp_or (h : DP X m a fa) (g : DP X m (.BoolOp .Or (b :: rest) pos) fb) : DP X m (.BoolOp .Or (a :: b :: rest) pos) (orV fa fb) := by
  obtain ⟨t, p, r⟩ := h
  obtain ⟨u, p2, r2⟩ := g
  refine ⟨_, pe_or p p2, fun F σ H ρ d Q hk S hf q => ?_⟩
  unfold orV at hf
  split at hf
  · cases hf
    refine r F σ H ρ _ _ hk S ‹_› fun v H' e' rr => ⟨true, rr.bl_eq, ?_⟩
    rw [if_pos rfl]
    exact q _ H' e' rep_bl
  · refine r F σ H ρ _ _ hk S ‹_› fun v H' e' rr => ⟨false, rr.bl_eq, ?_⟩
    rw [if_neg Bool.false_ne_true]
    exact r2 F σ H' ρ d Q hk (S.ext e') hf fun v H2 e2 => q v H2 (e'.trans e2)
  · cases hf
theorem dp_not (h : DP X m a fa) : DP X m (.UnaryOp .Not a pos) (notV fa) := by
  obtain ⟨t, p, r⟩ := h
  refine ⟨_, pe_not p, fun F σ H ρ d Q hk S hf q => ?_⟩
  unfold notV at hf
  split at hf
  · cases hf
    exact r F σ H ρ _ _ hk S ‹_› fun v H' e' rr => ⟨_, rr.bl_eq, q _ H' e' rep_bl⟩
  · cases hf
/-- a if t else b -/
def ifV (c : Rho → Option Bool) (fa fb : Rho → Option D) : Rho → Option D := fun ρ => match c ρ with
  | some true => fa ρ
  | some false => fb ρ
  | none => none
theorem dp_if (hc : DT X c ca) (ha : DP X m a fa) (hb : DP X m b fb) : DP X m (.IfExp c a b pos) (ifV ca fa fb) := by
  obtain ⟨t, p, r⟩ := hc
  obtain ⟨ta, pa, ra⟩ := ha
  obtain ⟨tb, pb, rb⟩ := hb
  refine ⟨_, pe_ifExp p pa pb, fun F σ H ρ d Q hk S hf q => ?_⟩
  unfold ifV at hf
  split at hf
  · refine r F σ H ρ true _ hk S ‹_› fun H' e' => ?_
    rw [if_pos rfl]
    exact ra F σ H' ρ d Q hk (S.ext e') hf fun v H2 e2 => q v H2 (e'.trans e2)
  · refine r F σ H ρ false _ hk S ‹_› fun H' e' => ?_
    rw [if_neg Bool.false_ne_true]
    exact rb F σ H' ρ d Q hk (S.ext e') hf fun v H2 e2 => q v H2 (e'.trans e2)
  · cases hf
/-- a op b op' c -/
def chn (g g' : D → D → Option D) (fa fb fc : Rho → Option D) : Rho → Option D := fun ρ => match fa ρ with
  | some x => match fb ρ with
    | some y => match g x y with
      | some (.bl true) => match fc ρ with
        | some z => g' y z
        | none => none
      | some (.bl false) => some (.bl false)
      | _ => none
    | none => none
  | none => none
theorem chn_run {g g' : D → D → Option D} {ta tb tc : TE}
    (ra : ∀ (F : Fm) (σ : L2.St) (H : Hp) (ρ : Rho) (d : D) (Q : VK), F.K = X.K → Sim F σ H ρ → fa ρ = some d → (∀ v H', Same H H' → Rep X.K (see m F H' σ ρ) d v → Q v H') → ta σ H Q)
    (rb : ∀ (F : Fm) (σ : L2.St) (H : Hp) (ρ : Rho) (d : D) (Q : VK), F.K = X.K → Sim F σ H ρ → fb ρ = some d → (∀ v H', Same H H' → Rep X.K (see m F H' σ ρ) d v → Q v H') → tb σ H Q)
    (rc : ∀ (F : Fm) (σ : L2.St) (H : Hp) (ρ : Rho) (d : D) (Q : VK), F.K = X.K → Sim F σ H ρ → fc ρ = some d → (∀ v H', Same H H' → Rep X.K (see m F H' σ ρ) d v → Q v H') → tc σ H Q)
    {F : Fm} {σ : L2.St} {H : Hp} {ρ : Rho} {d : D} {Q : VK} (hk : F.K = X.K) (S : Sim F σ H ρ) (hf : chn g g' fa fb fc ρ = some d) (q : ∀ v H', Same H H' → Rep X.K (see m F H' σ ρ) d v → Q v H') :
    tChain (rD2 X.K g) (rD2 X.K g') ta tb tc σ H Q := by
  unfold chn at hf
  split at hf
  · rename_i x hx
    split at hf
    · rename_i y hy
      split at hf
      · rename_i hg
        split at hf
        · rename_i z hz
          refine ra F σ H ρ x _ hk S hx fun v H1 e1 q1 => rb F σ H1 ρ y _ hk (S.ext e1) hy fun u H2 e2 q2 => ?_
          refine ⟨see m F H2 σ ρ, x, y, _, see_sub, q1.mono (see_mono e2), q2, hg, fun w H3 e3 q3 => ⟨true, q3.bl_eq, ?_⟩⟩
          rw [if_pos rfl]
          refine rc F σ H3 ρ z _ hk (S.ext ((e1.trans e2).trans e3)) hz fun w H4 e4 q4 => ?_
          exact ⟨see m F H4 σ ρ, y, z, d, see_sub, q2.mono (see_mono (e3.trans e4)), q4, hf, fun w H5 e5 q5 => q w H5 (((e1.trans e2).trans (e3.trans e4)).trans e5) (q5.mono (see_vis (S.ext ((e1.trans e2).trans (e3.trans e4))) e5))⟩
        · cases hf
      · rename_i hg
        cases hf
        refine ra F σ H ρ x _ hk S hx fun v H1 e1 q1 => rb F σ H1 ρ y _ hk (S.ext e1) hy fun u H2 e2 q2 => ?_
        refine ⟨see m F H2 σ ρ, x, y, _, see_sub, q1.mono (see_mono e2), q2, hg, fun w H3 e3 q3 => ⟨false, q3.bl_eq, ?_⟩⟩
        rw [if_neg Bool.false_ne_true]
        exact q _ H3 ((e1.trans e2).trans e3) rep_bl
      · cases hf
    · cases hf
  · cases hf
theorem dp_chain {op op' : CmpOp} {g g' : D → D → Option D} (ho : OpR X (compareOp op) (rD2 X.K g)) (ho' : OpR X (compareOp op') (rD2 X.K g')) (ha : DP X m a fa) (hb : DP X m b fb) (hc : DP X m c fc)
    (hm : lastMarks [op, op'] [b, c] = false := by with_unfolding_all rfl) : DP X m (.Compare a [op, op'] [b, c] pos) (chn g g' fa fb fc) := by
  obtain ⟨ta, pa, ra⟩ := ha
  obtain ⟨tb, pb, rb⟩ := hb
  obtain ⟨tc, pc, rc⟩ := hc
  exact ⟨_, pe_chain ho ho' pa pb pc hm, fun F σ H ρ d Q hk S hf q => chn_run ra rb rc hk S hf q⟩
theorem dt_chain {op op' : CmpOp} {g g' : D → D → Option D} (ho : OpR X (compareOp op) (rD2 X.K g)) (ho' : OpR X (compareOp op') (rD2 X.K g')) (ha : DP X m a fa) (hb : DP X m b fb) (hc : DP X m c fc)
    (hm : lastMarks [op, op'] [b, c] = false := by with_unfolding_all rfl) : DT X (.Compare a [op, op'] [b, c] pos) (fun ρ => boolD (chn g g' fa fb fc ρ)) := by
  obtain ⟨ta, pa, ra⟩ := ha
  obtain ⟨tb, pb, rb⟩ := hb
  obtain ⟨tc, pc, rc⟩ := hc
  exact ⟨_, pt_chain ho ho' pa pb pc hm, fun F σ H ρ d Q hk S hf q => chn_run ra rb rc hk S (boolD_some hf) fun v H' e' r => ⟨d, r.bl_eq, q H' e'⟩⟩

/-! ### argument lists, displays, calls -/
def nilA : Rho → Option (List D) := fun _ => some []
def consA (fa : Rho → Option D) (fs : Rho → Option (List D)) : Rho → Option (List D) := fun ρ => match fa ρ with
  | some x => match fs ρ with
    | some xs => some (x :: xs)
    | none => none
  | none => none
variable {fs : Rho → Option (List D)}
theorem consA_some {ρ : Rho} {ds : List D} (h : consA fa fs ρ = some ds) : ∃ x xs, fa ρ = some x ∧ fs ρ = some xs ∧ ds = x :: xs := by
  unfold consA at h
  split at h
  · split at h
    · cases h
      exact ⟨_, _, ‹_›, ‹_›, rfl⟩
    · cases h
  · cases h
theorem dps_nil : DPs X m [] nilA := by
  refine ⟨_, pa_nil, fun F σ H ρ ds Q hk S hf q => ?_⟩
  cases hf
  exact q _ H (Same.refl H) .nil
theorem dps_cons (h : DP X m e fa) (g : DPs X m es fs) (hs : starEach (e :: es) X.env = (false, eval e X.env) :: starEach es X.env := by rfl) : DPs X m (e :: es) (consA fa fs) := by
  obtain ⟨t, p, r⟩ := h
  obtain ⟨u, p2, r2⟩ := g
  refine ⟨_, pa_cons p p2 hs, fun F σ H ρ ds Q hk S hf q => ?_⟩
  obtain ⟨x, xs, h1, h2, rfl⟩ := consA_some hf
  refine r F σ H ρ x _ hk S h1 fun v H1 e1 q1 => r2 F σ H1 ρ xs _ hk (S.ext e1) h2 fun vs H2 e2 q2 => ?_
  exact q _ H2 (e1.trans e2) (.cons (q1.mono (see_mono e2)) q2)
/-- a display: at most 1000 items -/
def dsp (t : Bool) (fs : Rho → Option (List D)) : Rho → Option D := fun ρ => match fs ρ with
  | some ds => if ds.length ≤ 1000 then some (.sq t ds) else none
  | none => none
theorem dsp_some {t : Bool} {ρ : Rho} {d : D} (h : dsp t fs ρ = some d) : ∃ ds, fs ρ = some ds ∧ ds.length ≤ 1000 ∧ d = .sq t ds := by
  unfold dsp at h
  split at h
  · split at h
    · cases h
      exact ⟨_, ‹_›, ‹_›, rfl⟩
    · cases h
  · cases h
theorem same_new {H : Hp} {p : Addr} {o : HO} (h : H p = none) : Same H (upd H p o) := fun b u e => by
  rw [upd_ne (ne_of_none e h)]
  exact e
theorem see_new {F : Fm} {σ : L2.St} {H : Hp} {ρ : Rho} {p : Addr} {o : HO} (S : Sim F σ H ρ) (h : H p = none) : see m F (upd H p o) σ ρ p = some o := by
  obtain ⟨a, b⟩ := S.fresh h
  exact see_of upd_same (.inr ⟨a, fun z => (z b).elim⟩)
theorem dp_tup {k : Nat} (h : DPs X m es fs) : DP X m (.Tuple es k pos) (dsp true fs) := by
  obtain ⟨t, p, r⟩ := h
  refine ⟨_, pe_tup p, fun F σ H ρ d Q hk S hf q => ?_⟩
  obtain ⟨ds, h1, h2, rfl⟩ := dsp_some hf
  refine r F σ H ρ ds _ hk S h1 fun vs H1 e1 q1 => ?_
  have hl : vs.length ≤ sizeLine := by rw [← q1.length, sizeLine_eq]; omega
  refine ⟨hl, fun a ha => q _ _ (e1.trans (same_new ha)) ?_⟩
  exact rep_sq (t := true) (.inl (.inl (see_new (S.ext e1) ha))) hl (q1.mono (see_mono (same_new ha)))
theorem dp_lst (h : DPs X m es fs) : DP X m (.List es pos) (dsp false fs) := by
  obtain ⟨t, p, r⟩ := h
  refine ⟨_, pe_lst p, fun F σ H ρ d Q hk S hf q => ?_⟩
  obtain ⟨ds, h1, h2, rfl⟩ := dsp_some hf
  refine r F σ H ρ ds _ hk S h1 fun vs H1 e1 q1 => ?_
  have hl : vs.length ≤ sizeLine := by rw [← q1.length, sizeLine_eq]; omega
  refine ⟨hl, fun a ha => q _ _ (e1.trans (same_new ha)) ?_⟩
  exact rep_sq (t := false) (.inl (.inl (see_new (S.ext e1) ha))) hl (q1.mono (see_mono (same_new ha)))
def mny (g : List D → Option D) (fs : Rho → Option (List D)) : Rho → Option D := fun ρ => match fs ρ with
  | some ds => g ds
  | none => none
theorem mny_some {g : List D → Option D} {ρ : Rho} {d : D} (h : mny g fs ρ = some d) : ∃ ds, fs ρ = some ds ∧ g ds = some d := by
  unfold mny at h
  split at h
  · exact ⟨_, ‹_›, h⟩
  · cases h
theorem mny_run {g : List D → Option D} {t : TA}
    (r : ∀ (F : Fm) (σ : L2.St) (H : Hp) (ρ : Rho) (ds : List D) (Q : List V → Hp → Prop), F.K = X.K → Sim F σ H ρ → fs ρ = some ds → (∀ vs H', Same H H' → Reps X.K (see m F H' σ ρ) ds vs → Q vs H') → t σ H Q)
    {F : Fm} {σ : L2.St} {H : Hp} {ρ : Rho} {d : D} {Q : VK} (hk : F.K = X.K) (S : Sim F σ H ρ) (hf : mny g fs ρ = some d) (q : ∀ v H', Same H H' → Rep X.K (see m F H' σ ρ) d v → Q v H') :
    t σ H fun vs H1 => rDs X.K g vs H1 Q := by
  obtain ⟨ds, h1, h2⟩ := mny_some hf
  refine r F σ H ρ ds _ hk S h1 fun vs H1 e1 q1 => ?_
  exact ⟨see m F H1 σ ρ, ds, d, see_sub, q1, h2, fun z H2 e2 q2 => q z H2 (e1.trans e2) (q2.mono (see_vis (S.ext e1) e2))⟩
theorem dp_callB {id : String} {x : Str} {p : Pos} {g : List D → Option D} (hc : CallR X (.builtin id) (rDs X.K g)) (hg : Gl X x) (hm : X.mg x = none) (hv : bootBuiltins x = some (.builtin id)) (ha : DPs X m (e :: es) fs) (hn : x ≠ "__name__" := by decide) (hdb : (x == ("__debug__" : Str)) = false := by decide)
    (he : starEach (e :: es) X.env = (false, eval e X.env) :: starEach es X.env := by rfl) (hpl : (backTo pos (starEach es X.env)).any (·.1) = false := by rfl) : DP X m (.Call (.Name x p) (e :: es) [] pos) (mny g fs) := by
  obtain ⟨t, pa, r⟩ := ha
  exact ⟨_, pe_callB hc hg hm hv pa hn hdb he hpl, fun F σ H ρ d Q hk S hf q => mny_run r hk S hf q⟩
theorem dp_callTy {T : String} {x : Str} {p : Pos} {g : List D → Option D} (hc : CallR X (.type T) (rDs X.K g)) (hg : Gl X x) (hm : X.mg x = none) (hv : bootBuiltins x = some (.type T)) (ha : DPs X m (e :: es) fs) (hn : x ≠ "__name__" := by decide) (hdb : (x == ("__debug__" : Str)) = false := by decide)
    (he : starEach (e :: es) X.env = (false, eval e X.env) :: starEach es X.env := by rfl) (hpl : (backTo pos (starEach es X.env)).any (·.1) = false := by rfl) : DP X m (.Call (.Name x p) (e :: es) [] pos) (mny g fs) := by
  obtain ⟨t, pa, r⟩ := ha
  exact ⟨_, pe_callTy hc hg hm hv pa hn hdb he hpl, fun F σ H ρ d Q hk S hf q => mny_run r hk S hf q⟩
/-- what a def that changes nothing promises -/
def spP (K : PySem.W.Frag) (g : List D → Option D) : Sp := fun vs H Q _ => rDs K g vs H Q
theorem dp_call {CX : CXT} {k : Nat} {f : Addr} {fd : FuncData} {ps : List Str} {x : Str} {p : Pos} {g : List D → Option D} {E : XK} (F : FnOk X.prog X.w X.K X.mg X.base CX k f fd ps (spP X.K g)) (hr : Room k X.A) (hg : Gl X x) (hm : X.mg x = some (.ref f)) (hk : PySem.W.keepIn X.K (.ref f) = true)
    (hb : Binds X.K fd ps []) (hx : Passes CX X E) (ha : DPs X m (e :: es) fs) (hdb : (x == ("__debug__" : Str)) = false := by decide) (he : starEach (e :: es) X.env = (false, eval e X.env) :: starEach es X.env := by rfl) (hpl : (backTo pos (starEach es X.env)).any (·.1) = false := by rfl) :
    DP X m (.Call (.Name x p) (e :: es) [] pos) (mny g fs) := by
  obtain ⟨t, pa, r⟩ := ha
  refine ⟨_, pe_call F hr hg hm hk hb .nil hx pa hdb he hpl, fun F' σ H ρ d Q hk' S hf q => ?_⟩
  have h := mny_run r hk' S hf q
  show t σ H fun vs H1 => rDs X.K g (vs ++ []) H1 Q
  simpa using h

/-! ### slices -/
def cutD (xs : List D) (lo hi : Option Int) : List D := (xs.drop (HT.sIx xs.length 0 lo)).take (HT.sIx xs.length xs.length hi - HT.sIx xs.length 0 lo)
def slD (d : D) (lo hi : Option Int) : Option D := match d with
  | .sq t xs => if t = true ∧ HT.sIx xs.length 0 lo = 0 ∧ HT.sIx xs.length xs.length hi = xs.length then none else some (.sq t (cutD xs lo hi))
  | _ => none
theorem cutD_rep {K : PySem.W.Frag} {G : Hp} {ds : List D} {vs : List V} (r : Reps K G ds vs) (lo hi : Option Int) : Reps K G (cutD ds lo hi) (cutV vs lo hi) := by
  unfold cutD cutV
  rw [r.length]
  exact (r.drop _).take _
/-- a slice's part -/
def DO (X : Cx) (e : Option Expr) (f : Rho → Option (Option Int)) : Prop :=
  ∃ t, PO X e t ∧ ∀ (F : Fm) (σ : L2.St) (H : Hp) (ρ : Rho) (o : Option Int) (Q : Option Int → Hp → Prop), F.K = X.K → Sim F σ H ρ → f ρ = some o → (∀ H', Same H H' → Q o H') → t σ H Q
def noO : Rho → Option (Option Int) := fun _ => some none
def intO (fa : Rho → Option D) : Rho → Option (Option Int) := fun ρ => match fa ρ with
  | some (.int i) => some (some i)
  | _ => none
theorem do_none : DO X none noO := ⟨_, po_none, fun F σ H ρ o Q hk S hf q => by cases hf; exact q H (Same.refl H)⟩
theorem do_some (h : DP X m e fa) : DO X (some e) (intO fa) := by
  obtain ⟨t, p, r⟩ := h
  refine ⟨_, po_some p, fun F σ H ρ o Q hk S hf q => ?_⟩
  unfold intO at hf
  split at hf
  · cases hf
    exact r F σ H ρ _ _ hk S ‹_› fun v H' e' rr => ⟨_, rr.int_eq, q H' e'⟩
  · cases hf
def slc (fa : Rho → Option D) (fl fh : Rho → Option (Option Int)) : Rho → Option D := fun ρ => match fa ρ with
  | some x => match fl ρ with
    | some lo => match fh ρ with
      | some hi => slD x lo hi
      | none => none
    | none => none
  | none => none
def rSlD (K : PySem.W.Frag) : V → Option Int → Option Int → Hp → VK → Prop := fun x lo hi H Q => rSlL K x lo hi H Q ∨ rSlT K x lo hi H Q
theorem dp_slice {lo hi : Option Expr} {p2 : Pos} {fl fh : Rho → Option (Option Int)} (ha : DP X m a fa) (hl : DO X lo fl) (hh : DO X hi fh) : DP X m (.Subscript a (.Slice lo hi none p2) pos) (slc fa fl fh) := by
  obtain ⟨t, p, r⟩ := ha
  obtain ⟨t1, p1, r1⟩ := hl
  obtain ⟨t2, p3, r2⟩ := hh
  refine ⟨_, pe_slice (SlR.or sl_list sl_tup) p p1 p3, fun F σ H ρ d Q hk S hf q => ?_⟩
  unfold slc at hf
  split at hf
  · rename_i x hx
    split at hf
    · rename_i l hl
      split at hf
      · rename_i h' hh'
        refine r F σ H ρ x _ hk S hx fun v H1 e1 q1 => r1 F σ H1 ρ l _ hk (S.ext e1) hl fun H2 e2 => r2 F σ H2 ρ h' _ hk (S.ext (e1.trans e2)) hh' fun H3 e3 => ?_
        have e13 := e1.trans (e2.trans e3)
        unfold slD at hf
        split at hf
        · rename_i ty xs
          split at hf
          · cases hf
          · rename_i hw
            cases hf
            obtain ⟨a1, vs, e4, s1, z1, rr⟩ := (q1.mono (see_mono (e2.trans e3))).sq_eq
            have hcl : (cutV vs l h').length ≤ sizeLine := Nat.le_trans (cutV_length vs l h') z1
            cases ty with
            | false =>
              refine .inl ⟨a1, vs, e4, Sq.mono see_sub (t := false) s1, fun a ha => q _ _ (e13.trans (same_new ha)) ?_⟩
              exact rep_sq (t := false) (.inl (.inl (see_new (S.ext e13) ha))) hcl ((cutD_rep rr l h').mono (see_mono (same_new ha)))
            | true =>
              refine .inr ⟨a1, vs, e4, Sq.mono see_sub (t := true) s1, ?_, fun a ha => q _ _ (e13.trans (same_new ha)) ?_⟩
              · rw [← rr.length]
                exact fun z => hw ⟨rfl, z.1, z.2⟩
              · exact rep_sq (t := true) (.inl (.inl (see_new (S.ext e13) ha))) hcl ((cutD_rep rr l h').mono (see_mono (same_new ha)))
        · cases hf
      · cases hf
    · cases hf
  · cases hf
end
end DL

-- DL5
/-! DL5: built-in functions on data. -/
namespace DL
open PySem PySem.Spec PyProof.Rows L2

section
variable {X : Cx}
theorem callD {f : Value} {g : List D → Option D}
    (rule : ∀ (pins : List (Addr × Obj)) (s : Shared) (σ : L2.St) (H G : Hp) (xs : List V) (us : List Value) (as : List D) (d : D) (Q : VK), Inv X pins σ H s → Vals xs us → Same G H → Reps X.K G as xs → g as = some d →
      (∀ z H', Same H H' → Rep X.K (vis G H H') d z → Q z H') → wpAny (model X.prog X.w) X.A (call f us) (EP X pins σ Q) X.xe s) : CallR X f (rDs X.K g) := by
  intro pins s σ H xs us Q I r h
  obtain ⟨G, as, d, e, ra, hg, q⟩ := h
  exact rule pins s σ H G xs us as d Q I r e ra hg q
theorem reps1 {K : PySem.W.Frag} {H : Hp} {d : D} {vs : List V} (h : Reps K H [d] vs) : ∃ v, vs = [v] ∧ Rep K H d v := by
  rw [Reps] at h
  obtain ⟨v, r, e, h1, h2⟩ := h
  rw [Reps] at h2
  subst h2
  exact ⟨v, e, h1⟩
theorem reps2 {K : PySem.W.Frag} {H : Hp} {d d' : D} {vs : List V} (h : Reps K H [d, d'] vs) : ∃ v v', vs = [v, v'] ∧ Rep K H d v ∧ Rep K H d' v' := by
  rw [Reps] at h
  obtain ⟨v, r, e, h1, h2⟩ := h
  obtain ⟨v', e2, h3⟩ := reps1 h2
  subst e2
  exact ⟨v, v', e, h1, h3⟩

def lenD : List D → Option D
  | [.sq _ xs] => some (.int (xs.length : Int))
  | [.str z] => if z.length ≤ 16777216 then some (.int (z.length : Int)) else none
  | _ => none
theorem c_len : CallR X (.builtin "len") (rDs X.K lenD) := callD fun pins s σ H G xs us as d Q I r e ra hg q => by
  unfold lenD at hg
  split at hg
  · rename_i t ds
    cases hg
    obtain ⟨v, rfl, rv⟩ := reps1 ra
    obtain ⟨a, vs, rfl, h1, h2, h3⟩ := rv.sq_eq
    refine call_len pins s σ H _ us Q I r ⟨.ref a, ds.length, rfl, ?_, q _ _ (Same.refl H) rep_int⟩
    cases t with
    | false => exact .inl ⟨vs, Sq.mono e (t := false) h1, h3.length⟩
    | true => exact .inr ⟨vs, Sq.mono e (t := true) h1, h3.length⟩
  · rename_i z
    split at hg
    · rename_i hz
      cases hg
      obtain ⟨v, rfl, rv⟩ := reps1 ra
      have e' := rv.str_eq
      subst e'
      exact call_len pins s σ H _ us Q I r ⟨.str z, z.length, rfl, ⟨by rw [sizeLine_eq]; exact hz, rfl⟩, q _ _ (Same.refl H) rep_int⟩
    · cases hg
  · cases hg
def listD : List D → Option D
  | [.sq _ xs] => some (.sq false xs)
  | _ => none
def tupleD : List D → Option D
  | [.sq _ xs] => some (.sq true xs)
  | _ => none
theorem fin_upd {pins : List (Addr × Obj)} {H G : Hp} {Q : VK} {ds : List D} {vs : List V} {a : Addr} (t : Bool) (e : Same G H) (hn : H a = none) (hz : vs.length ≤ sizeLine) (rs : Reps X.K G ds vs)
    (q : ∀ z H', Same H H' → Rep X.K (vis G H H') (.sq t ds) z → Q z H') : Q (.ref a) (upd H a (if t = true then .tup vs else .lst vs)) := by
  refine q _ _ (same_new hn) ?_
  cases t with
  | false => exact rep_sq (t := false) (.inl (.inl (vis_new upd_same hn))) hz (rs.mono (vis_self e (same_new hn)))
  | true => exact rep_sq (t := true) (.inl (.inl (vis_new upd_same hn))) hz (rs.mono (vis_self e (same_new hn)))
theorem c_list : CallR X (.type "list") (rDs X.K listD) := callD fun pins s σ H G xs us as d Q I r e ra hg q => by
  unfold listD at hg
  split at hg
  · rename_i t ds
    cases hg
    obtain ⟨v, rfl, rv⟩ := reps1 ra
    obtain ⟨a, vs, rfl, h1, h2, h3⟩ := rv.sq_eq
    refine call_list_of pins s σ H _ us Q I r ⟨a, vs, rfl, ?_, fun l hl => fin_upd (pins := pins) false e hl h2 h3 q⟩
    cases t with
    | false => exact .inl (Sq.mono e (t := false) h1)
    | true => exact .inr (Sq.mono e (t := true) h1)
  · cases hg
theorem c_tuple : CallR X (.type "tuple") (rDs X.K tupleD) := callD fun pins s σ H G xs us as d Q I r e ra hg q => by
  unfold tupleD at hg
  split at hg
  · rename_i t ds
    cases hg
    obtain ⟨v, rfl, rv⟩ := reps1 ra
    have rv' := rv
    obtain ⟨a, vs, rfl, h1, h2, h3⟩ := rv.sq_eq
    refine call_tuple_of pins s σ H _ us Q I r ⟨a, vs, rfl, ?_⟩
    cases t with
    | false => exact .inl ⟨Sq.mono e (t := false) h1, fun l hl => fin_upd (pins := pins) true e hl h2 h3 q⟩
    | true => exact .inr ⟨Sq.mono e (t := true) h1, q _ _ (Same.refl H) (rv'.mono (vis_self e (Same.refl H)))⟩
  · cases hg
def absD : List D → Option D
  | [.int i] => some (.int (if i < 0 then -i else i))
  | _ => none
theorem c_abs : CallR X (.builtin "abs") (rDs X.K absD) := callD fun pins s σ H G xs us as d Q I r e ra hg q => by
  unfold absD at hg
  split at hg
  · rename_i i
    cases hg
    obtain ⟨v, rfl, rv⟩ := reps1 ra
    exact call_abs pins s σ H _ us Q I r ⟨i, by rw [rv.int_eq], q _ _ (Same.refl H) rep_int⟩
  · cases hg
def intC : List D → Option D
  | [.int i] => some (.int i)
  | [.bl b] => some (.int (if b then 1 else 0))
  | _ => none
theorem c_int : CallR X (.type "int") (rDs X.K intC) := callD fun pins s σ H G xs us as d Q I r e ra hg q => by
  unfold intC at hg
  split at hg
  · rename_i i
    cases hg
    obtain ⟨v, rfl, rv⟩ := reps1 ra
    exact call_int1 pins s σ H _ us Q I r (.inl ⟨i, by rw [rv.int_eq], q _ _ (Same.refl H) rep_int⟩)
  · rename_i b
    cases hg
    obtain ⟨v, rfl, rv⟩ := reps1 ra
    exact call_int1 pins s σ H _ us Q I r (.inr ⟨b, by rw [rv.bl_eq], q _ _ (Same.refl H) rep_int⟩)
  · cases hg

/-! ### lists of ints, of bools -/
def intsD : List D → Option (List Int)
  | [] => some []
  | .int i :: r => match intsD r with
    | some ns => some (i :: ns)
    | none => none
  | _ :: _ => none
def blsD : List D → Option (List Bool)
  | [] => some []
  | .bl i :: r => match blsD r with
    | some ns => some (i :: ns)
    | none => none
  | _ :: _ => none
theorem intsD_map : ∀ ns : List Int, intsD (ns.map D.int) = some ns
  | [] => rfl
  | n :: ns => by
    rw [List.map_cons, intsD, intsD_map ns]
theorem blsD_map : ∀ ns : List Bool, blsD (ns.map D.bl) = some ns
  | [] => rfl
  | n :: ns => by
    rw [List.map_cons, blsD, blsD_map ns]
theorem intsD_eq : ∀ {ds : List D} {ns : List Int}, intsD ds = some ns → ds = ns.map D.int
  | [], ns, h => by
    cases h
    rfl
  | .int i :: r, ns, h => by
    rw [intsD] at h
    split at h
    · rename_i ms hm
      cases h
      rw [List.map_cons, ← intsD_eq hm]
    · cases h
  | .non :: _, _, h => by cases h
  | .bl _ :: _, _, h => by cases h
  | .str _ :: _, _, h => by cases h
  | .sq _ _ :: _, _, h => by cases h
theorem blsD_eq : ∀ {ds : List D} {ns : List Bool}, blsD ds = some ns → ds = ns.map D.bl
  | [], ns, h => by
    cases h
    rfl
  | .bl i :: r, ns, h => by
    rw [blsD] at h
    split at h
    · rename_i ms hm
      cases h
      rw [List.map_cons, ← blsD_eq hm]
    · cases h
  | .non :: _, _, h => by cases h
  | .int _ :: _, _, h => by cases h
  | .str _ :: _, _, h => by cases h
  | .sq _ _ :: _, _, h => by cases h
theorem reps_ints {K : PySem.W.Frag} {H : Hp} : ∀ {ns : List Int} {vs : List V}, Reps K H (ns.map D.int) vs → vs = ns.map V.int
  | [], vs, h => by
    rw [List.map_nil, Reps] at h
    exact h
  | n :: ns, vs, h => by
    rw [List.map_cons, Reps] at h
    obtain ⟨v, r, e, h1, h2⟩ := h
    rw [e, h1.int_eq, reps_ints h2]
    rfl
theorem reps_bls {K : PySem.W.Frag} {H : Hp} : ∀ {ns : List Bool} {vs : List V}, Reps K H (ns.map D.bl) vs → vs = ns.map V.bl
  | [], vs, h => by
    rw [List.map_nil, Reps] at h
    exact h
  | n :: ns, vs, h => by
    rw [List.map_cons, Reps] at h
    obtain ⟨v, r, e, h1, h2⟩ := h
    rw [e, h1.bl_eq, reps_bls h2]
    rfl
/-- sum of a list of ints -/
def sumD : List D → Option D
  | [.sq false xs] => match intsD xs with
    | some ns => some (.int ns.sum)
    | none => none
  | _ => none
theorem c_sum (o : Okx X) : CallR X (.builtin "sum") (rDs X.K sumD) := callD fun pins s σ H G xs us as d Q I r e ra hg q => by
  unfold sumD at hg
  split at hg
  · rename_i ds
    split at hg
    · rename_i ns hn
      cases hg
      obtain ⟨v, rfl, rv⟩ := reps1 ra
      obtain ⟨a, vs, rfl, h1, h2, h3⟩ := rv.sq_eq
      have e1 := intsD_eq hn
      subst e1
      have e2 := reps_ints h3
      subst e2
      exact cr_sum o.calm pins s σ H _ us Q I r ⟨a, ns, rfl, Sq.mono e (t := false) h1, q _ _ (Same.refl H) rep_int⟩
    · cases hg
  · cases hg
/-- all of a list of bools -/
def allD : List D → Option D
  | [.sq false xs] => match blsD xs with
    | some ns => some (.bl (ns.all id))
    | none => none
  | _ => none
theorem c_all (o : Okx X) : CallR X (.builtin "all") (rDs X.K allD) := callD fun pins s σ H G xs us as d Q I r e ra hg q => by
  unfold allD at hg
  split at hg
  · rename_i ds
    split at hg
    · rename_i ns hn
      cases hg
      obtain ⟨v, rfl, rv⟩ := reps1 ra
      obtain ⟨a, vs, rfl, h1, h2, h3⟩ := rv.sq_eq
      have e1 := blsD_eq hn
      subst e1
      have e2 := reps_bls h3
      subst e2
      exact cr_all o.calm pins s σ H _ us Q I r ⟨a, ns, rfl, Sq.mono e (t := false) h1, q _ _ (Same.refl H) rep_bl⟩
    · cases hg
  · cases hg
def anyD : List D → Option D
  | [.sq false xs] => match blsD xs with
    | some ns => some (.bl (ns.any id))
    | none => none
  | _ => none
theorem c_any (o : Okx X) : CallR X (.builtin "any") (rDs X.K anyD) := callD fun pins s σ H G xs us as d Q I r e ra hg q => by
  unfold anyD at hg
  split at hg
  · rename_i ds
    split at hg
    · rename_i ns hn
      cases hg
      obtain ⟨v, rfl, rv⟩ := reps1 ra
      obtain ⟨a, vs, rfl, h1, h2, h3⟩ := rv.sq_eq
      have e1 := blsD_eq hn
      subst e1
      have e2 := reps_bls h3
      subst e2
      exact cr_any o.calm pins s σ H _ us Q I r ⟨a, ns, rfl, Sq.mono e (t := false) h1, q _ _ (Same.refl H) rep_bl⟩
    · cases hg
  · cases hg

/-! ### least, greatest -/
/-- may be ordered, any two -/
def okAll (xs : List D) : Bool := xs.all fun x => x.shal 50 && !x.isNon && xs.all fun y => D.alk x y
theorem okAll_of {xs : List D} (h : okAll xs = true) : PySem.W.AlikeAll (D.pys xs) ∧ PyData.depthAll (D.pys xs) ≤ 50 ∧ (∀ x ∈ xs, ∀ y ∈ xs, D.alk x y = true) ∧ ∀ x ∈ xs, x ≠ .non := by
  unfold okAll at h
  rw [List.all_eq_true] at h
  have h1 : ∀ x ∈ xs, ∀ y ∈ xs, D.alk x y = true := fun x hx y hy => by
    have q := h x hx
    rw [Bool.and_eq_true, List.all_eq_true] at q
    exact q.2 y hy
  have h2 : ∀ x ∈ xs, x ≠ .non := fun x hx => by
    have q := h x hx
    rw [Bool.and_eq_true, Bool.and_eq_true] at q
    rintro rfl
    cases q.1.2
  have h3 : ∀ x ∈ xs, x.shal 50 = true := fun x hx => by
    have q := h x hx
    rw [Bool.and_eq_true, Bool.and_eq_true] at q
    exact q.1.1
  refine ⟨⟨fun x hx y hy => ?_, fun x hx => ?_⟩, ?_, h1, h2⟩
  · rw [pys_map] at hx hy
    obtain ⟨x', hx', rfl⟩ := List.mem_map.mp hx
    obtain ⟨y', hy', rfl⟩ := List.mem_map.mp hy
    exact alk_py x' y' (h1 x' hx' y' hy')
  · rw [pys_map] at hx
    obtain ⟨x', hx', rfl⟩ := List.mem_map.mp hx
    exact py_none (h2 x' hx')
  · refine shals_py xs 50 ?_
    clear h h1 h2
    induction xs with
    | nil => rfl
    | cons x r ih =>
      rw [D.shals, h3 x List.mem_cons_self, ih fun y hy => h3 y (List.mem_cons_of_mem _ hy)]
      rfl
def least (x : D) (xs : List D) : D := xs.foldl (fun a y => if D.lt y a = true then y else a) x
def most (x : D) (xs : List D) : D := xs.foldl (fun a y => if D.lt a y = true then y else a) x
theorem least_mem : ∀ (xs : List D) (x : D), least x xs ∈ x :: xs
  | [], x => List.mem_cons_self
  | y :: xs, x => by
    unfold least
    rw [List.foldl_cons]
    have q := least_mem xs (if D.lt y x = true then y else x)
    unfold least at q
    rcases List.mem_cons.mp q with e | e
    · rw [e]
      by_cases h : D.lt y x = true
      · rw [if_pos h]; exact List.mem_cons_of_mem _ List.mem_cons_self
      · rw [if_neg h]; exact List.mem_cons_self
    · exact List.mem_cons_of_mem _ (List.mem_cons_of_mem _ e)
theorem most_mem : ∀ (xs : List D) (x : D), most x xs ∈ x :: xs
  | [], x => List.mem_cons_self
  | y :: xs, x => by
    unfold most
    rw [List.foldl_cons]
    have q := most_mem xs (if D.lt x y = true then y else x)
    unfold most at q
    rcases List.mem_cons.mp q with e | e
    · rw [e]
      by_cases h : D.lt x y = true
      · rw [if_pos h]; exact List.mem_cons_of_mem _ List.mem_cons_self
      · rw [if_neg h]; exact List.mem_cons_self
    · exact List.mem_cons_of_mem _ (List.mem_cons_of_mem _ e)
theorem least_py : ∀ (xs : List D) (x : D), (∀ a ∈ x :: xs, ∀ b ∈ x :: xs, D.alk a b = true) → (∀ a ∈ x :: xs, a ≠ .non) → PySem.W.minD x.py (D.pys xs) = (least x xs).py
  | [], x, _, _ => rfl
  | y :: xs, x, h, n => by
    have hy : y ∈ x :: y :: xs := List.mem_cons_of_mem _ List.mem_cons_self
    have e : PySem.W.dataLt y.py x.py = D.lt y x := lt_py y x (h y hy x List.mem_cons_self) (n y hy)
    have sub : ∀ a ∈ (if D.lt y x = true then y else x) :: xs, a ∈ x :: y :: xs := fun a ha => by
      rcases List.mem_cons.mp ha with rfl | ha
      · by_cases hl : D.lt y x = true
        · rw [if_pos hl]; exact hy
        · rw [if_neg hl]; exact List.mem_cons_self
      · exact List.mem_cons_of_mem _ (List.mem_cons_of_mem _ ha)
    have ih := least_py xs (if D.lt y x = true then y else x) (fun a ha b hb => h a (sub a ha) b (sub b hb)) fun a ha => n a (sub a ha)
    unfold PySem.W.minD least at ih ⊢
    rw [D.pys, List.foldl_cons, List.foldl_cons, ← ih, e]
    congr 1
    by_cases hl : D.lt y x = true
    · rw [if_pos hl, if_pos hl]
    · rw [if_neg hl, if_neg hl]
theorem most_py : ∀ (xs : List D) (x : D), (∀ a ∈ x :: xs, ∀ b ∈ x :: xs, D.alk a b = true) → (∀ a ∈ x :: xs, a ≠ .non) → PySem.W.maxD x.py (D.pys xs) = (most x xs).py
  | [], x, _, _ => rfl
  | y :: xs, x, h, n => by
    have hy : y ∈ x :: y :: xs := List.mem_cons_of_mem _ List.mem_cons_self
    have e : PySem.W.dataLt x.py y.py = D.lt x y := lt_py x y (h x List.mem_cons_self y hy) (n x List.mem_cons_self)
    have sub : ∀ a ∈ (if D.lt x y = true then y else x) :: xs, a ∈ x :: y :: xs := fun a ha => by
      rcases List.mem_cons.mp ha with rfl | ha
      · by_cases hl : D.lt x y = true
        · rw [if_pos hl]; exact hy
        · rw [if_neg hl]; exact List.mem_cons_self
      · exact List.mem_cons_of_mem _ (List.mem_cons_of_mem _ ha)
    have ih := most_py xs (if D.lt x y = true then y else x) (fun a ha b hb => h a (sub a ha) b (sub b hb)) fun a ha => n a (sub a ha)
    unfold PySem.W.maxD most at ih ⊢
    rw [D.pys, List.foldl_cons, List.foldl_cons, ← ih, e]
    congr 1
    by_cases hl : D.lt x y = true
    · rw [if_pos hl, if_pos hl]
    · rw [if_neg hl, if_neg hl]
mutual
theorem py_inj : ∀ a b : D, a.py = b.py → a = b
  | .non, .non, _ => rfl
  | .bl _, .bl _, h => by
    rw [D.py, D.py] at h
    injection h with h
    rw [h]
  | .int _, .int _, h => by
    rw [D.py, D.py] at h
    injection h with h
    rw [h]
  | .str _, .str _, h => by
    rw [D.py, D.py] at h
    injection h with h
    rw [h]
  | .sq false xs, .sq false ys, h => by
    rw [D.py, D.py] at h
    injection h with h
    rw [pys_inj xs ys h]
  | .sq true xs, .sq true ys, h => by
    rw [D.py, D.py] at h
    injection h with h
    rw [pys_inj xs ys h]
  | .sq false _, .sq true _, h => by rw [D.py, D.py] at h; cases h
  | .sq true _, .sq false _, h => by rw [D.py, D.py] at h; cases h
  | .non, .bl _, h => by cases h
  | .non, .int _, h => by cases h
  | .non, .str _, h => by cases h
  | .non, .sq false _, h => by cases h
  | .non, .sq true _, h => by cases h
  | .bl _, .non, h => by cases h
  | .bl _, .int _, h => by cases h
  | .bl _, .str _, h => by cases h
  | .bl _, .sq false _, h => by cases h
  | .bl _, .sq true _, h => by cases h
  | .int _, .non, h => by cases h
  | .int _, .bl _, h => by cases h
  | .int _, .str _, h => by cases h
  | .int _, .sq false _, h => by cases h
  | .int _, .sq true _, h => by cases h
  | .str _, .non, h => by cases h
  | .str _, .bl _, h => by cases h
  | .str _, .int _, h => by cases h
  | .str _, .sq false _, h => by cases h
  | .str _, .sq true _, h => by cases h
  | .sq false _, .non, h => by cases h
  | .sq false _, .bl _, h => by cases h
  | .sq false _, .int _, h => by cases h
  | .sq false _, .str _, h => by cases h
  | .sq true _, .non, h => by cases h
  | .sq true _, .bl _, h => by cases h
  | .sq true _, .int _, h => by cases h
  | .sq true _, .str _, h => by cases h
theorem pys_inj : ∀ xs ys : List D, D.pys xs = D.pys ys → xs = ys
  | [], [], _ => rfl
  | [], _ :: _, h => by cases h
  | _ :: _, [], h => by cases h
  | x :: xs, y :: ys, h => by
    rw [D.pys, D.pys] at h
    injection h with h1 h2
    rw [py_inj x y h1, pys_inj xs ys h2]
end
/-- a value that reads as the datum is one of that datum -/
theorem rep_of_reads {pins : List (Addr × Obj)} {σ : L2.St} {H G : Hp} {s : Shared} {a b : D} {v : V} {u : Value} {h' : Heap} {as : List Addr} (I : Inv X pins σ H s) (e : Same G H) (r : RelV v u) (h : Rep X.K G a v)
    (k : ∀ b o, s.heap.get? b = some o → h'.get? b = some o) (q : Reads h' u b.py as) : a = b := by
  obtain ⟨bs, r1⟩ := reads_of I (h.mono e) r
  exact py_inj a b (PySem.SeqAt.plain_unique a.py b.py u _ _ (py_plain a) (PyProof.Rows.Reads.keeps k r1) q)

/-- the item that a walk hands back, as a value of data -/
theorem best_rep {pins : List (Addr × Obj)} {σ : L2.St} {H G : Hp} {s : Shared} {ds : List D} {vs : List V} {us : List Value} {b : D} {h' : Heap} {as : List Addr} {i : Nat} {u : Value} {tk : Nat} {Q : VK} (I : Inv X pins σ H s) (e : Same G H) (rv : Vals vs us) (rs : Reps X.K G ds vs)
    (hu : us.toArray[i]? = some u) (k : ∀ b o, s.heap.get? b = some o → h'.get? b = some o) (q : Reads h' u b.py as) (fin : ∀ z H', Same H H' → Rep X.K (vis G H H') b z → Q z H') : EP X pins σ Q u { s with heap := h', toks := tk } := by
  have hu' : us[i]? = some u := by simpa using hu
  have hi : i < us.length := (List.getElem?_eq_some_iff.mp hu').1
  have hv : i < vs.length := by rw [rv.length]; exact hi
  obtain ⟨u2, h1, h2⟩ := rv.get (List.getElem?_eq_getElem hv)
  rw [hu'] at h1
  cases h1
  obtain ⟨d, h3, h4⟩ := rs.getV (List.getElem?_eq_getElem hv)
  have e2 := rep_of_reads I e h2 h4 k q
  subst e2
  exact ⟨vs[i], H, I.kept k, h2, fin _ _ (Same.refl H) (h4.mono (vis_self e (Same.refl H)))⟩
def minD : List D → Option D
  | [.sq _ (x :: xs)] => if okAll (x :: xs) = true then some (least x xs) else none
  | [.int i, .int j] => some (.int (if j < i then j else i))
  | _ => none
def maxD : List D → Option D
  | [.sq _ (x :: xs)] => if okAll (x :: xs) = true then some (most x xs) else none
  | [.int i, .int j] => some (.int (if j > i then j else i))
  | _ => none
theorem c_min (o : Okx X) : CallR X (.builtin "min") (rDs X.K minD) := callD fun pins s σ H G xs us as d Q I r e ra hg q => by
  have hr := o.un
  unfold minD at hg
  split at hg
  · rename_i t x ds
    split at hg
    · rename_i hk
      cases hg
      obtain ⟨v, rfl, rv⟩ := reps1 ra
      obtain ⟨a, vs, rfl, h1, h2, h3⟩ := rv.sq_eq
      obtain ⟨k1, k2, k3, k4⟩ := okAll_of hk
      rw [Vals.ref1 r]
      cases t with
      | false =>
        obtain ⟨its, r', pl, hz⟩ := I.list (show SqL X.K H a vs from Sq.mono e (t := false) h1)
        obtain ⟨as', rr⟩ := readsAll_of I (h3.mono e) r'
        refine PySem.W.min_list_data (x := x.py) (xs := D.pys ds) (I.ok.hd o.calm) pl.isList (by simpa [D.pys] using rr) k1 (by show X.A.units + 1 + _ < cLine; have : PyData.depthAll (x.py :: D.pys ds) ≤ 50 := k2; omega) fun i v h' tk bs hv hrd hkp => ?_
        exact best_rep I e r' h3 hv hkp (by rw [least_py ds x k3 k4] at hrd; exact hrd) q
      | true =>
        obtain ⟨its, r', pl, hz⟩ := I.tuple (show SqT X.K H a vs from Sq.mono e (t := true) h1)
        obtain ⟨as', rr⟩ := readsAll_of I (h3.mono e) r'
        refine PySem.W.min_tuple_data (x := x.py) (xs := D.pys ds) (I.ok.hd o.calm) pl (by simpa [D.pys] using rr) k1 (by show X.A.units + 1 + _ < cLine; have : PyData.depthAll (x.py :: D.pys ds) ≤ 50 := k2; omega) fun i v h' tk bs hv hrd hkp => ?_
        exact best_rep I e r' h3 hv hkp (by rw [least_py ds x k3 k4] at hrd; exact hrd) q
    · cases hg
  · rename_i i j
    cases hg
    obtain ⟨v, v', rfl, r1, r2⟩ := reps2 ra
    exact call_min2 o.calm pins s σ H _ us Q I r ⟨i, j, by rw [r1.int_eq, r2.int_eq], q _ _ (Same.refl H) rep_int⟩
  · cases hg
theorem c_max (o : Okx X) : CallR X (.builtin "max") (rDs X.K maxD) := callD fun pins s σ H G xs us as d Q I r e ra hg q => by
  have hr := o.un
  unfold maxD at hg
  split at hg
  · rename_i t x ds
    split at hg
    · rename_i hk
      cases hg
      obtain ⟨v, rfl, rv⟩ := reps1 ra
      obtain ⟨a, vs, rfl, h1, h2, h3⟩ := rv.sq_eq
      obtain ⟨k1, k2, k3, k4⟩ := okAll_of hk
      rw [Vals.ref1 r]
      cases t with
      | false =>
        obtain ⟨its, r', pl, hz⟩ := I.list (show SqL X.K H a vs from Sq.mono e (t := false) h1)
        obtain ⟨as', rr⟩ := readsAll_of I (h3.mono e) r'
        refine PySem.W.max_list_data (x := x.py) (xs := D.pys ds) (I.ok.hd o.calm) pl.isList (by simpa [D.pys] using rr) k1 (by show X.A.units + 1 + _ < cLine; have : PyData.depthAll (x.py :: D.pys ds) ≤ 50 := k2; omega) fun i v h' tk bs hv hrd hkp => ?_
        exact best_rep I e r' h3 hv hkp (by rw [most_py ds x k3 k4] at hrd; exact hrd) q
      | true =>
        obtain ⟨its, r', pl, hz⟩ := I.tuple (show SqT X.K H a vs from Sq.mono e (t := true) h1)
        obtain ⟨as', rr⟩ := readsAll_of I (h3.mono e) r'
        refine PySem.W.max_tuple_data (x := x.py) (xs := D.pys ds) (I.ok.hd o.calm) pl (by simpa [D.pys] using rr) k1 (by show X.A.units + 1 + _ < cLine; have : PyData.depthAll (x.py :: D.pys ds) ≤ 50 := k2; omega) fun i v h' tk bs hv hrd hkp => ?_
        exact best_rep I e r' h3 hv hkp (by rw [most_py ds x k3 k4] at hrd; exact hrd) q
    · cases hg
  · rename_i i j
    cases hg
    obtain ⟨v, v', rfl, r1, r2⟩ := reps2 ra
    exact call_max2 o.calm pins s σ H _ us Q I r ⟨i, j, by rw [r1.int_eq, r2.int_eq], q _ _ (Same.refl H) rep_int⟩
  · cases hg

/-! ### min(xs, default=d) -/
def rDsK (K : PySem.W.Frag) (g : List D → List D → Option D) : List V → List V → Hp → VK → Prop := fun xs zs H Q => ∃ (G : Hp) (as bs : List D) (d : D), Same G H ∧ Reps K G as xs ∧ Reps K G bs zs ∧ g as bs = some d ∧ ∀ z H', Same H H' → Rep K (vis G H H') d z → Q z H'
def minK : List D → List D → Option D
  | [.sq false []], [d] => some d
  | [.sq false (x :: xs)], [_] => if okAll (x :: xs) = true then some (least x xs) else none
  | _, _ => none
def maxK : List D → List D → Option D
  | [.sq false []], [d] => some d
  | [.sq false (x :: xs)], [_] => if okAll (x :: xs) = true then some (most x xs) else none
  | _, _ => none
theorem zip1 {ws : List Value} {k : Str} {v : Value} (h : ws = [v]) : [k].zip ws = [(k, v)] := by
  subst h
  rfl
theorem c_minK (o : Okx X) : CallRK X (.builtin "min") [Str.ofString "default"] (rDsK X.K minK) := by
  intro pins s σ H xs zs us ws Q I r r2 h
  have hr := o.un
  obtain ⟨G, as, bs, d, e, ra, rb, hg, q⟩ := h
  unfold minK at hg
  split at hg
  · rename_i dd
    cases hg
    obtain ⟨v, rfl, rv⟩ := reps1 ra
    obtain ⟨w, rfl, rw'⟩ := reps1 rb
    obtain ⟨u2, rfl, r3⟩ := vals1 r2
    obtain ⟨a, vs, rfl, h1, h2, h3⟩ := rv.sq_eq
    rw [Vals.ref1 r]
    obtain ⟨its, r', pl, hz⟩ := I.list (show SqL X.K H a vs from Sq.mono e (t := false) h1)
    obtain ⟨as', rr⟩ := readsAll_of I (h3.mono e) r'
    refine PySem.W.min_list_default (I.ok.hd o.calm) pl.isList (xs := []) (by simpa [D.pys] using rr) ⟨fun _ h => (nomatch h), fun _ h => (nomatch h)⟩ (by show X.A.units + 1 + 0 < cLine; omega) (fun _ h' tk hk => ?_) fun y ys i v h' tk bs e' => (nomatch e')
    exact ⟨w, H, I.kept hk, r3, q _ _ (Same.refl H) (rw'.mono (vis_self e (Same.refl H)))⟩
  · rename_i x ds dd
    split at hg
    · rename_i hk
      cases hg
      obtain ⟨v, rfl, rv⟩ := reps1 ra
      obtain ⟨w, rfl, rw'⟩ := reps1 rb
      obtain ⟨u2, rfl, r3⟩ := vals1 r2
      obtain ⟨a, vs, rfl, h1, h2, h3⟩ := rv.sq_eq
      obtain ⟨k1, k2, k3, k4⟩ := okAll_of hk
      rw [Vals.ref1 r]
      obtain ⟨its, r', pl, hz⟩ := I.list (show SqL X.K H a vs from Sq.mono e (t := false) h1)
      obtain ⟨as', rr⟩ := readsAll_of I (h3.mono e) r'
      refine PySem.W.min_list_default (I.ok.hd o.calm) pl.isList (xs := x.py :: D.pys ds) (by simpa [D.pys] using rr) k1 (by show X.A.units + 1 + _ < cLine; have : PyData.depthAll (x.py :: D.pys ds) ≤ 50 := k2; omega) (fun z => nomatch z) fun y ys i v h' tk bs e' hv hrd hkp => ?_
      injection e' with e1 e2
      subst e1 e2
      exact best_rep I e r' h3 hv hkp (by rw [least_py ds x k3 k4] at hrd; exact hrd) q
    · cases hg
  · cases hg
theorem c_maxK (o : Okx X) : CallRK X (.builtin "max") [Str.ofString "default"] (rDsK X.K maxK) := by
  intro pins s σ H xs zs us ws Q I r r2 h
  have hr := o.un
  obtain ⟨G, as, bs, d, e, ra, rb, hg, q⟩ := h
  unfold maxK at hg
  split at hg
  · rename_i dd
    cases hg
    obtain ⟨v, rfl, rv⟩ := reps1 ra
    obtain ⟨w, rfl, rw'⟩ := reps1 rb
    obtain ⟨u2, rfl, r3⟩ := vals1 r2
    obtain ⟨a, vs, rfl, h1, h2, h3⟩ := rv.sq_eq
    rw [Vals.ref1 r]
    obtain ⟨its, r', pl, hz⟩ := I.list (show SqL X.K H a vs from Sq.mono e (t := false) h1)
    obtain ⟨as', rr⟩ := readsAll_of I (h3.mono e) r'
    refine PySem.W.max_list_default (I.ok.hd o.calm) pl.isList (xs := []) (by simpa [D.pys] using rr) ⟨fun _ h => (nomatch h), fun _ h => (nomatch h)⟩ (by show X.A.units + 1 + 0 < cLine; omega) (fun _ h' tk hk => ?_) fun y ys i v h' tk bs e' => (nomatch e')
    exact ⟨w, H, I.kept hk, r3, q _ _ (Same.refl H) (rw'.mono (vis_self e (Same.refl H)))⟩
  · rename_i x ds dd
    split at hg
    · rename_i hk
      cases hg
      obtain ⟨v, rfl, rv⟩ := reps1 ra
      obtain ⟨w, rfl, rw'⟩ := reps1 rb
      obtain ⟨u2, rfl, r3⟩ := vals1 r2
      obtain ⟨a, vs, rfl, h1, h2, h3⟩ := rv.sq_eq
      obtain ⟨k1, k2, k3, k4⟩ := okAll_of hk
      rw [Vals.ref1 r]
      obtain ⟨its, r', pl, hz⟩ := I.list (show SqL X.K H a vs from Sq.mono e (t := false) h1)
      obtain ⟨as', rr⟩ := readsAll_of I (h3.mono e) r'
      refine PySem.W.max_list_default (I.ok.hd o.calm) pl.isList (xs := x.py :: D.pys ds) (by simpa [D.pys] using rr) k1 (by show X.A.units + 1 + _ < cLine; have : PyData.depthAll (x.py :: D.pys ds) ≤ 50 := k2; omega) (fun z => nomatch z) fun y ys i v h' tk bs e' hv hrd hkp => ?_
      injection e' with e1 e2
      subst e1 e2
      exact best_rep I e r' h3 hv hkp (by rw [most_py ds x k3 k4] at hrd; exact hrd) q
    · cases hg
  · cases hg
end
end DL

-- DL6
/-! DL6: sorted, isinstance, list(range), tuple(range). -/
namespace PyProof.Rows
open PySem
section
variable {prog : Program} {w : World} {A : Around} {E : Value → Shared → Prop} {s : Shared}
/-- what sorted collects of a list or a tuple -/
theorem collect_seqD {l : Addr} {o : Obj} {vs : List Value} {n : Nat} {T : String} {Q : List Value → Shared → Prop} (hT : T = "list" ∨ T = "tuple") (ho : s.heap.get? l = some o) (hc : o.cls = .type T) (hd : o.data = .seq vs.toArray n)
    (h : Q vs { s with heap := (s.heap.push (seqObj "list" #[] 0)).update s.heap.objs.size (Obj.mapSeq (· ++ vs.toArray)) }) (hsz : vs.length ≤ sizeLine) :
    wpAny (model prog w) A (collect (.ref l)) Q E s := by
  unfold collect
  refine wpAny_bind (wpAny_runValue (codeAny_builtin entry_proto_collect' ?_))
  show wpAny _ _ (do again (.builtin "list.__iadd__" ⟨[← newList [], .ref l], []⟩)) _ _ s
  refine wpAny_bind (wpAny_newList (wpAny_pure ⟨Code.quiet_builtin _ (by decide +kernel), codeAny_builtin entry_list_iadd' ?_⟩))
  show wpAny _ _ (Builtin.List.listExtendWith (.ref s.heap.objs.size) (.ref l) (.ref s.heap.objs.size)) _ _ { s with heap := s.heap.push (seqObj "list" #[] 0) }
  unfold Builtin.List.listExtendWith
  have ho' : (s.heap.push (seqObj "list" #[] 0)).get? l = some o := Heap.get?_push_of_some _ ho
  refine wpAny_bind (wpAny_typeOf (T := T) ⟨o, ho', hc⟩ ?_)
  rw [if_pos (by rcases hT with rfl | rfl <;> (rw [Bool.or_eq_true, Bool.or_eq_true]; first | exact .inl (.inr (by decide +kernel)) | exact .inr (by decide +kernel)))]
  refine wpAny_bind (listItems_at ho' hd ?_)
  refine wpAny_bind (listItems_at (xs := #[]) (n := 0) (Heap.get?_push_size _ rfl) rfl ?_)
  rw [if_neg (by simp)]
  refine wpAny_bind (listUpdate_at (xs := #[]) (n := 0) (Heap.get?_push_size _ rfl) rfl ?_ (Nat.zero_le _) (by show (#[] ++ vs.toArray).size ≤ sizeLine + 1; simp only [Array.size_append, List.size_toArray, List.length_nil]; omega))
  refine wpAny_pure ?_
  show wpAny (model prog w) A (do
      let o ← load s.heap.objs.size
      match o.data with
      | .seq xs _ => pure xs.toList
      | _ => unsupported "internal:collect") Q E { s with heap := (s.heap.push (seqObj "list" #[] 0)).update s.heap.objs.size (Obj.mapSeq (· ++ vs.toArray)) }
  refine wpAny_bind (wpAny_load (get?_update_seq (Heap.get?_push_size _ rfl) _) ?_)
  show wpAny _ _ (pure ((#[] : Array Value) ++ vs.toArray).toList) Q E _
  rw [show ((#[] : Array Value) ++ vs.toArray).toList = vs by simp]
  exact wpAny_pure h
end
end PyProof.Rows
namespace PySem.W
open PySem PySem.Calls PyProof.Rows
section
variable {prog : Program} {w : World} {A : Around} {E : Value → Shared → Prop} {s : Shared} {κ : PyProof.Rows.KeyKind}
/-- sorted(xs), xs a list or a tuple -/
theorem sorted_seqD {l : Addr} {o : Obj} {n : Nat} {T : String} {vs : List Value} {Q : Value → Shared → Prop} (hT : T = "list" ∨ T = "tuple") (ho : s.heap.get? l = some o) (hc : o.cls = .type T) (hd : o.data = .seq vs.toArray n)
    (S : SortsAt prog w A.in1.in1 { s with heap := sortingHeap (copyHeap s.heap vs) (s.heap.objs.size + 1) vs } κ vs) (hL : vs.length ≤ sizeLine)
    (h : Q (.ref (s.heap.objs.size + 1)) { s with heap := sortedAll s.heap vs (sortVals κ false vs vs).toArray }) : wpAny (model prog w) A (call (.builtin "sorted") [.ref l]) Q E s := by
  refine call_function_entry_kw kind_sorted plain_sorted entry_sorted (args_sorted1 _) ?_
  unfold Builtin.«sorted»
  refine wpAny_bind (m := checkCount "sorted" 1 1 _) (wpAny_pure ?_)
  refine wpAny_bind (collect_seqD hT ho hc hd ?_ hL)
  refine wpAny_bind (wpAny_newList ?_ hL)
  have hsz : ((s.heap.push (seqObj "list" #[] 0)).update s.heap.objs.size (Obj.mapSeq (· ++ vs.toArray))).objs.size = s.heap.objs.size + 1 := by
    rw [Heap.size_update, size_push']
  show wpAny _ _ _ _ _ { s with heap := copyHeap s.heap vs }
  rw [hsz]
  refine wpAny_bind (wpAny_holding (wpAny_call_entry_kw slot_list_sort ⟨_, copyHeap_at s.heap vs, rfl⟩ entry_list_sort ?body (args_list_sort _)))
  case body =>
    show wpAny (model prog w) A.in1.in1 (Builtin.«list.sort» ⟨[.ref (s.heap.objs.size + 1)], []⟩) _ _ _
    refine wpAny_mono (list_sort_vals (P := fun f s' => f = .done (.ret .none) ∧ Q (.ref (s.heap.objs.size + 1)) s') (s := { s with heap := copyHeap s.heap vs }) (copyHeap_at s.heap vs) S hL ⟨rfl, h⟩) (fun f s' hf => ?_) fun _ _ e => e
    obtain ⟨rfl, hq⟩ := hf
    exact ⟨_, rfl, wpAny_pure ⟨_, rfl, hq⟩⟩
end
end PySem.W
namespace DL
open PySem PySem.Spec PyProof.Rows L2
section
variable {X : Cx}
def tupNE : D → Bool
  | .sq true (_ :: _) => true
  | _ => false
def isTup : D → Bool
  | .sq true _ => true
  | _ => false
def okSort (xs : List D) : Bool := okAll xs && (xs.all tupNE || xs.all fun x => !isTup x)
theorem okSort_of {xs : List D} (h : okSort xs = true) : okAll xs = true ∧ PySem.W.Sortable (D.pys xs) := by
  unfold okSort at h
  rw [Bool.and_eq_true, Bool.or_eq_true] at h
  refine ⟨h.1, ?_⟩
  rcases h.2 with h2 | h2
  · refine .inl fun d hd => ?_
    rw [pys_map] at hd
    obtain ⟨x, hx, rfl⟩ := List.mem_map.mp hd
    rw [List.all_eq_true] at h2
    have q := h2 x hx
    unfold tupNE at q
    split at q
    · rename_i y r
      exact ⟨y.py, D.pys r, by rw [D.py, D.pys]⟩
    · cases q
  · refine .inr fun d hd => ?_
    rw [pys_map] at hd
    obtain ⟨x, hx, rfl⟩ := List.mem_map.mp hd
    rw [List.all_eq_true] at h2
    have q := h2 x hx
    have n := (okAll_of h.1).2.2.2 x hx
    refine ⟨py_none n, fun ys e => ?_⟩
    cases x with
    | sq t zs =>
      cases t with
      | true => cases q
      | false => rw [D.py] at e; cases e
    | non => cases e
    | bl b => cases e
    | int i => cases e
    | str z => cases e
/-- what sorted puts first -/
def leB (a b : D) : Bool := !D.lt b a
def sortL (xs : List D) : List D := xs.mergeSort leB
def sortD : List D → Option D
  | [.sq _ xs] => if okSort xs = true then some (.sq false (sortL xs)) else none
  | _ => none
theorem each_of {pins : List (Addr × Obj)} {σ : L2.St} {H G : Hp} {s : Shared} : ∀ {ds : List D} {vs : List V} {us : List Value}, Reps X.K G ds vs → Vals vs us → PySem.W.EachIs (fun u d => ∃ v, RelV v u ∧ Rep X.K G d v) us ds
  | [], vs, us, h, r => by
    rw [Reps] at h
    subst h
    cases r
    exact .nil
  | d :: ds, vs, us, h, r => by
    rw [Reps] at h
    obtain ⟨v, rr, e, h1, h2⟩ := h
    subst e
    cases r with
    | cons r1 r2 => exact .cons ⟨v, r1, h1⟩ (each_of (pins := pins) (σ := σ) (H := H) (s := s) h2 r2)
theorem of_each {G : Hp} : ∀ {ds : List D} {us : List Value}, PySem.W.EachIs (fun u d => ∃ v, RelV v u ∧ Rep X.K G d v) us ds → ∃ vs, Reps X.K G ds vs ∧ Vals vs us
  | [], us, h => by
    cases h
    exact ⟨[], .nil, .nil⟩
  | d :: ds, us, h => by
    cases h with
    | cons a b =>
      obtain ⟨v, r1, h1⟩ := a
      obtain ⟨vs, h2, r2⟩ := of_each b
      exact ⟨v :: vs, .cons h1 h2, .cons r1 r2⟩
theorem depth_mem : ∀ (ds : List D) (b : D), b ∈ ds → (D.py b).depth ≤ PyData.depthAll (D.pys ds)
  | [], b, hb => by cases hb
  | x :: r, b, hb => by
    rw [D.pys, PyData.depthAll]
    rcases List.mem_cons.mp hb with rfl | hb
    · exact Nat.le_max_left _ _
    · exact Nat.le_trans (depth_mem r b hb) (Nat.le_max_right _ _)
theorem c_sorted (o : Okx X) : CallR X (.builtin "sorted") (rDs X.K sortD) := callD fun pins s σ H G xs us as d Q I r e ra hg q => by
  have hr := o.un
  unfold sortD at hg
  split at hg
  · rename_i t ds
    split at hg
    · rename_i hk
      cases hg
      obtain ⟨v, rfl, rv⟩ := reps1 ra
      obtain ⟨a, vs, rfl, h1, h2, h3⟩ := rv.sq_eq
      obtain ⟨k0, k5⟩ := okSort_of hk
      obtain ⟨k1, k2, k3, k4⟩ := okAll_of k0
      rw [Vals.ref1 r]
      have main : ∀ (its : List Value) (ob : Obj) (n : Nat) (T : String), (T = "list" ∨ T = "tuple") → Vals vs its → s.heap.get? a = some ob → ob.cls = .type T → ob.data = .seq its.toArray n →
          wpAny (model X.prog X.w) X.A (call (.builtin "sorted") [.ref a]) (EP X pins σ Q) X.xe s := by
        intro its ob n T hT rv' ho hc hd
        have ev := each_of (X := X) (pins := pins) (σ := σ) (H := H) (s := s) h3 rv'
        have er : PySem.W.EachIs (fun u d => ∃ as, Reads s.heap u (D.py d) as) its ds := ev.mono fun u d ⟨v, r1, r2⟩ => reads_of I (r2.mono e) r1
        have hl : its.length ≤ sizeLine := by rw [← rv'.length]; exact h2
        have hal : PySem.W.AllAlike (ds.map D.py) := by
          rw [← pys_map]
          exact k1.1
        have hso : PySem.W.Sortable (ds.map D.py) := by
          rw [← pys_map]
          exact k5
        have er' : PySem.W.EachIs (fun v b => ∃ as, Reads (PySem.W.sortingHeap (PySem.W.copyHeap s.heap its) (s.heap.objs.size + 1) its) v (D.py b) as) its ds := er.mono fun _ _ ⟨as, r⟩ => ⟨as, PyProof.Rows.Reads.keeps (fun _ _ => PySem.W.sorting_copy_old) r⟩
        have hdep : ∀ b, b ∈ ds → X.A.in1.in1.units + (D.py b).depth < cLine := fun b hb => by
          show X.A.units + 1 + 1 + _ < cLine
          have := depth_mem ds b hb
          omega
        refine PySem.W.sorted_seqD hT ho hc hd (PySem.W.SortsAt.data (s := { s with heap := PySem.W.sortingHeap (PySem.W.copyHeap s.heap its) (s.heap.objs.size + 1) its })
          (PySem.W.each_map (R := fun v d => ∃ as, Reads (PySem.W.sortingHeap (PySem.W.copyHeap s.heap its) (s.heap.objs.size + 1) its) v d as) D.py er') hal hso (PySem.W.bound_map hdep)) hl ?_
        have ev2 := PySem.W.sortVals_data (h' := PySem.W.sortingHeap (PySem.W.copyHeap s.heap its) (s.heap.objs.size + 1) its) false ev er' hal
        have hcong : ds.mergeSort (PySem.W.dataLe false D.py) = sortL ds := by
          unfold sortL
          refine PySem.W.sort_congr fun x hx y hy => ?_
          show (!PySem.W.dataLt y.py x.py) = !D.lt y x
          rw [lt_py y x (k3 y hy x hx) (k4 y hy)]
        rw [hcong] at ev2
        obtain ⟨ws, w1, w2⟩ := of_each ev2
        obtain ⟨ep, he'⟩ := PyProof.Rows.sortedAll_at s.heap its (PySem.W.sortVals (PySem.W.dataKind (PySem.W.sortingHeap (PySem.W.copyHeap s.heap its) (s.heap.objs.size + 1) its) (ds.map D.py)) false its its).toArray
        have hwl : ws.length ≤ sizeLine := by
          rw [← w1.length]
          unfold sortL
          rw [List.length_mergeSort, h3.length]
          exact h2
        exact fin_new (tk := s.toks) I e (fun _ _ => PyProof.Rows.sortedAll_old) (Nat.le_succ _) w2 hwl w1 false ep he' q
      cases t with
      | false =>
        obtain ⟨its, r', pl, hz⟩ := I.list (show SqL X.K H a vs from Sq.mono e (t := false) h1)
        obtain ⟨ob, n, g1, g2, g3, g4⟩ := pl
        exact main its ob n "list" (.inl rfl) r' g1 g2 g4
      | true =>
        obtain ⟨its, r', pl, hz⟩ := I.tuple (show SqT X.K H a vs from Sq.mono e (t := true) h1)
        obtain ⟨ob, g1, g2, n, g3⟩ := pl
        exact main its ob n "tuple" (.inr rfl) r' g1 g2 g3
    · cases hg
  · cases hg
end
end DL

-- DL7
/-! DL7: isinstance, x or y, lists of ranges, xs[::-1], min/max with default. -/
namespace DL
open PySem PySem.Spec PyProof.Rows L2

inductive Ty where
  | int | bool | str | list | tuple
def Ty.name : Ty → String
  | .int => "int"
  | .bool => "bool"
  | .str => "str"
  | .list => "list"
  | .tuple => "tuple"
inductive Kd where
  | non | bl | int | str | lst | tup
def Kd.name : Kd → String
  | .non => "NoneType"
  | .bl => "bool"
  | .int => "int"
  | .str => "str"
  | .lst => "list"
  | .tup => "tuple"
def D.kd : D → Kd
  | .non => .non
  | .bl _ => .bl
  | .int _ => .int
  | .str _ => .str
  | .sq false _ => .lst
  | .sq true _ => .tup
def D.tyn (d : D) : String := d.kd.name
def isT : Kd → Ty → Bool
  | .bl, .bool => true
  | .bl, .int => true
  | .int, .int => true
  | .str, .str => true
  | .lst, .list => true
  | .tup, .tuple => true
  | _, _ => false
def isK (d : D) (t : Ty) : Bool := isT d.kd t
theorem kit_t (k : Kd) (t : Ty) : kitB k.name t.name = some (isT k t) := by
  cases k <;> cases t <;> decide +kernel
theorem kit_k (d : D) (t : Ty) : kitB d.tyn t.name = some (isK d t) := kit_t d.kd t
theorem tyx_of {K : PySem.W.Frag} {H : Hp} {d : D} {v : V} (h : Rep K H d v) : TyX K H v (.type d.tyn) := by
  cases d with
  | non => rw [h.non_eq]; exact .base .non
  | bl b => rw [h.bl_eq]; exact .base (.bl b)
  | int i => rw [h.int_eq]; exact .base (.int i)
  | str z => rw [h.str_eq]; exact .base (.str z)
  | sq t xs =>
    obtain ⟨a, vs, e, h1, h2, h3⟩ := h.sq_eq
    subst e
    cases t with
    | false =>
      rcases (show SqL K H a vs from h1) with (h1 | ⟨o, h1⟩) | ⟨o, its, n, k1, k2, _⟩
      · exact .base (.lst h1)
      · exact .base (.frz h1)
      · exact .kList k1 k2
    | true =>
      rcases (show SqT K H a vs from h1) with (h1 | ⟨o, h1⟩) | ⟨o, its, n, k1, k2, _⟩
      · exact .base (.tup h1)
      · exact .fTuple h1
      · exact .kTuple k1 k2
section
variable {X : Cx} {m : Bool} {e a b : Expr} {es rest : List Expr} {pos : Pos} {fa fb : Rho → Option D} {ca cb : Rho → Option Bool}
def isiF (t : Ty) (fa : Rho → Option D) : Rho → Option D := fun ρ => match fa ρ with
  | some d => some (.bl (isK d t))
  | none => none
def isiF2 (t t' : Ty) (fa : Rho → Option D) : Rho → Option D := fun ρ => match fa ρ with
  | some d => some (.bl (isK d t || isK d t'))
  | none => none
theorem boot_isinstance : bootBuiltins "isinstance" = some (.builtin "isinstance") := by decide +kernel
theorem boot_ty (t : Ty) : bootBuiltins (Str.ofString t.name) = some (.type t.name) := by cases t <;> decide +kernel
theorem dp_isi {t : Ty} {p p2 : Pos} {x : Str} (hx : x = Str.ofString t.name) (hg : Gl X "isinstance") (hm : X.mg "isinstance" = none) (hg2 : Gl X x) (hm2 : X.mg x = none) (ha : DP X m e fa)
    (he : starEach (e :: [Expr.Name x p2]) X.env = (false, eval e X.env) :: starEach [Expr.Name x p2] X.env := by rfl) (hpl : (backTo pos (starEach [Expr.Name x p2] X.env)).any (·.1) = false := by rfl) (hs : starEach [Expr.Name x p2] X.env = (false, eval (Expr.Name x p2) X.env) :: starEach [] X.env := by rfl) :
    DP X m (.Call (.Name "isinstance" p) [e, .Name x p2] [] pos) (isiF t fa) := by
  obtain ⟨te, pe, r⟩ := ha
  refine ⟨_, pe_callB call_isi hg hm boot_isinstance (pa_cons pe (pa_cons (pe_bltn (v := .ty t.name) hg2 hm2 (by rw [hx]; exact boot_ty t) rfl (by rw [hx]; cases t <;> decide) (by rw [hx]; cases t <;> decide)) pa_nil hs) he) (by decide) (by decide) he hpl, fun F σ H ρ d Q hk S hf q => ?_⟩
  unfold isiF at hf
  split at hf
  · rename_i d' hd
    cases hf
    refine r F σ H ρ d' _ hk S hd fun v H' e' rr => ?_
    exact ⟨v, .ty t.name, .type d'.tyn, .type t.name, isK d' t, rfl, .ty _, tyx_of (rr.mono see_sub), kit_ty (kit_k d' t), q _ H' e' rep_bl⟩
  · cases hf
theorem dp_isi2 {t t' : Ty} {p p2 p3 pt : Pos} {x x' : Str} {k : Nat} (hx : x = Str.ofString t.name) (hx' : x' = Str.ofString t'.name) (hg : Gl X "isinstance") (hm : X.mg "isinstance" = none) (hg2 : Gl X x) (hm2 : X.mg x = none) (hg3 : Gl X x') (hm3 : X.mg x' = none) (ha : DP X m e fa)
    (he : starEach (e :: [Expr.Tuple [.Name x p2, .Name x' p3] k pt]) X.env = (false, eval e X.env) :: starEach [Expr.Tuple [.Name x p2, .Name x' p3] k pt] X.env := by rfl) (hpl : (backTo pos (starEach [Expr.Tuple [.Name x p2, .Name x' p3] k pt] X.env)).any (·.1) = false := by rfl)
    (hs : starEach [Expr.Tuple [.Name x p2, .Name x' p3] k pt] X.env = (false, eval (Expr.Tuple [.Name x p2, .Name x' p3] k pt) X.env) :: starEach [] X.env := by rfl)
    (hs1 : starEach [Expr.Name x p2, .Name x' p3] X.env = (false, eval (Expr.Name x p2) X.env) :: starEach [.Name x' p3] X.env := by rfl) (hs2 : starEach [Expr.Name x' p3] X.env = (false, eval (Expr.Name x' p3) X.env) :: starEach [] X.env := by rfl) :
    DP X m (.Call (.Name "isinstance" p) [e, .Tuple [.Name x p2, .Name x' p3] k pt] [] pos) (isiF2 t t' fa) := by
  obtain ⟨te, pe, r⟩ := ha
  refine ⟨_, pe_callB call_isiT hg hm boot_isinstance (pa_cons pe (pa_cons (pe_tup (pa_cons (pe_bltn (v := .ty t.name) hg2 hm2 (by rw [hx]; exact boot_ty t) rfl (by rw [hx]; cases t <;> decide) (by rw [hx]; cases t <;> decide))
    (pa_cons (pe_bltn (v := .ty t'.name) hg3 hm3 (by rw [hx']; exact boot_ty t') rfl (by rw [hx']; cases t' <;> decide) (by rw [hx']; cases t' <;> decide)) pa_nil hs2) hs1)) pa_nil hs) he) (by decide) (by decide) he hpl, fun F σ H ρ d Q hk S hf q => ?_⟩
  unfold isiF2 at hf
  split at hf
  · rename_i d' hd
    cases hf
    refine r F σ H ρ d' _ hk S hd fun v H' e' rr => ⟨by show 2 ≤ sizeLine; decide, fun tp hp => ?_⟩
    refine ⟨v, tp, [.ty t.name, .ty t'.name], .type d'.tyn, [.type t.name, .type t'.name], isK d' t || isK d' t', rfl, upd_same, .cons (.ty _) (.cons (.ty _) .nil), tyx_of ((rr.mono see_sub).mono (same_new hp)), ?_, q _ _ (e'.trans (same_new hp)) rep_bl⟩
    refine kitAny_cons (kit_ty (kit_k d' t)) (fun h1 => ?_) (fun h1 => by rw [h1]; rfl)
    rw [h1, Bool.false_or]
    exact kitAny_cons (kit_ty (kit_k d' t')) (fun h2 => by rw [h2]; exact kitAny_nil) (fun h2 => h2)
  · cases hf

/-! ### x or y, by truth -/
def orT (fa fb : Rho → Option D) : Rho → Option D := fun ρ => match fa ρ with
  | some (.str _) => none
  | some d => if truD d = true then some d else fb ρ
  | none => none
theorem dp_orT (ha : DP X m a fa) (hb : DP X m (.BoolOp .Or (b :: rest) pos) fb) : DP X m (.BoolOp .Or (a :: b :: rest) pos) (orT fa fb) := by
  obtain ⟨ta, pa, ra⟩ := ha
  obtain ⟨tb, pb, rb⟩ := hb
  refine ⟨_, pe_orT pa pb, fun F σ H ρ d Q hk S hf q => ?_⟩
  unfold orT at hf
  split at hf
  · cases hf
  · rename_i d' hn hd
    refine ra F σ H ρ d' _ hk S hd fun v H' e' rr => ⟨truD d', tru_of (rr.mono see_sub) (fun z e => (hn z e).elim), ?_⟩
    by_cases h : truD d' = true
    · rw [if_pos h] at hf ⊢
      cases hf
      exact q v H' e' rr
    · rw [if_neg h] at hf ⊢
      exact rb F σ H' ρ d Q hk (S.ext e') hf fun v H2 e2 => q v H2 (e'.trans e2)
  · cases hf

/-! ### list(range(..)), tuple(range(..)) -/
def rgD (a b : Int) : List D := (List.range (b - a).toNat).map fun i => D.int (a + (i : Nat))
theorem rgD_rep {K : PySem.W.Frag} {H : Hp} (a b : Int) : Reps K H (rgD a b) (rgV a b) := by
  unfold rgD rgV
  generalize List.range (b - a).toNat = l
  induction l with
  | nil => exact .nil
  | cons x r ih => exact .cons rep_int ih
def rgOk (a b : Int) : Bool := decide (0 ≤ a ∧ a ≤ 16777216 ∧ 0 ≤ b ∧ b ≤ 16777216)
/-- an expression that makes a range -/
def DRg (X : Cx) (e : Expr) (f : Rho → Option (Int × Int)) : Prop :=
  ∃ t, PRg X e t ∧ ∀ (F : Fm) (σ : L2.St) (H : Hp) (ρ : Rho) (i j : Int) (Q : Int → Int → Hp → Prop), F.K = X.K → Sim F σ H ρ → f ρ = some (i, j) → (∀ H', Same H H' → Q i j H') → t σ H Q
def rg1 (fa : Rho → Option D) : Rho → Option (Int × Int) := fun ρ => match fa ρ with
  | some (.int n) => some (0, n)
  | _ => none
def rg2 (fa fb : Rho → Option D) : Rho → Option (Int × Int) := fun ρ => match fa ρ with
  | some (.int i) => match fb ρ with
    | some (.int j) => some (i, j)
    | _ => none
  | _ => none
theorem drg_1 {p : Pos} (hg : Gl X "range") (hm : X.mg "range" = none) (ha : DP X m a fa) (na : starEach [a] X.env = (false, eval a X.env) :: starEach [] X.env := by rfl) : DRg X (.Call (.Name "range" p) [a] [] pos) (rg1 fa) := by
  obtain ⟨ta, pa, ra⟩ := ha
  refine ⟨_, prg_1 hg hm pa na, fun F σ H ρ i j Q hk S hf q => ?_⟩
  unfold rg1 at hf
  split at hf
  · rename_i n hn
    cases hf
    exact ra F σ H ρ _ _ hk S hn fun v H' e' rr => ⟨_, rr.int_eq, q H' e'⟩
  · cases hf
theorem drg_2 {p : Pos} (hg : Gl X "range") (hm : X.mg "range" = none) (ha : DP X m a fa) (hb : DP X m b fb) (na : starEach [a, b] X.env = (false, eval a X.env) :: starEach [b] X.env := by rfl)
    (nb : starEach [b] X.env = (false, eval b X.env) :: starEach [] X.env := by rfl) (hp : (backTo pos (starEach [b] X.env)).any (·.1) = false := by rfl) : DRg X (.Call (.Name "range" p) [a, b] [] pos) (rg2 fa fb) := by
  obtain ⟨ta, pa, ra⟩ := ha
  obtain ⟨tb, pb, rb⟩ := hb
  refine ⟨_, prg_2 hg hm pa pb na nb hp, fun F σ H ρ i j Q hk S hf q => ?_⟩
  unfold rg2 at hf
  split at hf
  · rename_i n hn
    split at hf
    · rename_i k hk'
      cases hf
      exact ra F σ H ρ _ _ hk S hn fun v H' e' rr => rb F σ H' ρ _ _ hk (S.ext e') hk' fun u H2 e2 rr2 => ⟨_, _, rr.int_eq, rr2.int_eq, q H2 (e'.trans e2)⟩
    · cases hf
  · cases hf
def lstRg (t : Bool) (f : Rho → Option (Int × Int)) : Rho → Option D := fun ρ => match f ρ with
  | some (i, j) => if rgOk i j = true then some (.sq t (rgD i j)) else none
  | none => none
theorem rgOk_of {i j : Int} (h : rgOk i j = true) : RgOk i j ∧ (rgV i j).length ≤ sizeLine := by
  have h' := of_decide_eq_true h
  refine ⟨RgOk.of_le h'.1 h'.2.2.2 h'.2.1 h'.2.2.1, ?_⟩
  rw [rgV_length, sizeLine_eq]
  omega
theorem dp_listRg {f : Rho → Option (Int × Int)} {p : Pos} (o : Okx X) (hg : Gl X "list") (hm : X.mg "list" = none) (he : DRg X e f) (na : starEach [e] X.env = (false, eval e X.env) :: starEach [] X.env := by rfl) : DP X m (.Call (.Name "list" p) [e] [] pos) (lstRg false f) := by
  obtain ⟨t, pe, r⟩ := he
  refine ⟨_, pe_listRg o.calm hg hm pe na, fun F σ H ρ d Q hk S hf q => ?_⟩
  unfold lstRg at hf
  split at hf
  · rename_i i j hij
    split at hf
    · rename_i ho
      cases hf
      obtain ⟨h1, h2⟩ := rgOk_of ho
      refine r F σ H ρ i j _ hk S hij fun H' e' => ⟨h1, fun a ha => q _ _ (e'.trans (same_new ha)) ?_⟩
      exact rep_sq (t := false) (.inl (.inl (see_new (S.ext e') ha))) h2 (rgD_rep i j)
    · cases hf
  · cases hf
theorem dp_tupRg {f : Rho → Option (Int × Int)} {p : Pos} (o : Okx X) (hg : Gl X "tuple") (hm : X.mg "tuple" = none) (he : DRg X e f) (na : starEach [e] X.env = (false, eval e X.env) :: starEach [] X.env := by rfl) : DP X m (.Call (.Name "tuple" p) [e] [] pos) (lstRg true f) := by
  obtain ⟨t, pe, r⟩ := he
  refine ⟨_, pe_tupRg o.calm hg hm pe na, fun F σ H ρ d Q hk S hf q => ?_⟩
  unfold lstRg at hf
  split at hf
  · rename_i i j hij
    split at hf
    · rename_i ho
      cases hf
      obtain ⟨h1, h2⟩ := rgOk_of ho
      refine r F σ H ρ i j _ hk S hij fun H' e' => ⟨h1, fun a ha => q _ _ (e'.trans (same_new ha)) ?_⟩
      exact rep_sq (t := true) (.inl (.inl (see_new (S.ext e') ha))) h2 (rgD_rep i j)
    · cases hf
  · cases hf

/-! ### xs[::-1] of a list -/
def revD : D → Option D
  | .sq false xs => some (.sq false xs.reverse)
  | _ => none
theorem dp_rev {k : Nat} {p1 p2 p3 : Pos} (ha : DP X m a fa) : DP X m (.Subscript a (.Slice none none (some (.UnaryOp .USub (.Constant (.int 1) k p1) p2)) p3) pos) (una revD fa) := by
  obtain ⟨t, p, r⟩ := ha
  refine ⟨_, pe_revL p, fun F σ H ρ d Q hk S hf q => ?_⟩
  obtain ⟨x, h1, h2⟩ := una_some hf
  refine r F σ H ρ x _ hk S h1 fun v H1 e1 q1 => ?_
  unfold revD at h2
  split at h2
  · rename_i xs
    cases h2
    obtain ⟨a1, vs, e4, s1, z1, rr⟩ := q1.sq_eq
    refine ⟨a1, vs, e4, Sq.mono see_sub (t := false) s1, fun a ha => q _ _ (e1.trans (same_new ha)) ?_⟩
    exact rep_sq (t := false) (.inl (.inl (see_new (S.ext e1) ha))) (by rw [List.length_reverse]; exact z1) (rr.reverse.mono (see_mono (same_new ha)))
  · cases h2

/-! ### f(xs, default=d) -/
def kwF (g : List D → List D → Option D) (fs : Rho → Option (List D)) (fa : Rho → Option D) : Rho → Option D := fun ρ => match fs ρ with
  | some ds => match fa ρ with
    | some d => g ds [d]
    | none => none
  | none => none
theorem dp_callK {id : String} {x : Str} {ks : Str} {p kpos : Pos} {nm : Option Str} {g : List D → List D → Option D} {fs : Rho → Option (List D)} (hc : CallRK X (.builtin id) [ks] (rDsK X.K g)) (hg : Gl X x) (hm : X.mg x = none) (hv : bootBuiltins x = some (.builtin id)) (ha : DPs X m (e :: es) fs) (hk : DP X m a fa)
    (hn : x ≠ "__name__" := by decide) (hdb : (x == ("__debug__" : Str)) = false := by decide)
    (he : backTo pos (starEach (e :: es) X.env) = (false, eval e X.env) :: backTo pos (starEach es X.env) := by rfl) (hpl : (backTo pos (starEach (e :: es) X.env)).any (·.1) = false := by rfl)
    (hall : (backToKw pos (keywordEach [⟨nm, a, kpos⟩] X.env)).all (·.1.isSome) = true := by rfl) (hnone : (backToKw pos (keywordEach [⟨nm, a, kpos⟩] X.env)).any (·.1.isNone) = false := by rfl) (hks : (backToKw pos (keywordEach [⟨nm, a, kpos⟩] X.env)).filterMap (·.1) = [ks] := by rfl) :
    DP X m (.Call (.Name x p) (e :: es) [⟨nm, a, kpos⟩] pos) (kwF g fs fa) := by
  obtain ⟨t, pa, r⟩ := ha
  obtain ⟨tk, pk, rk⟩ := hk
  refine ⟨_, pe_callBK hc hg hm hv pa (pk_cons pk pk_nil) hn hdb he hpl hall hnone hks, fun F σ H ρ d Q hk S hf q => ?_⟩
  unfold kwF at hf
  split at hf
  · rename_i ds hds
    split at hf
    · rename_i d' hd'
      refine r F σ H ρ ds _ hk S hds fun vs H1 e1 q1 => rk F σ H1 ρ d' _ hk (S.ext e1) hd' fun v H2 e2 q2 => ?_
      exact ⟨see m F H2 σ ρ, ds, [d'], d, see_sub, q1.mono (see_mono e2), .cons q2 .nil, hf, fun z H3 e3 q3 => q z H3 ((e1.trans e2).trans e3) (q3.mono (see_vis (S.ext (e1.trans e2)) e3))⟩
    · cases hf
  · cases hf
end
end DL

-- DL8
/-! DL8: what a loop or a comprehension walks, as a list of data: lists, tuples, ranges, enumerate, zip. -/
namespace PySem
open Sem (wp)
set_option maxHeartbeats 4000000 in
theorem meets_enumerate_newB1 {v : Value} {o : Obj} {H : Heap → Prop} (B : Begins v o H) :
    Meets (Builtin.«enumerate.__new__» ⟨[.type "enumerate", v], []⟩) (fun _ R s => H s.heap ∧
      R (.ok (.ret (.ref (s.heap.push o).objs.size))) { s with heap := (s.heap.push o).push { cls := .type "enumerate", data := .fields #[.none, .bool false, .ref s.heap.objs.size, rawInt 0, .none, .none] } }) :=
  .of_wp fun prog w A R s h => by
    obtain ⟨hp, g, d, tk, os⟩ := s; obtain ⟨h1, h⟩ := h
    have hsub := sub_enumerate
    have q1 : ∀ {A' : Around} {E : Value → Shared → Prop} {Q : Value → Shared → Prop}, Q (.ref hp.objs.size) ⟨hp.push o, g, d, tk, os⟩ → wpAny (model prog w) A' (pyIter v) Q E ⟨hp, g, d, tk, os⟩ :=
      fun q => B.iter prog w _ _ ⟨hp, g, d, tk, os⟩ _ h1 q
    wp_walk using q1
    refine wpAny_stack_any fun st => wpAny_pure ?_
    split
    · rename_i c _ _ _ _ _
      cases (c == Value.type "enumerate")
      · wp_walk using q1
        exact ⟨_, rfl, h⟩
      · wp_walk using q1
        exact ⟨_, rfl, h⟩
    · wp_walk using q1
      exact ⟨_, rfl, h⟩
theorem enum_begins1 {prog : Program} {w : World} {A : Around} {E : Value → Shared → Prop} {s : Shared} {v : Value} {o : Obj} {H : Heap → Prop} {Q : Value → Shared → Prop} (B : Begins v o H) (h1 : H s.heap)
    (h : ∀ h', IsEnum h' (s.heap.objs.size + 1) s.heap.objs.size 0 .none → h'.get? s.heap.objs.size = some o → h'.objs.size = s.heap.objs.size + 2 →
      (∀ b o, s.heap.get? b = some o → h'.get? b = some o) → Q (.ref (s.heap.objs.size + 1)) { s with heap := h' }) :
    wpAny (model prog w) A (call (.type "enumerate") [v]) Q E s := by
  refine callType_new F.called_enumerate (by decide) (F.typeCall_enumerate_1 _) (F.newCall_enumerate_1 _) (fun obj => F.args_object_init_2 obj _) F.entry_enumerate_new
    (meets_enumerate_newB1 B) ⟨h1, ?_⟩
  have hz : (s.heap.push o).objs.size = s.heap.objs.size + 1 := Heap.size_push ..
  show _ ∧ _
  rw [hz]
  have he : IsEnum ((s.heap.push o).push { cls := .type "enumerate", data := .fields #[.none, .bool false, .ref s.heap.objs.size, rawInt 0, .none, .none] }) (s.heap.objs.size + 1) s.heap.objs.size 0 .none := by
    have := Heap.get?_push_size (s.heap.push o) (o := { cls := .type "enumerate", data := .fields #[.none, .bool false, .ref s.heap.objs.size, rawInt 0, .none, .none] }) rfl
    rw [hz] at this; exact this
  refine ⟨⟨_, he, rfl⟩, h _ he (Heap.get?_push_of_some _ (Heap.get?_push_size _ B.free)) (by rw [Heap.size_push, hz]) fun b o x => Heap.get?_push_of_some _ (Heap.get?_push_of_some _ x)⟩
end PySem
namespace DL
open PySem PySem.Spec PyProof.Rows L2

/-- the iterator J goes through ds, as long as what G holds stays -/
structure Src (K : PySem.W.Frag) (J : It) (ds : List D) (G G2 : Hp) : Prop where
  go : ∀ i H, i < ds.length → Same G H → J.go i H
  yld : ∀ i H x H', i < ds.length → Same G H → J.yld i H x H' → ∃ d, ds[i]? = some d ∧ Same H H' ∧ Rep K (vis G2 H H') d x
  stop : ∀ H, Same G H → J.stop ds.length H
  len : ds.length ≤ sizeLine
def DI (X : Cx) (m : Bool) (tg iter : Expr) (f : Rho → Option (List D)) : Prop :=
  ∃ wi, PI X tg iter wi ∧ ∀ (F : Fm) (σ : L2.St) (H : Hp) (ρ : Rho) (ds : List D) (R : It → Hp → Prop), F.K = X.K → Sim F σ H ρ → f ρ = some ds → (∀ J H', Same H H' → Src X.K J ds (see m F H' σ ρ) (hid F H' σ ρ) → R J H') → wi σ H R

/-! ### one list or tuple -/
def Its1 (K : PySem.W.Frag) : Bool → Addr → It
  | false, a => Itl K a
  | true, a => Itt K a
def iSeq (K : PySem.W.Frag) (tl : TE) : TI := fun σ H R => tl σ H fun x H1 => ∃ t a xs, x = .ref a ∧ Sq K H1 t a xs ∧ R (Its1 K t a) H1
theorem pi_seq {X : Cx} {tg l : Expr} {tl : TE} (hl : PE X l tl) : PI X tg l (iSeq X.K tl) := by
  refine ⟨fun pins s σ H R I h => ?_⟩
  refine thn (hl.run pins s σ H _ I h) fun v s1 ⟨x, H1, I1, r1, q1⟩ => ?_
  obtain ⟨t, a, xs, e, hq, q⟩ := q1
  subst e
  cases r1
  cases t with
  | false =>
    obtain ⟨its, rv, p, hz⟩ := I1.list (show SqL X.K H1 a xs from hq)
    refine wpAny_pyIter_list p.isList ?_
    refine ⟨s1.heap.objs.size, [s1.heap.objs.size], _, _, H1, rfl, I1.kept (t' := s1.toks) fun b o e => Heap.get?_push_of_some _ e, turn_list a _, ⟨_, Heap.get?_push_size _ rfl, rfl, rfl⟩, fun b hb => ?_, q⟩
    have e : b = s1.heap.objs.size := by simpa using hb
    subst e
    exact I1.fpOk (Nat.le_refl _) (I1.hok.fresh (Nat.le_refl _))
  | true =>
    obtain ⟨its, rv, p, hz⟩ := I1.tuple (show SqT X.K H1 a xs from hq)
    refine wpAny_pyIter_tuple (show s1.heap.IsTuple a its.toArray from p) ?_
    refine ⟨s1.heap.objs.size, [s1.heap.objs.size], _, _, H1, rfl, I1.kept (t' := s1.toks) fun b o e => Heap.get?_push_of_some _ e, turn_tuple a _, ⟨_, Heap.get?_push_size _ rfl, rfl, rfl⟩, fun b hb => ?_, q⟩
    have e : b = s1.heap.objs.size := by simpa using hb
    subst e
    exact I1.fpOk (Nat.le_refl _) (I1.hok.fresh (Nat.le_refl _))
def sqO : Option D → Option (List D)
  | some (.sq _ xs) => some xs
  | _ => none
theorem sqO_some {o : Option D} {ds : List D} (h : sqO o = some ds) : ∃ t, o = some (.sq t ds) := by
  unfold sqO at h
  split at h
  · cases h
    exact ⟨_, rfl⟩
  · cases h
theorem src_seq {K : PySem.W.Frag} {t : Bool} {a : Addr} {ds : List D} {vs : List V} {G G2 : Hp} (g : Same G2 G) (h : Sq K G t a vs) (z : vs.length ≤ sizeLine) (r : Reps K G2 ds vs) : Src K (Its1 K t a) ds G G2 := by
  have l := r.length
  cases t with
  | false =>
    refine ⟨fun i H hi e => ?_, fun i H x H' hi e y => ?_, fun H e => ⟨vs, Sq.mono e (t := false) h, by omega⟩, by omega⟩
    · exact ⟨vs, vs[i]'(by omega), Sq.mono e (t := false) h, List.getElem?_eq_getElem (by omega)⟩
    · obtain ⟨e1, y⟩ := y
      subst e1
      have hx := y vs (Sq.mono e (t := false) h)
      obtain ⟨d, h1, h2⟩ := r.getV hx
      exact ⟨d, h1, Same.refl _, h2.mono (vis_self (g.trans e) (Same.refl _))⟩
  | true =>
    refine ⟨fun i H hi e => ?_, fun i H x H' hi e y => ?_, fun H e => ⟨vs, Sq.mono e (t := true) h, by omega⟩, by omega⟩
    · exact ⟨vs, vs[i]'(by omega), Sq.mono e (t := true) h, List.getElem?_eq_getElem (by omega)⟩
    · obtain ⟨e1, y⟩ := y
      subst e1
      have hx := y vs (Sq.mono e (t := true) h)
      obtain ⟨d, h1, h2⟩ := r.getV hx
      exact ⟨d, h1, Same.refl _, h2.mono (vis_self (g.trans e) (Same.refl _))⟩
theorem di_seq {X : Cx} {tg l : Expr} {fa : Rho → Option D} (ha : DP X false l fa) : DI X false tg l (fun ρ => sqO (fa ρ)) := by
  obtain ⟨t, p, r⟩ := ha
  refine ⟨_, pi_seq p, fun F σ H ρ ds R hk S hf q => ?_⟩
  obtain ⟨tt, hd⟩ := sqO_some hf
  refine r F σ H ρ _ _ hk S hd fun v H1 e1 q1 => ?_
  obtain ⟨a, vs, e, h1, h2, h3⟩ := q1.sq_eq
  exact ⟨tt, a, vs, e, Sq.mono see_sub h1, q _ H1 e1 (src_seq (by rw [see_false]; exact Same.refl _) h1 h2 (by rw [see_false] at h3; exact h3))⟩

/-! ### range -/
theorem src_rng {K : PySem.W.Frag} {G G2 : Hp} (a b : Int) (hz : (b - a).toNat ≤ sizeLine) : Src K (Itr a (b - a).toNat) (rgD a b) G G2 := by
  have hl : (rgD a b).length = (b - a).toNat := by unfold rgD; rw [List.length_map, List.length_range]
  refine ⟨fun i H hi e => ?_, fun i H x H' hi e y => ?_, fun H e => ?_, by rw [hl]; exact hz⟩
  · show i < (b - a).toNat
    rw [hl] at hi
    exact hi
  · obtain ⟨e1, y⟩ := y
    subst e1 y
    rw [hl] at hi
    refine ⟨.int (a + i), ?_, Same.refl _, rep_int⟩
    unfold rgD
    rw [List.getElem?_map, List.getElem?_range hi]
    rfl
  · show (b - a).toNat ≤ (rgD a b).length
    rw [hl]
    exact Nat.le_refl _
def rgF (f : Rho → Option (Int × Int)) : Rho → Option (List D) := fun ρ => match f ρ with
  | some (i, j) => if rgOk i j = true then some (rgD i j) else none
  | none => none
theorem rgF_some {f : Rho → Option (Int × Int)} {ρ : Rho} {ds : List D} (h : rgF f ρ = some ds) : ∃ i j, f ρ = some (i, j) ∧ rgOk i j = true ∧ ds = rgD i j := by
  unfold rgF at h
  split at h
  · split at h
    · cases h
      exact ⟨_, _, ‹_›, ‹_›, rfl⟩
    · cases h
  · cases h
section
variable {X : Cx} {m : Bool} {tg a b e e2 : Expr} {pos p : Pos} {fa fb : Rho → Option D}
theorem di_range1 (hg : Gl X "range") (hm : X.mg "range" = none) (ha : DP X m a fa) (hs : starEach [a] X.env = [(false, eval a X.env)] := by rfl) : DI X m tg (.Call (.Name "range" p) [a] [] pos) (rgF (rg1 fa)) := by
  obtain ⟨t, pa, r⟩ := ha
  refine ⟨_, pi_range1 hg hm (pa_cons pa pa_nil hs) hs, fun F σ H ρ ds R hk S hf q => ?_⟩
  obtain ⟨i, j, h1, h2, rfl⟩ := rgF_some hf
  unfold rg1 at h1
  split at h1
  · rename_i n hn
    cases h1
    have h2' := of_decide_eq_true h2
    refine r F σ H ρ _ _ hk S hn fun v H' e' rr => ⟨j, by rw [rr.int_eq], by omega, by omega, q _ H' e' ?_⟩
    have := src_rng (K := X.K) (G := see m F H' σ ρ) (G2 := hid F H' σ ρ) 0 j (by rw [sizeLine_eq]; omega)
    rw [Int.sub_zero] at this
    exact this
  · cases h1
theorem di_range2 (hg : Gl X "range") (hm : X.mg "range" = none) (ha : DP X m a fa) (hb : DP X m b fb) (hs : starEach [a, b] X.env = [(false, eval a X.env), (false, eval b X.env)] := by rfl) (hs2 : starEach [b] X.env = [(false, eval b X.env)] := by rfl) :
    DI X m tg (.Call (.Name "range" p) [a, b] [] pos) (rgF (rg2 fa fb)) := by
  obtain ⟨t, pa, r⟩ := ha
  obtain ⟨t2, pb, r2⟩ := hb
  refine ⟨_, pi_range2 hg hm (pa_cons pa (pa_cons pb pa_nil hs2) (by rw [hs, hs2])) hs hs2, fun F σ H ρ ds R hk S hf q => ?_⟩
  obtain ⟨i, j, h1, h2, rfl⟩ := rgF_some hf
  unfold rg2 at h1
  split at h1
  · rename_i n hn
    split at h1
    · rename_i k hk'
      cases h1
      have h2' := of_decide_eq_true h2
      exact r F σ H ρ _ _ hk S hn fun v H' e' rr => r2 F σ H' ρ _ _ hk (S.ext e') hk' fun u H2 e2 rr2 => ⟨i, j, by rw [rr.int_eq, rr2.int_eq], ⟨by omega, by omega, by omega, by omega⟩, q _ H2 (e'.trans e2) (src_rng i j (by rw [sizeLine_eq]; omega))⟩
    · cases h1
  · cases h1
end

/-! ### enumerate -/
def IsSI : Bool → Heap → Addr → Addr → Nat → Prop
  | false, h, it, a, i => h.IsListIter it a i
  | true, h, it, a, i => h.IsTupleIter it a i
def IsSq : Bool → Heap → Addr → Array Value → Prop
  | false, h, a, its => h.IsList a its
  | true, h, a, its => h.IsTuple a its
theorem IsSI.obj : ∀ {t : Bool} {h : Heap} {it a : Addr} {i : Nat}, IsSI t h it a i → ∃ o, h.get? it = some o ∧ ∀ v, o.data ≠ .cell v
  | false, _, _, _, _, ⟨o, e, _, d⟩ => ⟨o, e, fun v z => by rw [d] at z; cases z⟩
  | true, _, _, _, _, ⟨o, e, _, d⟩ => ⟨o, e, fun v z => by rw [d] at z; cases z⟩
theorem IsSI.at : ∀ {t : Bool} {h h' : Heap} {it a : Addr} {i : Nat}, IsSI t h it a i → (∀ o, h.get? it = some o → h'.get? it = some o) → IsSI t h' it a i
  | false, _, _, _, _, _, x, k => Heap.IsListIter.at x k
  | true, _, _, _, _, _, x, k => Heap.IsTupleIter.at x k
theorem Inv.seq {X : Cx} {pins : List (Addr × Obj)} {σ : L2.St} {H : Hp} {s : Shared} {a : Addr} {xs : List V} (I : Inv X pins σ H s) : ∀ {t : Bool}, Sq X.K H t a xs → ∃ its : List Value, Vals xs its ∧ IsSq t s.heap a its.toArray ∧ xs.length ≤ sizeLine
  | false, h => let ⟨its, r, p, z⟩ := I.list h; ⟨its, r, p.isList, z⟩
  | true, h => let ⟨its, r, p, z⟩ := I.tuple h; ⟨its, r, p, z⟩
theorem Inv.seq_inj {X : Cx} {pins : List (Addr × Obj)} {σ : L2.St} {H : Hp} {s : Shared} {a : Addr} {xs ys : List V} (I : Inv X pins σ H s) : ∀ {t : Bool}, Sq X.K H t a xs → Sq X.K H t a ys → xs = ys
  | false, h, g => I.list_inj h g
  | true, h, g => I.tuple_inj h g
theorem IsSq.ne : ∀ {t : Bool} {h : Heap} {it a : Addr} {i : Nat} {its : Array Value} {b : Bool} {c : Addr}, IsSI t h it c i → IsSq b h a its → a ≠ it
  | false, _, _, _, _, _, false, _, ⟨o, e, c, _⟩, ⟨o', e', c', _⟩ => fun z => by
    rw [z, e] at e'
    cases e'
    rw [c] at c'
    exact absurd c' (by decide +kernel)
  | false, _, _, _, _, _, true, _, ⟨o, e, c, _⟩, ⟨o', e', c', _⟩ => fun z => by
    rw [z, e] at e'
    cases e'
    rw [c] at c'
    exact absurd c' (by decide +kernel)
  | true, _, _, _, _, _, false, _, ⟨o, e, c, _⟩, ⟨o', e', c', _⟩ => fun z => by
    rw [z, e] at e'
    cases e'
    rw [c] at c'
    exact absurd c' (by decide +kernel)
  | true, _, _, _, _, _, true, _, ⟨o, e, c, _⟩, ⟨o', e', c', _⟩ => fun z => by
    rw [z, e] at e'
    cases e'
    rw [c] at c'
    exact absurd c' (by decide +kernel)
theorem draws_sq {prog : Program} {w : World} {A : Around} (hh : A.handled = none) (t : Bool) (it l : Addr) (hne : l ≠ it) (items : Array Value) :
    Draws prog w A it [it, l] items.size (fun i v => items[i]? = some v) (fun i h => IsSI t h it l i ∧ IsSq t h l items) := by
  cases t with
  | false => exact Draws.list hh it l hne items
  | true => exact Draws.tuple hh it l hne items
def itObj (t : Bool) (a : Addr) : Obj := { cls := .type (if t = true then "tuple_iterator" else "list_iterator"), data := .fields #[.ref a, .int 0 0] }
theorem begins_sq (t : Bool) (a : Addr) (its : Array Value) : Begins (.ref a) (itObj t a) fun h => IsSq t h a its := by
  cases t with
  | false => exact begins_list a its
  | true => exact begins_tuple a its
theorem isSI_of {t : Bool} {a it : Addr} {h : Heap} (e : h.get? it = some (itObj t a)) : IsSI t h it a 0 := by
  cases t with
  | false => exact ⟨_, e, rfl, rfl⟩
  | true => exact ⟨_, e, rfl, rfl⟩
/-- the list or tuple at a, each item in a new pair -/
def IteD (K : PySem.W.Frag) (t : Bool) (a : Addr) : It :=
  ⟨fun i H => ∃ (xs : List V) (x : V), Sq K H t a xs ∧ xs[i]? = some x, fun i H v H' => ∃ T x, v = .ref T ∧ H T = none ∧ H' = upd H T (.tup [.int (i : Nat), x]) ∧ ∀ xs, Sq K H t a xs → xs[i]? = some x, fun i H => ∃ xs : List V, Sq K H t a xs ∧ xs.length = i⟩
theorem turn_enumD {P : Program} {w : World} {K : PySem.W.Frag} {elts : List Expr} {kk : Nat} {tpos : Pos} (t : Bool) (a e it : Addr) (hne : e ≠ it) :
    Turn P w K (.Tuple elts kk tpos) (IteD K t a) [e, it] e (fun i h => (∃ old, IsEnum h e it ((0 : Int) + (i : Nat)) old) ∧ IsSI t h it a i) where
  mem := by simp
  obj := fun i h st b hb => by
    obtain ⟨⟨old, he⟩, hi⟩ := st
    have e' : b = e ∨ b = it := by simpa using hb
    rcases e' with z | z
    · rw [z]; exact ⟨_, he, fun v q => nomatch q⟩
    · rw [z]; exact hi.obj
  keep := fun i h h' st k => let ⟨⟨old, he⟩, hi⟩ := st; ⟨⟨old, k e (by simp) _ he⟩, hi.at fun o q => k it (by simp) o q⟩
  item := by
    intro X hP hw hK hc i pins s σ H E I hf st hg
    subst hP hw hK
    obtain ⟨⟨old, he⟩, hit⟩ := st
    obtain ⟨xs, x, hq, hx⟩ := hg
    obtain ⟨its, rv, p, hz⟩ := Inv.seq I hq
    have hae : a ≠ it := IsSq.ne hit p
    have hel : e < s.heap.objs.size := Heap.lt_size he
    have hea : e ≠ a := fun z => by
      subst z
      cases t with
      | false =>
        obtain ⟨o, e1, c1, _⟩ := p
        rw [he] at e1
        cases e1
        have c2 : (Value.type "enumerate" : Value) = Value.type "list" := c1
        exact absurd c2 (by decide +kernel)
      | true =>
        obtain ⟨o, e1, c1, _⟩ := p
        rw [he] at e1
        cases e1
        have c2 : (Value.type "enumerate" : Value) = Value.type "tuple" := c1
        exact absurd c2 (by decide +kernel)
    have hil : it < s.heap.objs.size := by obtain ⟨o, q, _⟩ := hit.obj; exact Heap.lt_size q
    have hi : i < its.toArray.size := by
      rw [List.size_toArray, ← rv.length]
      exact (List.getElem?_eq_some_iff.mp hx).1
    have GN := GoesN.enumFrom (prog := X.prog) (w := X.w) (A := X.A) (elts := elts) (x1 := kk) (pos := tpos) 0 (draws_sq (A := X.A.in1) (I.ok.hd hc) t it a hae its.toArray) e hne (by simp; exact ⟨hne, hea⟩) (by simp)
    refine wpAny_mono (GN.goes i s (fun u s2 => ∃ x H', Inv X pins σ H' s2 ∧ RelV x u ∧ (IteD X.K t a).yld i H x H' ∧ ((∃ old, IsEnum s2.heap e it ((0 : Int) + ((i + 1 : Nat) : Int)) old) ∧ IsSI t s2.heap it a (i + 1)) ∧ ∀ b ∈ [e, it], H' b = none) E hi ⟨⟨old, he⟩, hit, p⟩ fun v h' tk hY st' hk htk => ?_) (fun r s1 h1 => ?_) fun _ _ e => e
    · obtain ⟨T, tt, y, rfl, hnew, hy, hT⟩ := hY
      obtain ⟨u, hu, ru⟩ := rv.get hx
      have e1 : y = u := by
        have : its[i]? = some y := by simpa using hy
        rw [hu] at this
        exact (Option.some.inj this).symm
      subst e1
      have hT0 : H T = none := I.hok.fresh hnew
      have new : ObjOk X.prog X.w (upd H T (.tup [.int (i : Nat), x])) h' T (.tup [.int (i : Nat), x]) :=
        ⟨by show 2 ≤ sizeLine; decide, [.int ((0 : Int) + (i : Nat)) tt, y], .cons ⟨tt, by rw [Int.zero_add]⟩ (.cons ru .nil), hT⟩
      have I1 : Inv X pins σ (upd H T (.tup [.int (i : Nat), x])) { s with heap := h', toks := tk } := I.turnedNew (ch := [e, it]) (fun b ob hb q => hk b ob hb q) hf hnew new
      refine ⟨.ref T, _, I1, rfl, ⟨T, x, rfl, hT0, rfl, fun ys hy' => by rw [Inv.seq_inj I hy' hq]; exact hx⟩, ⟨st'.1, st'.2.1⟩, fun b hb => ?_⟩
      have hb' : b < s.heap.objs.size := by
        have e' : b = e ∨ b = it := by simpa using hb
        rcases e' with z | z
        · rw [z]; exact hel
        · rw [z]; exact hil
      rw [upd_ne (Nat.ne_of_lt (Nat.lt_of_lt_of_le hb' hnew))]
      exact (hf b hb).1
    · obtain ⟨v, rfl, h2⟩ := h1
      exact ⟨v, rfl, h2⟩
  done := by
    intro X hP hw hK hc i pins s σ H E I hf st hg
    subst hP hw hK
    obtain ⟨⟨old, he⟩, hit⟩ := st
    obtain ⟨xs, hq, hx⟩ := hg
    obtain ⟨its, rv, p, hz⟩ := Inv.seq I hq
    have hae : a ≠ it := IsSq.ne hit p
    obtain ⟨f0, f1, f2, f3, f4, f5⟩ := hf it (by simp)
    have hl := rv.length
    have fin : ∀ h', Heap.ExtBut it s.heap h' → (none : Option Value) = none ∧ Inv X pins σ H { s with heap := h' } := fun h' eb => ⟨rfl, I.turned (t' := s.toks) (fun b o hb q => eb b o hb q) f0 f1 f3 f4 f5⟩
    have hin : i = its.toArray.size := by rw [List.size_toArray]; omega
    rw [hin] at he hit
    exact wpAny_pyNext_enum_endD (draws_sq (A := X.A.in1) (I.ok.hd hc) t it a hae its.toArray) he ⟨hit, p⟩ fun h' eb => fin h' eb
  self := fun A i s Q E st h => let ⟨⟨_, he⟩, _⟩ := st; wpAny_pyIter_enum he h

def iEnumD (K : PySem.W.Frag) (ta : TA) : TI := fun σ H R => ta σ H fun vs H1 => ∃ t a xs, vs = [.ref a] ∧ Sq K H1 t a xs ∧ R (IteD K t a) H1
theorem pi_enumD {X : Cx} {e : Expr} {ta : TA} {p pos tpos : Pos} {elts : List Expr} {kk : Nat} (hg : Gl X "enumerate") (hm : X.mg "enumerate" = none) (ha : PA X [e] ta) (hs : starEach [e] X.env = [(false, eval e X.env)] := by rfl) :
    PI X (.Tuple elts kk tpos) (.Call (.Name "enumerate" p) [e] [] pos) (iEnumD X.K ta) := by
  refine ⟨fun pins s σ H R I h => ?_⟩
  refine Call_ (ld_blt I hg hm boot_enumerate (PyProof.Rows.callWith_type1 (thn (ha.run pos pins s σ H _ I h) fun us s1 ⟨vs, H1, I1, r1, q1⟩ => ?_) hs rfl))
  obtain ⟨t, a, xs, ex, hq, q⟩ := q1
  subst ex
  rw [Vals.ref1 r1]
  obtain ⟨its, rv, p', hz⟩ := Inv.seq I1 hq
  refine enum_begins1 (begins_sq t a its.toArray) p' fun h' he hit hsz hk => wpAny_pyIter_enum he ?_
  have I2 : Inv X pins σ H1 { s1 with heap := h' } := I1.kept (t' := s1.toks) hk
  refine ⟨s1.heap.objs.size + 1, [s1.heap.objs.size + 1, s1.heap.objs.size], _, _, H1, rfl, I2, turn_enumD t a (s1.heap.objs.size + 1) s1.heap.objs.size (Nat.succ_ne_self _), ⟨⟨.none, he⟩, isSI_of hit⟩, fun b hb => ?_, q⟩
  have e' : b = s1.heap.objs.size + 1 ∨ b = s1.heap.objs.size := by simpa using hb
  have hle : s1.heap.objs.size ≤ b := by
    rcases e' with z | z
    · rw [z]; exact Nat.le_add_right _ _
    · rw [z]; exact Nat.le_refl _
  exact I1.fpOk hle (I1.hok.fresh hle)
def enuD (xs : List D) : List D := xs.mapIdx fun i x => .sq true [.int (i : Nat), x]
theorem enuD_get {xs : List D} {i : Nat} {x : D} (h : xs[i]? = some x) : (enuD xs)[i]? = some (.sq true [.int (i : Nat), x]) := by
  unfold enuD
  rw [List.getElem?_mapIdx, h]
  rfl
theorem enuD_length (xs : List D) : (enuD xs).length = xs.length := by unfold enuD; rw [List.length_mapIdx]
theorem src_enum {K : PySem.W.Frag} {t : Bool} {a : Addr} {ds : List D} {vs : List V} {G : Hp} (h : Sq K G t a vs) (z : vs.length ≤ sizeLine) (r : Reps K G ds vs) : Src K (IteD K t a) (enuD ds) G G := by
  have l := r.length
  refine ⟨fun i H hi e => ?_, fun i H x H' hi e y => ?_, fun H e => ⟨vs, Sq.mono e h, by rw [enuD_length]; omega⟩, by rw [enuD_length]; omega⟩
  · rw [enuD_length] at hi
    exact ⟨vs, vs[i]'(by omega), Sq.mono e h, List.getElem?_eq_getElem (by omega)⟩
  · obtain ⟨T, x, rfl, hT, rfl, y⟩ := y
    have hx := y vs (Sq.mono e h)
    obtain ⟨d, h1, h2⟩ := r.getV hx
    refine ⟨_, enuD_get h1, same_new hT, rep_sq (t := true) (.inl (.inl (vis_new upd_same hT))) (by show 2 ≤ sizeLine; decide) (.cons rep_int (.cons (h2.mono (vis_self e (same_new hT))) .nil))⟩
def mapO (g : List D → List D) (f : Rho → Option D) : Rho → Option (List D) := fun ρ => match sqO (f ρ) with
  | some xs => some (g xs)
  | none => none
section
variable {X : Cx} {m : Bool} {tg a b e e2 : Expr} {pos p : Pos} {fa fb : Rho → Option D}
theorem di_enum {elts : List Expr} {kk : Nat} {tpos : Pos} (hg : Gl X "enumerate") (hm : X.mg "enumerate" = none) (ha : DP X false e fa) (hs : starEach [e] X.env = [(false, eval e X.env)] := by rfl) : DI X false (.Tuple elts kk tpos) (.Call (.Name "enumerate" p) [e] [] pos) (mapO enuD fa) := by
  obtain ⟨t, pa, r⟩ := ha
  refine ⟨_, pi_enumD hg hm (pa_cons pa pa_nil hs) hs, fun F σ H ρ ds R hk S hf q => ?_⟩
  unfold mapO at hf
  split at hf
  · rename_i xs hxs
    cases hf
    obtain ⟨tt, hd⟩ := sqO_some hxs
    refine r F σ H ρ _ _ hk S hd fun v H1 e1 q1 => ?_
    obtain ⟨a, vs, e, h1, h2, h3⟩ := q1.sq_eq
    exact ⟨tt, a, vs, by rw [e], Sq.mono see_sub h1, q _ H1 e1 (by rw [see_false] at h1 h3 ⊢; exact src_enum h1 h2 h3)⟩
  · cases hf
end

/-! ### zip of two -/
def ItzD (K : PySem.W.Frag) (t u : Bool) (a b : Addr) : It :=
  ⟨fun i H => ∃ (xs ys : List V) (x y : V), Sq K H t a xs ∧ Sq K H u b ys ∧ xs[i]? = some x ∧ ys[i]? = some y,
    fun i H v H' => ∃ T x y, v = .ref T ∧ H T = none ∧ H' = upd H T (.tup [x, y]) ∧ (∀ xs, Sq K H t a xs → xs[i]? = some x) ∧ ∀ ys, Sq K H u b ys → ys[i]? = some y,
    fun i H => ∃ xs ys : List V, Sq K H t a xs ∧ Sq K H u b ys ∧ i = min xs.length ys.length⟩
structure ZAp (z TI TO i1 i2 : Addr) : Prop where
  a1 : TI ≠ z
  a2 : TO ≠ z
  a3 : TI ≠ TO
  a4 : TI ≠ i1
  a5 : TI ≠ i2
  a6 : z ≠ i1
  a7 : z ≠ i2
  a8 : TO ≠ i1
  a9 : TO ≠ i2
  a10 : i1 ≠ i2
theorem fp_ne {X : Cx} {pins : List (Addr × Obj)} {σ : L2.St} {H : Hp} {s : Shared} {a b : Addr} {xs : List V} {t : Bool} (I : Inv X pins σ H s) (hf : FpOk X pins H b) (hq : Sq X.K H t a xs) : b ≠ a := fun z => by
  subst z
  obtain ⟨h0, _, _, h3, _⟩ := hf
  have kw : ∀ o, X.K.lookup b = some o → False := fun o hk => by
    have hb : X.base.get? b = some o := I.ok.mod.kin b o hk
    rcases h3 with h3 | h3
    · exact I.ok.noex b o hb h3
    · exact absurd (Nat.lt_of_lt_of_le (Heap.lt_size hb) (Nat.le_trans I.ok.bsz h3)) (Nat.lt_irrefl _)
  cases t with
  | false =>
    rcases (show SqL X.K H b xs from hq) with (h1 | ⟨o, h1⟩) | ⟨o, its, n, k1, _⟩
    · rw [h0] at h1; cases h1
    · rw [h0] at h1; cases h1
    · exact kw o k1
  | true =>
    rcases (show SqT X.K H b xs from hq) with (h1 | ⟨o, h1⟩) | ⟨o, its, n, k1, _⟩
    · rw [h0] at h1; cases h1
    · rw [h0] at h1; cases h1
    · exact kw o k1
theorem ZAp.sep {z TI TO i1 i2 a b : Addr} (Z : ZAp z TI TO i1 i2) (h1 : ∀ c ∈ [z, TI, TO, i1, i2], c ≠ a) (h2 : ∀ c ∈ [z, TI, TO, i1, i2], c ≠ b) : ZipSep2 z TI TO i1 i2 [i1, a] [i2, b] where
  TIz := Z.a1
  TOz := Z.a2
  TITO := Z.a3
  TIi1 := Z.a4
  mem1 := List.mem_cons_self
  zf1 := by simp; exact ⟨Z.a6, h1 z (by simp)⟩
  Tf1 := by simp; exact ⟨Z.a8, h1 TO (by simp)⟩
  TIi2 := Z.a5
  mem2 := List.mem_cons_self
  zf2 := by simp; exact ⟨Z.a7, h2 z (by simp)⟩
  Tf2 := by simp; exact ⟨Z.a9, h2 TO (by simp)⟩
  sep1_2 := by simp; exact ⟨Z.a10, h2 i1 (by simp)⟩
  sep2_1 := by simp; exact ⟨fun e => Z.a10 e.symm, h1 i2 (by simp)⟩
theorem turn_zipD {P : Program} {w : World} {K : PySem.W.Frag} {elts : List Expr} {kk : Nat} {tpos : Pos} (t u : Bool) {a b z TI TO i1 i2 : Addr} (Z : ZAp z TI TO i1 i2) :
    Turn P w K (.Tuple elts kk tpos) (ItzD K t u a b) [z, TI, TO, i1, i2] z (fun i h => IsZip h z TI TO .none ∧ IsTupOf2 h TI (.ref i1) (.ref i2) ∧ (∃ x y, IsTupOf2 h TO x y) ∧ IsSI t h i1 a i ∧ IsSI u h i2 b i) where
  mem := by simp
  obj := fun i h st c hc => by
    obtain ⟨hz, hTI, ⟨x, y, hTO⟩, h1, h2⟩ := st
    have e' : c = z ∨ c = TI ∨ c = TO ∨ c = i1 ∨ c = i2 := by simpa using hc
    rcases e' with q | q | q | q | q
    · rw [q]; exact ⟨_, hz, fun v q => nomatch q⟩
    · rw [q]; exact ⟨_, hTI, fun v q => nomatch q⟩
    · rw [q]; exact ⟨_, hTO, fun v q => nomatch q⟩
    · rw [q]; exact h1.obj
    · rw [q]; exact h2.obj
  keep := fun i h h' st k => by
    obtain ⟨hz, hTI, ⟨x, y, hTO⟩, h1, h2⟩ := st
    exact ⟨k z (by simp) _ hz, k TI (by simp) _ hTI, ⟨x, y, k TO (by simp) _ hTO⟩, h1.at fun o q => k i1 (by simp) o q, h2.at fun o q => k i2 (by simp) o q⟩
  item := by
    intro X hP hw hK hc i pins s σ H E I hf st hg
    subst hP hw hK
    obtain ⟨hz, hTI, ⟨x0, y0, hTO⟩, h1, h2⟩ := st
    obtain ⟨xs, ys, x, y, hqx, hqy, hx, hy⟩ := hg
    obtain ⟨its, rv, p, _⟩ := Inv.seq I hqx
    obtain ⟨its2, rv2, p2, _⟩ := Inv.seq I hqy
    have na : ∀ c ∈ [z, TI, TO, i1, i2], c ≠ a := fun c hc => fp_ne I (hf c hc) hqx
    have nb : ∀ c ∈ [z, TI, TO, i1, i2], c ≠ b := fun c hc => fp_ne I (hf c hc) hqy
    have S := Z.sep na nb
    have lt1 : i < its.toArray.size := by rw [List.size_toArray, ← rv.length]; exact (List.getElem?_eq_some_iff.mp hx).1
    have lt2 : i < its2.toArray.size := by rw [List.size_toArray, ← rv2.length]; exact (List.getElem?_eq_some_iff.mp hy).1
    have GN := GoesN.zip2 (prog := X.prog) (w := X.w) (A := X.A) (elts := elts) (x1 := kk) (pos := tpos) S (draws_sq (A := X.A.in1) (I.ok.hd hc) t i1 a (fun e => na i1 (by simp) e.symm) its.toArray) (draws_sq (A := X.A.in1) (I.ok.hd hc) u i2 b (fun e => nb i2 (by simp) e.symm) its2.toArray)
    refine wpAny_mono (GN.goes i s (fun v s2 => ∃ x H', Inv X pins σ H' s2 ∧ RelV x v ∧ (ItzD X.K t u a b).yld i H x H' ∧ (IsZip s2.heap z TI TO .none ∧ IsTupOf2 s2.heap TI (.ref i1) (.ref i2) ∧ (∃ x y, IsTupOf2 s2.heap TO x y) ∧ IsSI t s2.heap i1 a (i + 1) ∧ IsSI u s2.heap i2 b (i + 1)) ∧ ∀ c ∈ [z, TI, TO, i1, i2], H' c = none) E
      (Nat.lt_min.mpr ⟨lt1, lt2⟩) ⟨hz, hTI, ⟨x0, y0, hTO⟩, ⟨h1, p⟩, ⟨h2, p2⟩⟩ fun v h' tk hY st' hk htk => ?_) (fun r s1 h1 => ?_) fun _ _ e => e
    · obtain ⟨T, y1, y2, rfl, hnew, hy1, hy2, hT⟩ := hY
      obtain ⟨u1, hu1, ru1⟩ := rv.get hx
      obtain ⟨u2, hu2, ru2⟩ := rv2.get hy
      have e1 : y1 = u1 := by
        have : its[i]? = some y1 := by simpa using hy1
        rw [hu1] at this
        exact (Option.some.inj this).symm
      have e2 : y2 = u2 := by
        have : its2[i]? = some y2 := by simpa using hy2
        rw [hu2] at this
        exact (Option.some.inj this).symm
      subst e1 e2
      have hT0 : H T = none := I.hok.fresh hnew
      have new : ObjOk X.prog X.w (upd H T (.tup [x, y])) h' T (.tup [x, y]) := ⟨by show 2 ≤ sizeLine; decide, [y1, y2], .cons ru1 (.cons ru2 .nil), hT⟩
      have I1 : Inv X pins σ (upd H T (.tup [x, y])) { s with heap := h', toks := tk } := I.turnedNew (ch := [z, TI, TO, i1, i2]) (fun c ob hb q => hk c ob (fun q' => hb (by
        have q'' : c = z ∨ c = TO ∨ c = i1 ∨ c = i2 := by simpa using q'
        rcases q'' with e | e | e | e <;> simp [e])) q) hf hnew new
      refine ⟨.ref T, _, I1, rfl, ⟨T, x, y, rfl, hT0, rfl, fun l hl => by rw [Inv.seq_inj I hl hqx]; exact hx, fun l hl => by rw [Inv.seq_inj I hl hqy]; exact hy⟩, ⟨st'.1, st'.2.1, st'.2.2.1, st'.2.2.2.1.1, st'.2.2.2.2.1⟩, fun c hcm => ?_⟩
      have hlt : c < s.heap.objs.size := by
        have e' : c = z ∨ c = TI ∨ c = TO ∨ c = i1 ∨ c = i2 := by simpa using hcm
        rcases e' with q | q | q | q | q
        · rw [q]; exact Heap.lt_size hz
        · rw [q]; exact Heap.lt_size hTI
        · rw [q]; exact Heap.lt_size hTO
        · rw [q]; obtain ⟨_, e1, _⟩ := h1.obj; exact Heap.lt_size e1
        · rw [q]; obtain ⟨_, e1, _⟩ := h2.obj; exact Heap.lt_size e1
      rw [upd_ne (Nat.ne_of_lt (Nat.lt_of_lt_of_le hlt hnew))]
      exact (hf c hcm).1
    · obtain ⟨v, rfl, h2⟩ := h1
      exact ⟨v, rfl, h2⟩
  done := by
    intro X hP hw hK hc i pins s σ H E I hf st hg
    subst hP hw hK
    obtain ⟨hz, hTI, ⟨x0, y0, hTO⟩, h1, h2⟩ := st
    obtain ⟨xs, ys, hqx, hqy, hend⟩ := hg
    obtain ⟨its, rv, p, _⟩ := Inv.seq I hqx
    obtain ⟨its2, rv2, p2, _⟩ := Inv.seq I hqy
    have na : ∀ c ∈ [z, TI, TO, i1, i2], c ≠ a := fun c hc => fp_ne I (hf c hc) hqx
    have nb : ∀ c ∈ [z, TI, TO, i1, i2], c ≠ b := fun c hc => fp_ne I (hf c hc) hqy
    have S := Z.sep na nb
    have l1 := rv.length
    have l2 := rv2.length
    have le1 : i ≤ its.toArray.size := by rw [List.size_toArray]; omega
    have le2 : i ≤ its2.toArray.size := by rw [List.size_toArray]; omega
    have ee : i = its.toArray.size ∨ i = its2.toArray.size := by rw [List.size_toArray, List.size_toArray]; omega
    exact wpAny_pyNext_zipD2_end S (draws_sq (A := X.A.in1) (I.ok.hd hc) t i1 a (fun e => na i1 (by simp) e.symm) its.toArray) (draws_sq (A := X.A.in1) (I.ok.hd hc) u i2 b (fun e => nb i2 (by simp) e.symm) its2.toArray) hz hTI hTO ⟨h1, p⟩ ⟨h2, p2⟩ le1 le2 ee
      fun h' tk hk => ⟨rfl, I.turnedL (t' := tk) (ch := [z, TI, TO, i1, i2]) (fun c o hb q => hk c o (fun q' => hb (by simp [q'])) (fun q' => hb (by simp [q'])) (fun q' => hb (by simp [q'])) (fun q' => hb (by simp [q'])) q) hf⟩
  self := fun A i s Q E st h => wpAny_pyIter_zip st.1 h
def iZipD (K : PySem.W.Frag) (ta : TA) : TI := fun σ H R => ta σ H fun vs H1 => ∃ t u a b xs ys, vs = [.ref a, .ref b] ∧ Sq K H1 t a xs ∧ Sq K H1 u b ys ∧ R (ItzD K t u a b) H1
theorem zap_of (n : Nat) : ZAp (n + 4) (n + 2) (n + 3) n (n + 1) := by
  constructor <;> (intro h; have h' : (_ : Nat) = _ := h; omega)
theorem pi_zipD {X : Cx} {e e2 : Expr} {ta : TA} {p pos tpos : Pos} {elts : List Expr} {kk : Nat} (hg : Gl X "zip") (hm : X.mg "zip" = none) (ha : PA X [e, e2] ta)
    (hs : starEach [e, e2] X.env = (false, eval e X.env) :: starEach [e2] X.env := by rfl) (hpl : (backTo pos (starEach [e2] X.env)).any (·.1) = false := by rfl) :
    PI X (.Tuple elts kk tpos) (.Call (.Name "zip" p) [e, e2] [] pos) (iZipD X.K ta) := by
  refine ⟨fun pins s σ H R I h => ?_⟩
  refine Call_ (ld_blt I hg hm PyProof.Rows.boot_zip (PyProof.Rows.callWith_type1 (thn (ha.run pos pins s σ H _ I h) fun us s1 ⟨vs, H1, I1, r1, q1⟩ => ?_) hs hpl))
  obtain ⟨t, u, a, b, xs, ys, ex, hqx, hqy, q⟩ := q1
  subst ex
  obtain ⟨u1, u2, rfl, ra, rb⟩ := vals2 r1
  cases ra
  cases rb
  obtain ⟨its, rv, p1, _⟩ := Inv.seq I1 hqx
  obtain ⟨its2, rv2, p2, _⟩ := Inv.seq I1 hqy
  refine zip_begins2 (begins_sq t a its.toArray) (begins_sq u b its2.toArray) p1 p2 fun h' hz hTI hTO g1 g2 hsz hk => wpAny_pyIter_zip hz ?_
  have I2 : Inv X pins σ H1 { s1 with heap := h' } := I1.kept (t' := s1.toks) hk
  refine ⟨s1.heap.objs.size + 4, [s1.heap.objs.size + 4, s1.heap.objs.size + 2, s1.heap.objs.size + 3, s1.heap.objs.size, s1.heap.objs.size + 1], _, _, H1, rfl, I2, turn_zipD t u (zap_of s1.heap.objs.size), ⟨hz, hTI, ⟨_, _, hTO⟩, isSI_of g1, isSI_of g2⟩, fun c hcm => ?_, q⟩
  have e' : c = s1.heap.objs.size + 4 ∨ c = s1.heap.objs.size + 2 ∨ c = s1.heap.objs.size + 3 ∨ c = s1.heap.objs.size ∨ c = s1.heap.objs.size + 1 := by simpa using hcm
  have hle : s1.heap.objs.size ≤ c := by
    rcases e' with z | z | z | z | z
    · rw [z]; exact Nat.le_add_right _ _
    · rw [z]; exact Nat.le_add_right _ _
    · rw [z]; exact Nat.le_add_right _ _
    · rw [z]; exact Nat.le_refl _
    · rw [z]; exact Nat.le_add_right _ _
  exact I1.fpOk hle (I1.hok.fresh hle)
def zipD (xs ys : List D) : List D := List.zipWith (fun x y => .sq true [x, y]) xs ys
theorem zipD_get {xs ys : List D} {i : Nat} {x y : D} (h : xs[i]? = some x) (g : ys[i]? = some y) : (zipD xs ys)[i]? = some (.sq true [x, y]) := by
  unfold zipD
  rw [List.getElem?_zipWith, h, g]
theorem zipD_length (xs ys : List D) : (zipD xs ys).length = min xs.length ys.length := by unfold zipD; rw [List.length_zipWith]
theorem src_zip {K : PySem.W.Frag} {t u : Bool} {a b : Addr} {ds es : List D} {vs ws : List V} {G : Hp} (h : Sq K G t a vs) (z : vs.length ≤ sizeLine) (r : Reps K G ds vs) (h2 : Sq K G u b ws) (r2 : Reps K G es ws) : Src K (ItzD K t u a b) (zipD ds es) G G := by
  have l := r.length
  have l2 := r2.length
  refine ⟨fun i H hi e => ?_, fun i H x H' hi e y => ?_, fun H e => ⟨vs, ws, Sq.mono e h, Sq.mono e h2, by rw [zipD_length]; omega⟩, by rw [zipD_length]; omega⟩
  · rw [zipD_length] at hi
    exact ⟨vs, ws, vs[i]'(by omega), ws[i]'(by omega), Sq.mono e h, Sq.mono e h2, List.getElem?_eq_getElem (by omega), List.getElem?_eq_getElem (by omega)⟩
  · obtain ⟨T, x, y, rfl, hT, rfl, f1, f2⟩ := y
    obtain ⟨d, h3, h4⟩ := r.getV (f1 vs (Sq.mono e h))
    obtain ⟨d2, h5, h6⟩ := r2.getV (f2 ws (Sq.mono e h2))
    refine ⟨_, zipD_get h3 h5, same_new hT, rep_sq (t := true) (.inl (.inl (vis_new upd_same hT))) (by show 2 ≤ sizeLine; decide) (.cons (h4.mono (vis_self e (same_new hT))) (.cons (h6.mono (vis_self e (same_new hT))) .nil))⟩
def zipF (fa fb : Rho → Option D) : Rho → Option (List D) := fun ρ => match sqO (fa ρ) with
  | some xs => match sqO (fb ρ) with
    | some ys => some (zipD xs ys)
    | none => none
  | none => none
section
variable {X : Cx} {m : Bool} {tg a b e e2 : Expr} {pos p : Pos} {fa fb : Rho → Option D}
theorem di_zip {elts : List Expr} {kk : Nat} {tpos : Pos} (hg : Gl X "zip") (hm : X.mg "zip" = none) (ha : DP X false e fa) (hb : DP X false e2 fb) (hs : starEach [e, e2] X.env = (false, eval e X.env) :: starEach [e2] X.env := by rfl) (hs2 : starEach [e2] X.env = (false, eval e2 X.env) :: starEach [] X.env := by rfl)
    (hpl : (backTo pos (starEach [e2] X.env)).any (·.1) = false := by rfl) : DI X false (.Tuple elts kk tpos) (.Call (.Name "zip" p) [e, e2] [] pos) (zipF fa fb) := by
  obtain ⟨t, pa, r⟩ := ha
  obtain ⟨t2, pb, r2⟩ := hb
  refine ⟨_, pi_zipD hg hm (pa_cons pa (pa_cons pb pa_nil hs2) hs) hs hpl, fun F σ H ρ ds R hk S hf q => ?_⟩
  unfold zipF at hf
  split at hf
  · rename_i xs hxs
    split at hf
    · rename_i ys hys
      cases hf
      obtain ⟨tt, hd⟩ := sqO_some hxs
      obtain ⟨uu, hd2⟩ := sqO_some hys
      refine r F σ H ρ _ _ hk S hd fun v H1 e1 q1 => r2 F σ H1 ρ _ _ hk (S.ext e1) hd2 fun v2 H2 e2 q2 => ?_
      obtain ⟨a, vs, e, h1, h2, h3⟩ := (q1.mono (see_mono e2)).sq_eq
      obtain ⟨b, ws, e', h4, h5, h6⟩ := q2.sq_eq
      exact ⟨tt, uu, a, b, vs, ws, by rw [e, e'], Sq.mono see_sub h1, Sq.mono see_sub h4, q _ H2 (e1.trans e2) (by rw [see_false] at h1 h3 h4 h6 ⊢; exact src_zip h1 h2 h3 h4 h6)⟩
    · cases hf
  · cases hf
end
end DL

-- DL9
/-! DL9: slots stored, targets, comprehensions. -/
namespace DL
open PySem PySem.Spec PyProof.Rows L2

def notIo : Sl → Bool
  | .io _ => false
  | _ => true
def plainS : Sl → Bool
  | .un => true
  | .va _ => true
  | _ => false

section
variable {F : Fm} {σ σ' : L2.St} {H H' : Hp} {ρ ρ' : Rho} {p : Addr}
theorem own_set {i : Nat} {v : Option V} {s : Sl} (hs : plainS s = true) (h : Own (σ.set i v) (ρ.set i s) p) : Own σ ρ p := by
  obtain ⟨j, xs, h1, h2⟩ := h
  by_cases e : i = j
  · subst e
    by_cases hi : i < ρ.length
    · rw [List.getElem?_set_self hi] at h2
      rcases h2 with h2 | h2 <;> (cases h2; cases hs)
    · have : (ρ.set i s)[i]? = none := List.getElem?_eq_none (by rw [List.length_set]; omega)
      rw [this] at h2
      rcases h2 with h2 | h2 <;> cases h2
  · rw [List.getElem?_set_ne e] at h1 h2
    exact ⟨j, xs, h1, h2⟩
theorem hid_more (h : ∀ p, Own σ' ρ' p → Own σ ρ p) : Same (hid F H σ ρ) (hid F H σ' ρ') := fun p o e => by
  obtain ⟨a, b, c⟩ := hid_old e
  exact hid_some (fun z => a (h p z)) b c
/-- a value is stored -/
theorem Sim.set_va {i : Nat} {s : Sl} {d : D} {v : V} (S : Sim F σ H ρ) (hi : ρ[i]? = some s) (hn : notIo s = true) (r : Rep F.K (hid F H σ ρ) d v) : Sim F (σ.set i (some v)) H (ρ.set i (.va d)) ∧ Same (hid F H σ ρ) (hid F H (σ.set i (some v)) (ρ.set i (.va d))) := by
  have hm : Same (hid F H σ ρ) (hid F H (σ.set i (some v)) (ρ.set i (.va d))) := hid_more fun p h => own_set rfl h
  have hl : i < ρ.length := (List.getElem?_eq_some_iff.mp hi).1
  have hl' : i < σ.length := by rw [← S.len]; exact hl
  refine ⟨⟨by rw [List.length_set, List.length_set]; exact S.len, fun j d' h => ?_, fun j xs h => ?_, fun j xs h => ?_, fun j k q xs ys h1 h2 h3 h4 => ?_, fun q h => ?_, S.base, S.sub⟩, hm⟩
  · by_cases e : i = j
    · subst e
      rw [List.getElem?_set_self hl] at h
      cases h
      exact ⟨v, List.getElem?_set_self hl', r.mono hm⟩
    · rw [List.getElem?_set_ne e] at h ⊢
      obtain ⟨u, h1, h2⟩ := S.va j d' h
      exact ⟨u, h1, h2.mono hm⟩
  · by_cases e : i = j
    · subst e
      rw [List.getElem?_set_self hl] at h
      cases h
    · rw [List.getElem?_set_ne e] at h ⊢
      obtain ⟨q, vs, h1, h2, h3, h4, h5⟩ := S.ow j xs h
      exact ⟨q, vs, h1, h2, h3, h4, h5.mono hm⟩
  · by_cases e : i = j
    · subst e
      rw [List.getElem?_set_self hl] at h
      cases h
    · rw [List.getElem?_set_ne e] at h ⊢
      obtain ⟨h0, q, vs, h1, h2, h3, h4, h5⟩ := S.io j xs h
      exact ⟨h0, q, vs, h1, h2, h3, h4, h5.mono hm⟩
  · by_cases e : i = j
    · subst e
      rw [List.getElem?_set_self hl] at h1
      cases h1
    · by_cases e2 : i = k
      · subst e2
        rw [List.getElem?_set_self hl] at h2
        cases h2
      · rw [List.getElem?_set_ne e] at h1 h3
        rw [List.getElem?_set_ne e2] at h2 h4
        exact S.inj j k q xs ys h1 h2 h3 h4
  · obtain ⟨h1, h2, xs, h3⟩ := S.ent q h
    refine ⟨h1, h2, xs, ?_⟩
    by_cases e : i = 0
    · subst e
      rw [hi] at h3
      cases h3
      cases hn
    · rw [List.getElem?_set_ne e]
      exact h3
def wipeR (ρ : Rho) : List Nat → Rho
  | [] => ρ
  | v :: vs => (wipeR ρ vs).set v .un
theorem wipeR_length (ρ : Rho) : ∀ vs : List Nat, (wipeR ρ vs).length = ρ.length
  | [] => rfl
  | v :: vs => by rw [wipeR, List.length_set, wipeR_length ρ vs]
theorem wipeR_out {i : Nat} : ∀ {vs : List Nat}, i ∉ vs → (wipeR ρ vs)[i]? = ρ[i]?
  | [], _ => rfl
  | v :: vs, h => by
    rw [wipeR, List.getElem?_set_ne (fun e => h (by rw [e]; exact List.mem_cons_self)), wipeR_out fun z => h (List.mem_cons_of_mem _ z)]
theorem wipeR_in {i : Nat} : ∀ {vs : List Nat}, i ∈ vs → i < ρ.length → (wipeR ρ vs)[i]? = some .un
  | [], h, _ => by cases h
  | v :: vs, h, hl => by
    rw [wipeR]
    by_cases e : v = i
    · subst e
      rw [List.getElem?_set_self (by rw [wipeR_length]; exact hl)]
    · rw [List.getElem?_set_ne e]
      rcases List.mem_cons.mp h with e' | h
      · exact absurd e'.symm e
      · exact wipeR_in h hl
theorem wipe_out' {i : Nat} : ∀ {vs : List Nat}, i ∉ vs → (wipe σ vs)[i]? = σ[i]?
  | [], _ => rfl
  | v :: vs, h => by
    rw [wipe, List.getElem?_set_ne (fun e => h (by rw [e]; exact List.mem_cons_self)), wipe_out' fun z => h (List.mem_cons_of_mem _ z)]
/-- the slots of a block's own names hold nothing that is owned -/
def okW (ρ : Rho) (vs : List Nat) : Bool := vs.all fun i => match ρ[i]? with
  | some s => plainS s
  | none => true
theorem okW_of {vs : List Nat} (h : okW ρ vs = true) {i : Nat} {s : Sl} (hi : i ∈ vs) (hs : ρ[i]? = some s) : plainS s = true := by
  unfold okW at h
  rw [List.all_eq_true] at h
  have := h i hi
  rw [hs] at this
  exact this
theorem wipeR_get {vs : List Nat} {i : Nat} {s : Sl} (h : (wipeR ρ vs)[i]? = some s) (n : s ≠ .un) : i ∉ vs ∧ ρ[i]? = some s := by
  by_cases hi : i ∈ vs
  · have hl : i < ρ.length := by
      have := (List.getElem?_eq_some_iff.mp h).1
      rwa [wipeR_length] at this
    rw [wipeR_in hi hl] at h
    cases h
    exact absurd rfl n
  · exact ⟨hi, by rw [← wipeR_out hi]; exact h⟩
/-- two states whose owned lists are the same ones -/
theorem own_wipe {vs : List Nat} (w : okW ρ vs = true) (e1 : ∀ j, j ∉ vs → σ'[j]? = σ[j]?) (e2 : ∀ j, j ∉ vs → ρ'[j]? = ρ[j]?) (e3 : ∀ j ∈ vs, ∀ s, ρ'[j]? = some s → plainS s = true) : ∀ p, Own σ' ρ' p ↔ Own σ ρ p := fun p => by
  constructor
  · rintro ⟨j, xs, h1, h2⟩
    by_cases hj : j ∈ vs
    · rcases h2 with h2 | h2 <;> (have := e3 j hj _ h2; cases this)
    · rw [e1 j hj] at h1
      rw [e2 j hj] at h2
      exact ⟨j, xs, h1, h2⟩
  · rintro ⟨j, xs, h1, h2⟩
    by_cases hj : j ∈ vs
    · rcases h2 with h2 | h2 <;> (have := okW_of w hj h2; cases this)
    · rw [← e1 j hj] at h1
      rw [← e2 j hj] at h2
      exact ⟨j, xs, h1, h2⟩
theorem hid_own (h : ∀ p, Own σ' ρ' p ↔ Own σ ρ p) : hid F H σ' ρ' = hid F H σ ρ := by
  funext p
  unfold hid
  by_cases q : Own σ ρ p
  · rw [if_pos q, if_pos ((h p).mpr q)]
  · rw [if_neg q, if_neg fun z => q ((h p).mp z)]
theorem see_own' {m : Bool} (h : ∀ p, Own σ' ρ' p ↔ Own σ ρ p) : see m F H σ' ρ' = see m F H σ ρ := by
  funext p
  unfold see
  rw [hid_own h]
  by_cases q : m = true ∧ Own σ ρ p
  · rw [if_pos q, if_pos ⟨q.1, (h p).mpr q.2⟩]
  · rw [if_neg q, if_neg fun z => q ⟨z.1, (h p).mp z.2⟩]
theorem own_wiped {vs : List Nat} (w : okW ρ vs = true) : ∀ p, Own (wipe σ vs) (wipeR ρ vs) p ↔ Own σ ρ p := own_wipe w (fun j hj => wipe_out' hj) (fun j hj => wipeR_out hj) fun j hj s hs => by
  have hl : j < ρ.length := by
    have := (List.getElem?_eq_some_iff.mp hs).1
    rwa [wipeR_length] at this
  rw [wipeR_in hj hl] at hs
  cases hs
  rfl
theorem Sim.wipe {vs : List Nat} (S : Sim F σ H ρ) (w : okW ρ vs = true) : Sim F (wipe σ vs) H (wipeR ρ vs) := by
  have hh : hid F H (L2.wipe σ vs) (wipeR ρ vs) = hid F H σ ρ := hid_own (own_wiped w)
  refine ⟨by rw [wipeR_length, L2.wipe_length]; exact S.len, fun j d' h => ?_, fun j xs h => ?_, fun j xs h => ?_, fun j k q xs ys h1 h2 h3 h4 => ?_, fun q h => ?_, S.base, S.sub⟩
  · obtain ⟨hj, h⟩ := wipeR_get h (fun z => nomatch z)
    rw [hh, wipe_out' hj]
    exact S.va j d' h
  · obtain ⟨hj, h⟩ := wipeR_get h (fun z => nomatch z)
    rw [hh, wipe_out' hj]
    exact S.ow j xs h
  · obtain ⟨hj, h⟩ := wipeR_get h (fun z => nomatch z)
    rw [hh, wipe_out' hj]
    exact S.io j xs h
  · obtain ⟨hj, h1⟩ := wipeR_get h1 (fun z => nomatch z)
    obtain ⟨hk, h2⟩ := wipeR_get h2 (fun z => nomatch z)
    rw [wipe_out' hj] at h3
    rw [wipe_out' hk] at h4
    exact S.inj j k q xs ys h1 h2 h3 h4
  · obtain ⟨h1, h2, xs, h3⟩ := S.ent q h
    refine ⟨h1, h2, xs, ?_⟩
    have h0 : 0 ∉ vs := fun z => by
      have := okW_of w z h3
      cases this
    rw [wipeR_out h0]
    exact h3
end

/-! ### a frame that hides one more address -/
/-- the list at p is hidden too -/
def Fm.hide (F : Fm) (p : Addr) (o : HO) : Fm := { F with B := upd F.B p o }
section
variable {F : Fm} {σ : L2.St} {H H' : Hp} {ρ : Rho} {p : Addr} {o : HO}
theorem hide_hid (hG : F.G p = none) {q : Addr} {u : HO} (h : hid (F.hide p o) H σ ρ q = some u) : q ≠ p ∧ hid F H σ ρ q = some u := by
  obtain ⟨a, b, c⟩ := hid_old h
  have hq : q ≠ p := fun z => by
    subst z
    exact c (by show upd F.B q o q ≠ none; rw [upd_same]; exact fun z => nomatch z) hG
  refine ⟨hq, hid_some a b fun z => c ?_⟩
  show upd F.B p o q ≠ none
  rw [upd_ne hq]
  exact z
theorem hid_hide {q : Addr} {u : HO} (hq : q ≠ p) (h : hid F H σ ρ q = some u) : hid (F.hide p o) H σ ρ q = some u := by
  obtain ⟨a, b, c⟩ := hid_old h
  refine hid_some a b fun z => c ?_
  have z' : upd F.B p o q ≠ none := z
  rw [upd_ne hq] at z'
  exact z'
theorem Sim.hide (S : Sim F σ H ρ) (hn : H p = none) {H' : Hp} (e : Same H H') (hp : H' p = some o) : Sim (F.hide p o) σ H' ρ := by
  obtain ⟨n1, n2⟩ := S.fresh hn
  have hm : Same (hid F H σ ρ) (hid (F.hide p o) H' σ ρ) := fun q u h => by
    have hq : q ≠ p := ne_of_none (hid_sub q u h) hn
    exact hid_hide hq (hid_mono e q u h)
  refine ⟨S.len, fun j d h => ?_, fun j xs h => ?_, fun j xs h => ?_, S.inj, fun q h => ?_, fun b u h n => ?_, fun b u h => ?_⟩
  · obtain ⟨v, h1, h2⟩ := S.va j d h
    exact ⟨v, h1, h2.mono hm⟩
  · obtain ⟨q, vs, h1, h2, h3, h4, h5⟩ := S.ow j xs h
    have hq : q ≠ p := ne_of_none h2 hn
    exact ⟨q, vs, h1, e _ _ h2, by show upd F.B p o q = none; rw [upd_ne hq]; exact h3, h4, h5.mono hm⟩
  · obtain ⟨h0, q, vs, h1, h2, h3, h4, h5⟩ := S.io j xs h
    exact ⟨h0, q, vs, h1, h2, e _ _ h3, h4, h5.mono hm⟩
  · obtain ⟨h1, h2, h3⟩ := S.ent q h
    refine ⟨?_, h2, h3⟩
    show upd F.B p o q ≠ none
    by_cases hq : q = p
    · rw [hq, upd_same]; exact fun z => nomatch z
    · rw [upd_ne hq]; exact h1
  · have h' : upd F.B p o b = some u := h
    by_cases hb : b = p
    · subst hb
      rw [upd_same] at h'
      cases h'
      exact hp
    · rw [upd_ne hb] at h'
      exact e _ _ (S.base b u h' n)
  · show upd F.B p o b = some u
    have hb : b ≠ p := fun z => by
      subst z
      have := S.sub b u h
      rw [n2] at this
      cases this
    rw [upd_ne hb]
    exact S.sub b u h
theorem G_none (S : Sim F σ H ρ) (hn : H p = none) : F.G p = none := by
  obtain ⟨_, n2⟩ := S.fresh hn
  cases q : F.G p with
  | none => rfl
  | some u =>
    have := S.sub p u q
    rw [n2] at this
    cases this
theorem see_hide {m : Bool} (hG : F.G p = none) (hno : ¬ Own σ ρ p) {q : Addr} {u : HO} (h : see m (F.hide p o) H σ ρ q = some u) : q ≠ p ∧ see m F H σ ρ q = some u := by
  obtain ⟨a, b⟩ := see_some h
  rcases b with ⟨b1, b2⟩ | ⟨b1, b2⟩
  · exact ⟨fun z => hno (by rw [← z]; exact b2), see_of a (.inl ⟨b1, b2⟩)⟩
  · obtain ⟨c1, c2⟩ := hide_hid hG (hid_some b1 a b2)
    obtain ⟨_, _, c3⟩ := hid_old c2
    exact ⟨c1, see_of a (.inr ⟨b1, c3⟩)⟩
end

/-! ### targets -/
def DG (X : Cx) (is : List Nat) (tg : Expr) (g : D → Rho → Option Rho) : Prop :=
  (∃ t, PG X tg t ∧ ∀ (F : Fm) (σ : L2.St) (H : Hp) (ρ ρ' : Rho) (d : D) (v : V) (Q : L2.St → Hp → Prop), F.K = X.K → Sim F σ H ρ → Rep X.K (hid F H σ ρ) d v → g d ρ = some ρ' →
    (∀ σ', Sim F σ' H ρ' → Same (hid F H σ ρ) (hid F H σ' ρ') → (∀ j, j ∉ is → σ'[j]? = σ[j]?) → σ'.length = σ.length → Q σ' H) → t v σ H Q) ∧
  ∀ (d : D) (ρ ρ' : Rho), g d ρ = some ρ' → (∀ j, j ∉ is → ρ'[j]? = ρ[j]?) ∧ ∀ j ∈ is, ∀ s, ρ'[j]? = some s → plainS s = true ∨ ρ[j]? = some s
def setR (i : Nat) (d : D) (ρ : Rho) : Option Rho := match ρ[i]? with
  | some (.io _) => none
  | some _ => some (ρ.set i (.va d))
  | none => none
theorem setR_some {i : Nat} {d : D} {ρ ρ' : Rho} (h : setR i d ρ = some ρ') : ∃ s, ρ[i]? = some s ∧ notIo s = true ∧ ρ' = ρ.set i (.va d) := by
  unfold setR at h
  split at h
  · cases h
  · rename_i s hn hs
    cases h
    refine ⟨s, hs, ?_, rfl⟩
    cases s with
    | io xs => exact (hn xs rfl).elim
    | _ => rfl
  · cases h
section
variable {X : Cx}
theorem dg_name {i : Nat} {tg : Expr} (h : PG X tg (gName i)) : DG X [i] tg (setR i) := by
  refine ⟨⟨_, h, fun F σ H ρ ρ' d v Q hk S r hf q => ?_⟩, fun d ρ ρ' hf => ?_⟩
  · obtain ⟨s, h1, h2, rfl⟩ := setR_some hf
    obtain ⟨S', hm⟩ := S.set_va h1 h2 (by rw [hk]; exact r)
    exact q _ S' hm (fun j hj => List.getElem?_set_ne fun e => hj (by rw [← e]; exact List.mem_cons_self)) List.length_set
  · obtain ⟨s, h1, h2, rfl⟩ := setR_some hf
    refine ⟨fun j hj => List.getElem?_set_ne fun e => hj (by rw [← e]; exact List.mem_cons_self), fun j hj s' hs => ?_⟩
    have e : j = i := by simpa using hj
    subst e
    rw [List.getElem?_set_self (List.getElem?_eq_some_iff.mp h1).1] at hs
    cases hs
    exact .inl rfl
def DGs (X : Cx) (is : List Nat) (ts : List Expr) (g : List D → Rho → Option Rho) : Prop :=
  (∃ t, PGs X ts t ∧ ∀ (F : Fm) (σ : L2.St) (H : Hp) (ρ ρ' : Rho) (ds : List D) (vs : List V) (Q : L2.St → Hp → Prop), F.K = X.K → Sim F σ H ρ → Reps X.K (hid F H σ ρ) ds vs → g ds ρ = some ρ' →
    (∀ σ', Sim F σ' H ρ' → Same (hid F H σ ρ) (hid F H σ' ρ') → (∀ j, j ∉ is → σ'[j]? = σ[j]?) → σ'.length = σ.length → Q σ' H) → t vs σ H Q) ∧
  (∀ (ds : List D) (ρ ρ' : Rho), g ds ρ = some ρ' → ds.length = ts.length ∧ (∀ j, j ∉ is → ρ'[j]? = ρ[j]?) ∧ ∀ j ∈ is, ∀ s, ρ'[j]? = some s → plainS s = true ∨ ρ[j]? = some s)
def nilG : List D → Rho → Option Rho := fun ds ρ => match ds with
  | [] => some ρ
  | _ => none
def consG (g : D → Rho → Option Rho) (gs : List D → Rho → Option Rho) : List D → Rho → Option Rho := fun ds ρ => match ds with
  | d :: r => match g d ρ with
    | some ρ' => gs r ρ'
    | none => none
  | [] => none
theorem dgs_nil : DGs X [] [] nilG := by
  refine ⟨⟨_, pgs_nil, fun F σ H ρ ρ' ds vs Q hk S r hf q => ?_⟩, fun ds ρ ρ' hf => ?_⟩
  · unfold nilG at hf
    split at hf
    · cases hf
      rw [Reps] at r
      exact ⟨r, q σ S (Same.refl _) (fun _ _ => rfl) rfl⟩
    · cases hf
  · unfold nilG at hf
    split at hf
    · cases hf
      exact ⟨rfl, fun _ _ => rfl, fun j hj => by cases hj⟩
    · cases hf
theorem dgs_cons {is js : List Nat} {e : Expr} {es : List Expr} {g : D → Rho → Option Rho} {gs : List D → Rho → Option Rho} (h : DG X is e g) (k : DGs X js es gs) (hs : (assignEach (e :: es) X.env).map (·.2) = assign e X.env :: (assignEach es X.env).map (·.2) := by rfl) : DGs X (is ++ js) (e :: es) (consG g gs) := by
  obtain ⟨⟨t, p, r⟩, c⟩ := h
  obtain ⟨⟨u, p2, r2⟩, c2⟩ := k
  refine ⟨⟨_, pgs_cons p p2 hs, fun F σ H ρ ρ' ds vs Q hk S rr hf q => ?_⟩, fun ds ρ ρ' hf => ?_⟩
  · unfold consG at hf
    split at hf
    · rename_i d ds
      split at hf
      · rename_i ρ1 h1
        rw [Reps] at rr
        obtain ⟨v, vr, e1, q1, q2⟩ := rr
        refine ⟨v, vr, e1, r F σ H ρ ρ1 d v _ hk S q1 h1 fun σ1 S1 m1 k1 l1 => ?_⟩
        refine r2 F σ1 H ρ1 ρ' ds vr _ hk S1 (q2.mono m1) hf fun σ2 S2 m2 k2 l2 => q σ2 S2 (m1.trans m2) (fun j hj => ?_) (l2.trans l1)
        exact (k2 j fun z => hj (List.mem_append_right _ z)).trans (k1 j fun z => hj (List.mem_append_left _ z))
      · cases hf
    · cases hf
  · unfold consG at hf
    split at hf
    · rename_i d ds
      split at hf
      · rename_i ρ1 h1
        obtain ⟨a1, a2⟩ := c d ρ ρ1 h1
        obtain ⟨b0, b1, b2⟩ := c2 ds ρ1 ρ' hf
        refine ⟨by rw [List.length_cons, List.length_cons, b0], fun j hj => (b1 j fun z => hj (List.mem_append_right _ z)).trans (a1 j fun z => hj (List.mem_append_left _ z)), fun j hj s hs => ?_⟩
        by_cases hj2 : j ∈ js
        · rcases b2 j hj2 s hs with z | z
          · exact .inl z
          · by_cases hj1 : j ∈ is
            · exact a2 j hj1 s z
            · exact .inr (by rw [← a1 j hj1]; exact z)
        · rw [b1 j hj2] at hs
          rcases List.mem_append.mp hj with hj1 | hj1
          · exact a2 j hj1 s hs
          · exact absurd hj1 hj2
      · cases hf
    · cases hf
def sqG (gs : List D → Rho → Option Rho) : D → Rho → Option Rho := fun d ρ => match d with
  | .sq _ xs => gs xs ρ
  | _ => none
end
end DL

-- DL10
/-! DL10: targets of several names, comprehensions. -/
namespace DL
open PySem PySem.Spec PyProof.Rows L2

section
variable {X : Cx}
theorem pg_or {tg : Expr} {g g' : TG} (h : PG X tg g) (h' : PG X tg g') : PG X tg (fun v σ H Q => g v σ H Q ∨ g' v σ H Q) := ⟨fun pins s σ H v u Q I r q => by
  rcases q with q | q
  · exact h.run pins s σ H v u Q I r q
  · exact h'.run pins s σ H v u Q I r q⟩
theorem dg_tup {is : List Nat} {es : List Expr} {k : Nat} {pos : Pos} {gs : List D → Rho → Option Rho} (hc : X.calm = true) (h : DGs X is es gs) (hn : (assignEach es X.env).length = es.length := by rfl) (hst : (assignEach es X.env).findIdx? (·.1) = none := by rfl) :
    DG X is (.Tuple es k pos) (sqG gs) := by
  obtain ⟨⟨t, p, r⟩, c⟩ := h
  refine ⟨⟨_, pg_or (pg_tup hc p hn hst) (pg_lst hc p hn hst), fun F σ H ρ ρ' d v Q hk S rr hf q => ?_⟩, fun d ρ ρ' hf => ?_⟩
  · unfold sqG at hf
    split at hf
    · rename_i t xs
      obtain ⟨a, vs, e, h1, h2, h3⟩ := rr.sq_eq
      have hl : vs.length = es.length := by rw [← h3.length]; exact (c xs ρ ρ' hf).1
      cases t with
      | true => exact .inl ⟨a, vs, e, Sq.mono hid_sub (t := true) h1, hl, r F σ H ρ ρ' xs vs Q hk S h3 hf q⟩
      | false => exact .inr ⟨a, vs, e, Sq.mono hid_sub (t := false) h1, hl, r F σ H ρ ρ' xs vs Q hk S h3 hf q⟩
    · cases hf
  · unfold sqG at hf
    split at hf
    · exact (c _ ρ ρ' hf).2
    · cases hf
def getI (i : Nat) : Rho → Option (List D) := fun ρ => match ρ[i]? with
  | some (.va (.sq _ xs)) => some xs
  | some (.ow xs) => some xs
  | some (.io xs) => some xs
  | _ => none
/-- over a name, the list may be owned (and is not changed meanwhile) -/
theorem di_var {tg l : Expr} {i : Nat} (h : PE X l (tVar i)) : DI X true tg l (getI i) := by
  refine ⟨_, pi_seq h, fun F σ H ρ ds R hk S hf q => ?_⟩
  unfold getI at hf
  split at hf
  · rename_i t xs hd
    cases hf
    obtain ⟨v, e1, e2⟩ := S.va i _ hd
    obtain ⟨a, vs, e, h1, h2, h3⟩ := e2.sq_eq
    subst e
    refine ⟨_, e1, t, a, vs, rfl, ?_, q _ H (Same.refl H) ?_⟩
    · rw [← hk]; exact Sq.mono hid_sub h1
    · rw [← hk]; exact src_seq see_le (Sq.mono see_le h1) h2 h3
  · rename_i xs hd
    cases hf
    obtain ⟨p, vs, e1, e2, e3, e4, e5⟩ := S.ow i _ hd
    refine ⟨_, e1, false, p, vs, rfl, SqL.of e2, q _ H (Same.refl H) ?_⟩
    rw [← hk]
    exact src_seq (t := false) see_le (SqL.of (by rw [see_own ⟨i, _, e1, .inl hd⟩]; exact e2)) e4 e5
  · rename_i xs hd
    cases hf
    obtain ⟨_, p, vs, _, e1, e2, e4, e5⟩ := S.io i _ hd
    refine ⟨_, e1, false, p, vs, rfl, SqL.of e2, q _ H (Same.refl H) ?_⟩
    rw [← hk]
    exact src_seq (t := false) see_le (SqL.of (by rw [see_own ⟨i, _, e1, .inr hd⟩]; exact e2)) e4 e5
  · cases hf
theorem DI.up {tg l : Expr} {f : Rho → Option (List D)} (h : DI X false tg l f) : DI X true tg l f := by
  obtain ⟨wi, p, r⟩ := h
  refine ⟨wi, p, fun F σ H ρ ds R hk S hf q => r F σ H ρ ds R hk S hf fun J H' e s => q J H' e ?_⟩
  have hs : Same (see false F H' σ ρ) (see true F H' σ ρ) := by rw [see_false]; exact see_le
  exact ⟨fun i H'' hi e => s.go i H'' hi (hs.trans e), fun i H'' x H3 hi e y => s.yld i H'' x H3 hi (hs.trans e) y, fun H'' e => s.stop H'' (hs.trans e), s.len⟩

/-! ### tests of a comprehension -/
def DTs (X : Cx) (es : List Expr) (f : Rho → Option Bool) : Prop :=
  ∃ t, PTs X es t ∧ ∀ (F : Fm) (σ : L2.St) (H : Hp) (ρ : Rho) (b : Bool) (Q : Bool → Hp → Prop), F.K = X.K → Sim F σ H ρ → f ρ = some b → (∀ H', Same H H' → Q b H') → t σ H Q
def yesB : Rho → Option Bool := fun _ => some true
theorem dts_nil : DTs X [] yesB := ⟨_, pts_nil, fun F σ H ρ b Q hk S hf q => by cases hf; exact q H (Same.refl H)⟩
theorem dts_one {c : Expr} {f : Rho → Option Bool} (h : DT X c f) : DTs X [c] f := let ⟨t, p, r⟩ := h; ⟨t, pts_one p, r⟩
end

/-! ### comprehensions -/
/-- the turns, one after another -/
def cmpGo (g : D → Rho → Option Rho) (c : Rho → Option Bool) (fe : Rho → Option D) (ρ : Rho) : List D → Option (List D)
  | [] => some []
  | d :: ds => match g d ρ with
    | some ρ' => match c ρ' with
      | some true => match fe ρ' with
        | some e => match cmpGo g c fe ρ ds with
          | some es => some (e :: es)
          | none => none
        | none => none
      | some false => cmpGo g c fe ρ ds
      | none => none
    | none => none
def cmp (fi : Rho → Option (List D)) (vs : List Nat) (g : D → Rho → Option Rho) (c : Rho → Option Bool) (fe : Rho → Option D) : Rho → Option (List D) := fun ρ => match fi ρ with
  | some ds => if okW ρ vs = true then cmpGo g c fe (wipeR ρ vs) ds else none
  | none => none
theorem cmpGo_length {g : D → Rho → Option Rho} {c : Rho → Option Bool} {fe : Rho → Option D} {ρ : Rho} : ∀ {ds es : List D}, cmpGo g c fe ρ ds = some es → es.length ≤ ds.length
  | [], es, h => by
    cases h
    exact Nat.le_refl _
  | d :: ds, es, h => by
    rw [cmpGo] at h
    split at h
    · split at h
      · split at h
        · split at h
          · cases h
            exact Nat.succ_le_succ (cmpGo_length ‹_›)
          · cases h
        · cases h
      · exact Nat.le_succ_of_le (cmpGo_length h)
      · cases h
    · cases h
section
variable {X : Cx} {m m' : Bool}
/-- the reading of a comprehension: a new list, its items -/
theorem lc_run {vs is : List Nat} {wi : TI} {gt : TG} {tt : TT} {te : TE} {fi : Rho → Option (List D)} {g : D → Rho → Option Rho} {c : Rho → Option Bool} {fe : Rho → Option D}
    (ri : ∀ (F : Fm) (σ : L2.St) (H : Hp) (ρ : Rho) (ds : List D) (R : It → Hp → Prop), F.K = X.K → Sim F σ H ρ → fi ρ = some ds → (∀ J H', Same H H' → Src X.K J ds (see m F H' σ ρ) (hid F H' σ ρ) → R J H') → wi σ H R)
    (rg : ∀ (F : Fm) (σ : L2.St) (H : Hp) (ρ ρ' : Rho) (d : D) (v : V) (Q : L2.St → Hp → Prop), F.K = X.K → Sim F σ H ρ → Rep X.K (hid F H σ ρ) d v → g d ρ = some ρ' → (∀ σ', Sim F σ' H ρ' → Same (hid F H σ ρ) (hid F H σ' ρ') → (∀ j, j ∉ is → σ'[j]? = σ[j]?) → σ'.length = σ.length → Q σ' H) → gt v σ H Q)
    (gc : ∀ (d : D) (ρ ρ' : Rho), g d ρ = some ρ' → (∀ j, j ∉ is → ρ'[j]? = ρ[j]?) ∧ ∀ j ∈ is, ∀ s, ρ'[j]? = some s → plainS s = true ∨ ρ[j]? = some s)
    (rt : ∀ (F : Fm) (σ : L2.St) (H : Hp) (ρ : Rho) (b : Bool) (Q : Bool → Hp → Prop), F.K = X.K → Sim F σ H ρ → c ρ = some b → (∀ H', Same H H' → Q b H') → tt σ H Q)
    (re : ∀ (F : Fm) (σ : L2.St) (H : Hp) (ρ : Rho) (d : D) (Q : VK), F.K = X.K → Sim F σ H ρ → fe ρ = some d → (∀ v H', Same H H' → Rep X.K (see m' F H' σ ρ) d v → Q v H') → te σ H Q)
    (hsub : ∀ i ∈ is, i ∈ vs) {F : Fm} {σ : L2.St} {H : Hp} {ρ : Rho} {es : List D} {Q : VK} (hk : F.K = X.K) (S : Sim F σ H ρ) (hf : cmp fi vs g c fe ρ = some es)
    (q : ∀ p ws H', H p = none → Same H H' → H' p = some (.lst ws) → ws.length ≤ sizeLine → Reps X.K (del p (see m' F H' σ ρ)) es ws → Q (.ref p) H') : tLc wi gt tt te vs σ H Q := by
  unfold cmp at hf
  split at hf
  · rename_i ds hds
    split at hf
    · rename_i hw
      refine ri F σ H ρ ds _ hk S hds fun J H1 e1 src p hp => ?_
      have S1 := S.ext e1
      have hsz' := src.len
      have hG := G_none S1 hp
      have hno : ¬ Own σ ρ p := (S1.fresh hp).1
      have Sw := S1.wipe hw
      have how : ∀ q, Own (wipe σ vs) (wipeR ρ vs) q ↔ Own σ ρ q := own_wiped hw
      refine ⟨fun i mm H2 => mm = ds.length - i ∧ i ≤ ds.length ∧ Same H1 H2 ∧ ∃ (done rest : List D) (acc : List V), H2 p = some (.lst acc) ∧ acc.length ≤ i ∧ Reps X.K (del p (see m' F H2 σ ρ)) done acc ∧ cmpGo g c fe (wipeR ρ vs) (ds.drop i) = some rest ∧ es = done ++ rest,
        ⟨ds.length, by simp, Nat.zero_le _, same_new hp, [], es, [], upd_same, Nat.zero_le _, .nil, by rw [List.drop_zero]; exact hf, rfl⟩, ?_⟩
      rintro i mm H2 ⟨rfl, hi, e2, done, rest, acc, hH, hacc, hrep, hgo, hes⟩
      have eG : Same (see m F H1 σ ρ) H2 := see_sub.trans e2
      by_cases hlt : i < ds.length
      · refine .inr ⟨src.go i H2 hlt eG, fun H3 => Same H1 H3 ∧ ∃ (done rest : List D) (acc : List V), H3 p = some (.lst acc) ∧ acc.length ≤ i + 1 ∧ Reps X.K (del p (see m' F H3 σ ρ)) done acc ∧ cmpGo g c fe (wipeR ρ vs) (ds.drop (i + 1)) = some rest ∧ es = done ++ rest,
          fun H3 ⟨a1, a2⟩ => ⟨ds.length - (i + 1), by omega, rfl, hlt, a1, a2⟩, fun x H3 y => ?_⟩
        obtain ⟨d, hd, e3, hx⟩ := src.yld i H2 x H3 hlt eG y
        have hdd : ds.drop i = d :: ds.drop (i + 1) := by
          rw [List.drop_eq_getElem_cons hlt]
          congr 1
          rw [List.getElem?_eq_getElem hlt] at hd
          exact Option.some.inj hd
        rw [hdd, cmpGo] at hgo
        split at hgo
        · rename_i ρ2 hρ2
          have hH3 : H3 p = some (.lst acc) := e3 _ _ hH
          have e13 : Same H1 H3 := e2.trans e3
          have S3 : Sim (F.hide p (.lst acc)) (wipe σ vs) H3 (wipeR ρ vs) := Sw.hide hp e13 hH3
          have hx3 : Rep X.K (hid (F.hide p (.lst acc)) H3 (wipe σ vs) (wipeR ρ vs)) d x := by
            refine hx.mono fun b o hb => ?_
            obtain ⟨b1, b2⟩ := vis_old hb
            by_cases hz : H2 b = none
            · have hbp : b ≠ p := fun z => by rw [z, hH] at hz; cases hz
              refine hid_hide hbp ?_
              have hz1 : H1 b = none := e2.free hz
              obtain ⟨f1, f2⟩ := S1.fresh hz1
              exact hid_some (fun z => f1 ((how b).mp z)) b1 fun z => (z f2).elim
            · obtain ⟨u, hu⟩ := Option.ne_none_iff_exists'.mp (b2 hz)
              obtain ⟨c1, c2, c3⟩ := hid_old hu
              have hbp : b ≠ p := fun z => by rw [z, hp] at c2; cases c2
              exact hid_hide hbp (hid_some (fun z => c1 ((how b).mp z)) b1 c3)
          refine rg (F.hide p (.lst acc)) (wipe σ vs) H3 (wipeR ρ vs) ρ2 d x _ hk S3 hx3 hρ2 fun σ2 S2 m2 k2 l2 => ?_
          obtain ⟨g1, g2⟩ := gc d (wipeR ρ vs) ρ2 hρ2
          have hwσ : wipe σ2 vs = wipe σ vs := by
            refine List.ext_getElem? fun j => ?_
            by_cases hj : j ∈ vs
            · have key : ∀ (τ : L2.St) (ws : List Nat), j ∈ ws → (wipe τ ws)[j]? = if j < τ.length then some none else none := by
                intro τ ws
                induction ws with
                | nil => intro h; cases h
                | cons w ws ih =>
                  intro h
                  rw [wipe]
                  by_cases e : w = j
                  · subst e
                    by_cases hl : w < τ.length
                    · rw [List.getElem?_set_self (by rw [wipe_length]; exact hl), if_pos hl]
                    · rw [if_neg hl]
                      exact List.getElem?_eq_none (by rw [List.length_set, wipe_length]; omega)
                  · rw [List.getElem?_set_ne e]
                    rcases List.mem_cons.mp h with h | h
                    · exact absurd h.symm e
                    · exact ih h
              rw [key σ2 vs hj, key σ vs hj, l2, wipe_length]
            · rw [wipe_out' hj, k2 j fun z => hj (hsub j z)]
          have how2 : ∀ b, Own σ2 ρ2 b ↔ Own σ ρ b := own_wipe hw (fun j hj => (k2 j fun z => hj (hsub j z)).trans (wipe_out' hj)) (fun j hj => (g1 j fun z => hj (hsub j z)).trans (wipeR_out hj)) fun j hj s hs => by
            have hl : j < ρ.length := by
              have h1 := (List.getElem?_eq_some_iff.mp hs).1
              have h2 := S2.len
              have h3 := S.len
              rw [l2, wipe_length] at h2
              omega
            by_cases hji : j ∈ is
            · rcases g2 j hji s hs with z | z
              · exact z
              · rw [wipeR_in hj hl] at z
                cases z
                rfl
            · rw [g1 j hji, wipeR_in hj hl] at hs
              cases hs
              rfl
          refine ⟨hwσ, ?_⟩
          split at hgo
          · rename_i hc
            split at hgo
            · rename_i el hel
              split at hgo
              · rename_i rest' hrest
                cases hgo
                refine rt (F.hide p (.lst acc)) σ2 H3 ρ2 true _ hk S2 hc fun H4 e4 => ?_
                rw [if_pos rfl]
                refine re (F.hide p (.lst acc)) σ2 H4 ρ2 el _ hk (S2.ext e4) hel fun v H5 e5 hv => ?_
                have hH5 : H5 p = some (.lst acc) := e5 _ _ (e4 _ _ hH3)
                have e15 : Same H1 H5 := (e13.trans e4).trans e5
                refine ⟨acc, hH5, by omega, ?_, done ++ [el], rest', acc ++ [v], upd_same, by rw [List.length_append]; simp; omega, ?_, hrest, by rw [hes, List.append_assoc]; rfl⟩
                · intro b o hb
                  have hbp : b ≠ p := ne_of_none hb hp
                  rw [upd_ne hbp]
                  exact e15 _ _ hb
                · have mv : ∀ {H6 : Hp}, Same H6 H5 → Same (del p (see m' F H6 σ ρ)) (del p (see m' F (upd H5 p (.lst (acc ++ [v]))) σ ρ)) := fun {H6} e6 b o hb => by
                    have hbp : b ≠ p := fun z => by
                      unfold del at hb
                      rw [if_pos z] at hb
                      cases hb
                    refine del_some ?_ hbp
                    obtain ⟨b1, b2⟩ := see_some (del_sub _ _ hb)
                    exact see_of (by rw [upd_ne hbp]; exact e6 _ _ b1) b2
                  refine (hrep.mono (mv ((e3.trans e4).trans e5))).append (.cons ?_ .nil)
                  refine hv.mono fun b o hb => ?_
                  rw [see_own' how2] at hb
                  obtain ⟨hbp, hb'⟩ := see_hide hG hno hb
                  exact mv (Same.refl _) b o (del_some hb' hbp)
              · cases hgo
            · cases hgo
          · rename_i hc
            refine rt (F.hide p (.lst acc)) σ2 H3 ρ2 false _ hk S2 hc fun H4 e4 => ?_
            rw [if_neg Bool.false_ne_true]
            refine ⟨e13.trans e4, done, rest, acc, e4 _ _ hH3, by omega, hrep.mono fun b o hb => ?_, hgo, hes⟩
            have hbp : b ≠ p := fun z => by
              unfold del at hb
              rw [if_pos z] at hb
              cases hb
            exact del_some (see_mono (e3.trans e4) _ _ (del_sub _ _ hb)) hbp
          · cases hgo
        · cases hgo
      · have hie : i = ds.length := by omega
        subst hie
        rw [List.drop_length, cmpGo] at hgo
        cases hgo
        rw [List.append_nil] at hes
        subst hes
        refine .inl ⟨src.stop H2 eG, q p acc H2 (e1.free hp) (e1.trans e2) hH (by omega) hrep⟩
    · cases hf
  · cases hf

/-- a new list -/
def DF (X : Cx) (e : Expr) (f : Rho → Option (List D)) : Prop :=
  ∃ t, PE X e t ∧ ∀ (F : Fm) (σ : L2.St) (H : Hp) (ρ : Rho) (xs : List D) (Q : VK), F.K = X.K → Sim F σ H ρ → f ρ = some xs →
    (∀ p ws H', H p = none → Same H H' → H' p = some (.lst ws) → ws.length ≤ sizeLine → Reps X.K (del p (hid F H' σ ρ)) xs ws → Q (.ref p) H') → t σ H Q
def lstO (o : Option (List D)) : Option D := match o with
  | some xs => some (.sq false xs)
  | none => none
theorem lstO_some {o : Option (List D)} {d : D} (h : lstO o = some d) : ∃ xs, o = some xs ∧ d = .sq false xs := by
  unfold lstO at h
  split at h
  · cases h
    exact ⟨_, rfl, rfl⟩
  · cases h
theorem dp_of_df {e : Expr} {f : Rho → Option (List D)} (h : DF X e f) : DP X m e (fun ρ => lstO (f ρ)) := by
  obtain ⟨t, p, r⟩ := h
  refine ⟨t, p, fun F σ H ρ d Q hk S hf q => ?_⟩
  obtain ⟨xs, h1, rfl⟩ := lstO_some hf
  refine r F σ H ρ xs _ hk S h1 fun a ws H' hn e h2 hl rr => q _ H' e ?_
  obtain ⟨n1, n2⟩ := S.fresh hn
  exact rep_sq (t := false) (.inl (.inl (see_of h2 (.inr ⟨n1, fun z => (z n2).elim⟩)))) hl (rr.mono (del_sub.trans see_le))

/-- the readings that the judgements have, whatever the context -/
def tDP (K : PySem.W.Frag) (m : Bool) (f : Rho → Option D) : TE := fun σ H Q => ∃ (F : Fm) (ρ : Rho) (d : D), F.K = K ∧ Sim F σ H ρ ∧ f ρ = some d ∧ ∀ v H', Same H H' → Rep K (see m F H' σ ρ) d v → Q v H'
def tDT (K : PySem.W.Frag) (f : Rho → Option Bool) : TT := fun σ H Q => ∃ (F : Fm) (ρ : Rho) (b : Bool), F.K = K ∧ Sim F σ H ρ ∧ f ρ = some b ∧ ∀ H', Same H H' → Q b H'
def tDG (K : PySem.W.Frag) (is : List Nat) (g : D → Rho → Option Rho) : TG := fun v σ H Q => ∃ (F : Fm) (ρ ρ' : Rho) (d : D), F.K = K ∧ Sim F σ H ρ ∧ Rep K (hid F H σ ρ) d v ∧ g d ρ = some ρ' ∧
  ∀ σ', Sim F σ' H ρ' → Same (hid F H σ ρ) (hid F H σ' ρ') → (∀ j, j ∉ is → σ'[j]? = σ[j]?) → σ'.length = σ.length → Q σ' H
theorem DP.pe {e : Expr} {f : Rho → Option D} (h : DP X m e f) : PE X e (tDP X.K m f) := by
  obtain ⟨t, p, r⟩ := h
  exact ⟨fun pins s σ H Q I ⟨F, ρ, d, hk, S, hf, q⟩ => p.run pins s σ H Q I (r F σ H ρ d Q hk S hf q)⟩
theorem DTs.pts {es : List Expr} {f : Rho → Option Bool} (h : DTs X es f) : PTs X es (tDT X.K f) := by
  obtain ⟨t, p, r⟩ := h
  exact ⟨fun pins s σ H Q I ⟨F, ρ, d, hk, S, hf, q⟩ => p.run pins s σ H Q I (r F σ H ρ d Q hk S hf q)⟩
theorem DG.pg {is : List Nat} {tg : Expr} {g : D → Rho → Option Rho} (h : DG X is tg g) : PG X tg (tDG X.K is g) := by
  obtain ⟨⟨t, p, r⟩, _⟩ := h
  exact ⟨fun pins s σ H v u Q I rv ⟨F, ρ, ρ', d, hk, S, rr, hf, q⟩ => p.run pins s σ H v u Q I rv (r F σ H ρ ρ' d v Q hk S rr hf q)⟩
/-- a judgement in every block of a comprehension -/
abbrev InBlk (X : Cx) (scope : Scope) (P : Cx → Prop) : Prop := ∀ (s : Shared) (H : Hp) (C : Addr) (cl : List (Str × Addr)) (fp : List Addr), P (X.blk s H scope (compEnvC scope cl C X.env) fp)
theorem lc_dp {elt tg iter : Expr} {ifs : List Expr} {scope : Scope} {own : List (Str × Nat)} {pos : Pos} {is : List Nat} {fi : Rho → Option (List D)} {g : D → Rho → Option Rho} {c : Rho → Option Bool} {fe : Rho → Option D} (o : Okx X) (hN : X.N.Nodup)
    (hi : DI X m tg iter fi) (ok : BlkOk X.N X.env.scope scope own) (hg : InBlk X scope fun Y => DG Y is tg g) (ht : InBlk X scope fun Y => DTs Y ifs c) (he : InBlk X scope fun Y => DP Y m' elt fe)
    (hsub : ∀ i ∈ is, i ∈ own.map (·.2)) (hs : ∀ x, foldedSetIterable iter X.env x = pure x := by intro _; rfl) :
    ∃ t, PE X (.ListComp elt [⟨tg, iter, ifs, 0⟩] scope pos) t ∧ ∀ (F : Fm) (σ : L2.St) (H : Hp) (ρ : Rho) (es : List D) (Q : VK), F.K = X.K → Sim F σ H ρ → cmp fi (own.map (·.2)) g c fe ρ = some es →
      (∀ p ws H', H p = none → Same H H' → H' p = some (.lst ws) → ws.length ≤ sizeLine → Reps X.K (del p (see m' F H' σ ρ)) es ws → Q (.ref p) H') → t σ H Q := by
  obtain ⟨wi, pi, ri⟩ := hi
  refine ⟨_, pe_lc (g := tDG X.K is g) (tt := tDT X.K c) (te := tDP X.K m' fe) o.calm hN pi ok (fun s H C cl fp => (hg s H C cl fp).pg) (fun s H C cl fp => (ht s H C cl fp).pts) (fun s H C cl fp => (he s H C cl fp).pe) hs, fun F σ H ρ es Q hk S hf q => ?_⟩
  have gc := (hg {} (fun _ => none) 0 [] []).2
  exact lc_run (X := X) ri (fun F σ H ρ ρ' d v Q hk S r hf q => ⟨F, ρ, ρ', d, hk, S, r, hf, q⟩) gc (fun F σ H ρ b Q hk S hf q => ⟨F, ρ, b, hk, S, hf, q⟩) (fun F σ H ρ d Q hk S hf q => ⟨F, ρ, d, hk, S, hf, q⟩) hsub hk S hf q
theorem dp_lc {elt tg iter : Expr} {ifs : List Expr} {scope : Scope} {own : List (Str × Nat)} {pos : Pos} {is : List Nat} {fi : Rho → Option (List D)} {g : D → Rho → Option Rho} {c : Rho → Option Bool} {fe : Rho → Option D} (o : Okx X) (hN : X.N.Nodup)
    (hi : DI X m tg iter fi) (ok : BlkOk X.N X.env.scope scope own) (hg : InBlk X scope fun Y => DG Y is tg g) (ht : InBlk X scope fun Y => DTs Y ifs c) (he : InBlk X scope fun Y => DP Y m' elt fe)
    (hsub : ∀ i ∈ is, i ∈ own.map (·.2)) (hs : ∀ x, foldedSetIterable iter X.env x = pure x := by intro _; rfl) : DP X m' (.ListComp elt [⟨tg, iter, ifs, 0⟩] scope pos) (fun ρ => lstO (cmp fi (own.map (·.2)) g c fe ρ)) := by
  obtain ⟨t, p, r⟩ := lc_dp (pos := pos) o hN hi ok hg ht he hsub hs
  refine ⟨t, p, fun F σ H ρ d Q hk S hf q => ?_⟩
  obtain ⟨xs, h1, rfl⟩ := lstO_some hf
  refine r F σ H ρ xs _ hk S h1 fun a ws H' hn e h2 hl rr => q _ H' e ?_
  obtain ⟨n1, n2⟩ := S.fresh hn
  exact rep_sq (t := false) (.inl (.inl (see_of h2 (.inr ⟨n1, fun z => (z n2).elim⟩)))) hl (rr.mono del_sub)
theorem df_lc {elt tg iter : Expr} {ifs : List Expr} {scope : Scope} {own : List (Str × Nat)} {pos : Pos} {is : List Nat} {fi : Rho → Option (List D)} {g : D → Rho → Option Rho} {c : Rho → Option Bool} {fe : Rho → Option D} (o : Okx X) (hN : X.N.Nodup)
    (hi : DI X m tg iter fi) (ok : BlkOk X.N X.env.scope scope own) (hg : InBlk X scope fun Y => DG Y is tg g) (ht : InBlk X scope fun Y => DTs Y ifs c) (he : InBlk X scope fun Y => DP Y false elt fe)
    (hsub : ∀ i ∈ is, i ∈ own.map (·.2)) (hs : ∀ x, foldedSetIterable iter X.env x = pure x := by intro _; rfl) : DF X (.ListComp elt [⟨tg, iter, ifs, 0⟩] scope pos) (cmp fi (own.map (·.2)) g c fe) := by
  obtain ⟨t, p, r⟩ := lc_dp (pos := pos) o hN hi ok hg ht he hsub hs
  refine ⟨t, p, fun F σ H ρ xs Q hk S hf q => r F σ H ρ xs Q hk S hf fun a ws H' hn e h2 hl rr => q a ws H' hn e h2 hl ?_⟩
  rw [see_false] at rr
  exact rr
/-- other new lists -/
def dspL (fs : Rho → Option (List D)) : Rho → Option (List D) := fun ρ => match fs ρ with
  | some ds => if ds.length ≤ 1000 then some ds else none
  | none => none
theorem dspL_some {fs : Rho → Option (List D)} {ρ : Rho} {ds : List D} (h : dspL fs ρ = some ds) : fs ρ = some ds ∧ ds.length ≤ 1000 := by
  unfold dspL at h
  split at h
  · split at h
    · cases h
      exact ⟨‹_›, ‹_›⟩
    · cases h
  · cases h
theorem df_lst {es : List Expr} {pos : Pos} {fs : Rho → Option (List D)} (h : DPs X false es fs) : DF X (.List es pos) (dspL fs) := by
  obtain ⟨t, p, r⟩ := h
  refine ⟨_, pe_lst p, fun F σ H ρ ds Q hk S hf q => ?_⟩
  obtain ⟨hd, hl0⟩ := dspL_some hf
  refine r F σ H ρ ds _ hk S hd fun vs H1 e1 q1 => ?_
  rw [see_false] at q1
  have hl : vs.length ≤ sizeLine := by rw [← q1.length, sizeLine_eq]; omega
  refine ⟨hl, fun a ha => q a vs _ (e1.free ha) (e1.trans (same_new ha)) upd_same hl (q1.mono fun b o hb => ?_)⟩
  have hba : b ≠ a := ne_of_none (hid_sub _ _ hb) ha
  exact del_some (hid_mono (same_new ha) _ _ hb) hba
theorem df_list {e : Expr} {p pos : Pos} {fa : Rho → Option D} (hg : Gl X "list") (hm : X.mg "list" = none) (ha : DP X false e fa) (he : starEach (e :: []) X.env = (false, eval e X.env) :: starEach [] X.env := by rfl) (hpl : (backTo pos (starEach [] X.env)).any (·.1) = false := by rfl) :
    DF X (.Call (.Name "list" p) [e] [] pos) (fun ρ => sqO (fa ρ)) := by
  obtain ⟨t, pa, r⟩ := ha
  refine ⟨_, pe_callTy call_list_of hg hm boot_list (pa_cons pa pa_nil he) (by decide) (by decide) he hpl, fun F σ H ρ ds Q hk S hf q => ?_⟩
  obtain ⟨tt, hd⟩ := sqO_some hf
  refine r F σ H ρ _ _ hk S hd fun v H1 e1 q1 => ?_
  rw [see_false] at q1
  obtain ⟨a, vs, rfl, h1, h2, h3⟩ := q1.sq_eq
  refine ⟨a, vs, rfl, ?_, fun l hl => q l vs _ (e1.free hl) (e1.trans (same_new hl)) upd_same h2 (h3.mono fun b o hb => del_some (hid_mono (same_new hl) _ _ hb) (ne_of_none (hid_sub _ _ hb) hl))⟩
  cases tt with
  | false => exact .inl (Sq.mono hid_sub (t := false) h1)
  | true => exact .inr (Sq.mono hid_sub (t := true) h1)
end
end DL

-- DL11
/-! DL11: owned lists: changed, frozen, new ones stored; expressions that change owned lists. -/
namespace DL
open PySem PySem.Spec PyProof.Rows L2

def getL (i : Nat) (ρ : Rho) : Option (List D) := match ρ[i]? with
  | some (.ow xs) => some xs
  | some (.io xs) => some xs
  | _ => none
def putL (i : Nat) (xs : List D) (ρ : Rho) : Rho := match ρ[i]? with
  | some (.ow _) => ρ.set i (.ow xs)
  | some (.io _) => ρ.set i (.io xs)
  | _ => ρ
def frz (i : Nat) (ρ : Rho) : Rho := match ρ[i]? with
  | some (.ow xs) => ρ.set i (.va (.sq false xs))
  | _ => ρ
theorem getL_some {i : Nat} {ρ : Rho} {xs : List D} (h : getL i ρ = some xs) : ρ[i]? = some (.ow xs) ∨ ρ[i]? = some (.io xs) := by
  unfold getL at h
  split at h
  · cases h
    exact .inl ‹_›
  · cases h
    exact .inr ‹_›
  · cases h
section
variable {F : Fm} {σ : L2.St} {H H' : Hp} {ρ ρ' : Rho} {p : Addr}
theorem getL_addr {i : Nat} {xs : List D} (S : Sim F σ H ρ) (h : getL i ρ = some xs) : ∃ p vs, σ[i]? = some (some (.ref p)) ∧ Own σ ρ p ∧ H p = some (.lst vs) ∧ vs.length ≤ sizeLine ∧ Reps F.K (hid F H σ ρ) xs vs := by
  rcases getL_some h with h | h
  · obtain ⟨p, vs, e1, e2, e3, e4, e5⟩ := S.ow i xs h
    exact ⟨p, vs, e1, ⟨i, xs, e1, .inl h⟩, e2, e4, e5⟩
  · obtain ⟨e0, p, vs, e1, e2, e3, e4, e5⟩ := S.io i xs h
    exact ⟨p, vs, e2, ⟨i, xs, e2, .inr h⟩, e3, e4, e5⟩
theorem Sim.io_B {i : Nat} {xs : List D} (S : Sim F σ H ρ) (h : ρ[i]? = some (.io xs)) (e : σ[i]? = some (some (.ref p))) : F.io = some p ∧ F.B p ≠ none := by
  obtain ⟨e0, q, vs, e1, e2, _⟩ := S.io i xs h
  rw [e] at e2
  cases e2
  exact ⟨e1, (S.ent p e1).1⟩
theorem Sim.ow_B {i : Nat} {xs : List D} (S : Sim F σ H ρ) (h : ρ[i]? = some (.ow xs)) (e : σ[i]? = some (some (.ref p))) : F.B p = none := by
  obtain ⟨q, vs, e1, e2, e3, _⟩ := S.ow i xs h
  rw [e] at e1
  cases e1
  exact e3
/-- an owned list is changed -/
theorem Sim.mut {i : Nat} {xs xs' : List D} {ws' : List V} (S : Sim F σ H ρ) (hi : getL i ρ = some xs) (hσ : σ[i]? = some (some (.ref p))) (keep : ∀ b o, b ≠ p → H b = some o → H' b = some o) (hp : H' p = some (.lst ws')) (hl : ws'.length ≤ sizeLine) (r : Reps F.K (hid F H' σ ρ) xs' ws') :
    Sim F σ H' (putL i xs' ρ) ∧ (∀ q, Own σ (putL i xs' ρ) q ↔ Own σ ρ q) ∧ Same (hid F H σ ρ) (hid F H' σ (putL i xs' ρ)) := by
  have hlen : i < ρ.length := by
    rcases getL_some hi with h | h <;> exact (List.getElem?_eq_some_iff.mp h).1
  have hown : ∀ q, Own σ (putL i xs' ρ) q ↔ Own σ ρ q := by
    intro q
    unfold putL
    split
    · rename_i ys hy
      constructor
      · rintro ⟨j, zs, e, h⟩
        by_cases hj : i = j
        · subst hj
          exact ⟨i, ys, e, .inl hy⟩
        · rw [List.getElem?_set_ne hj] at h
          exact ⟨j, zs, e, h⟩
      · rintro ⟨j, zs, e, h⟩
        by_cases hj : i = j
        · subst hj
          exact ⟨i, xs', e, .inl (List.getElem?_set_self hlen)⟩
        · refine ⟨j, zs, e, ?_⟩
          rw [List.getElem?_set_ne hj]
          exact h
    · rename_i ys hy
      constructor
      · rintro ⟨j, zs, e, h⟩
        by_cases hj : i = j
        · subst hj
          exact ⟨i, ys, e, .inr hy⟩
        · rw [List.getElem?_set_ne hj] at h
          exact ⟨j, zs, e, h⟩
      · rintro ⟨j, zs, e, h⟩
        by_cases hj : i = j
        · subst hj
          exact ⟨i, xs', e, .inr (List.getElem?_set_self hlen)⟩
        · refine ⟨j, zs, e, ?_⟩
          rw [List.getElem?_set_ne hj]
          exact h
    · exact Iff.rfl
  have hpo : Own σ ρ p := by
    rcases getL_some hi with h | h
    · exact ⟨i, xs, hσ, .inl h⟩
    · exact ⟨i, xs, hσ, .inr h⟩
  have hh : hid F H' σ (putL i xs' ρ) = hid F H' σ ρ := hid_own hown
  have hm : Same (hid F H σ ρ) (hid F H' σ (putL i xs' ρ)) := fun b o h => by
    obtain ⟨a, c, d⟩ := hid_old h
    have hb : b ≠ p := fun z => a (by rw [z]; exact hpo)
    rw [hh]
    exact hid_some a (keep b o hb c) d
  -- what stands elsewhere
  have hne : ∀ (j : Nat) (ys : List D) (q : Addr), ρ[j]? = some (.ow ys) → σ[j]? = some (some (.ref q)) → j ≠ i → q ≠ p := by
    intro j ys q hj hq hji hqp
    subst hqp
    rcases getL_some hi with h | h
    · exact hji (S.inj j i q ys xs hj h hq hσ)
    · exact (S.io_B h hσ).2 (S.ow_B hj hq)
  have hne2 : ∀ (j : Nat) (ys : List D) (q : Addr), ρ[j]? = some (.io ys) → σ[j]? = some (some (.ref q)) → j ≠ i → q ≠ p := by
    intro j ys q hj hq hji hqp
    subst hqp
    rcases getL_some hi with h | h
    · exact (S.io_B hj hq).2 (S.ow_B h hσ)
    · exact hji ((S.io j ys hj).1.trans (S.io i xs h).1.symm)
  have hbase : ∀ b o, F.B b = some o → F.io ≠ some b → H' b = some o := fun b o hb hio => by
    refine keep b o (fun z => ?_) (S.base b o hb hio)
    subst z
    rcases getL_some hi with h | h
    · have := S.ow_B h hσ
      rw [hb] at this
      cases this
    · exact hio (S.io_B h hσ).1
  have hput : putL i xs' ρ = ρ.set i (.ow xs') ∧ ρ[i]? = some (.ow xs) ∨ putL i xs' ρ = ρ.set i (.io xs') ∧ ρ[i]? = some (.io xs) := by
    rcases getL_some hi with h | h
    · left
      refine ⟨?_, h⟩
      unfold putL
      rw [h]
    · right
      refine ⟨?_, h⟩
      unfold putL
      rw [h]
  refine ⟨?_, hown, hm⟩
  rcases hput with ⟨e, hs⟩ | ⟨e, hs⟩
  · rw [e] at hh hm ⊢
    refine ⟨by rw [List.length_set]; exact S.len, fun j d h => ?_, fun j ys h => ?_, fun j ys h => ?_, fun j k q ys zs h1 h2 h3 h4 => ?_, fun q h => ?_, hbase, S.sub⟩
    · by_cases hj : i = j
      · subst hj
        rw [List.getElem?_set_self hlen] at h
        cases h
      · rw [List.getElem?_set_ne hj] at h
        obtain ⟨v, h1, h2⟩ := S.va j d h
        exact ⟨v, h1, h2.mono hm⟩
    · by_cases hj : i = j
      · subst hj
        rw [List.getElem?_set_self hlen] at h
        cases h
        exact ⟨p, ws', hσ, hp, S.ow_B hs hσ, hl, by rw [hh]; exact r⟩
      · rw [List.getElem?_set_ne hj] at h
        obtain ⟨q, vs, h1, h2, h3, h4, h5⟩ := S.ow j ys h
        exact ⟨q, vs, h1, keep q _ (hne j ys q h h1 (fun z => hj z.symm)) h2, h3, h4, h5.mono hm⟩
    · by_cases hj : i = j
      · subst hj
        rw [List.getElem?_set_self hlen] at h
        cases h
      · rw [List.getElem?_set_ne hj] at h
        obtain ⟨h0, q, vs, h1, h2, h3, h4, h5⟩ := S.io j ys h
        exact ⟨h0, q, vs, h1, h2, keep q _ (hne2 j ys q h h2 (fun z => hj z.symm)) h3, h4, h5.mono hm⟩
    · have back : ∀ {j : Nat} {ys : List D}, (ρ.set i (.ow xs'))[j]? = some (.ow ys) → ∃ ys', ρ[j]? = some (.ow ys') := by
        intro j ys h
        by_cases hj : i = j
        · subst hj
          exact ⟨xs, hs⟩
        · rw [List.getElem?_set_ne hj] at h
          exact ⟨ys, h⟩
      obtain ⟨ys', h1'⟩ := back h1
      obtain ⟨zs', h2'⟩ := back h2
      exact S.inj j k q ys' zs' h1' h2' h3 h4
    · obtain ⟨h1, h2, ys, h3⟩ := S.ent q h
      refine ⟨h1, h2, ys, ?_⟩
      by_cases hj : i = 0
      · subst hj
        rw [hs] at h3
        cases h3
      · rw [List.getElem?_set_ne hj]
        exact h3
  · rw [e] at hh hm ⊢
    refine ⟨by rw [List.length_set]; exact S.len, fun j d h => ?_, fun j ys h => ?_, fun j ys h => ?_, fun j k q ys zs h1 h2 h3 h4 => ?_, fun q h => ?_, hbase, S.sub⟩
    · by_cases hj : i = j
      · subst hj
        rw [List.getElem?_set_self hlen] at h
        cases h
      · rw [List.getElem?_set_ne hj] at h
        obtain ⟨v, h1, h2⟩ := S.va j d h
        exact ⟨v, h1, h2.mono hm⟩
    · by_cases hj : i = j
      · subst hj
        rw [List.getElem?_set_self hlen] at h
        cases h
      · rw [List.getElem?_set_ne hj] at h
        obtain ⟨q, vs, h1, h2, h3, h4, h5⟩ := S.ow j ys h
        exact ⟨q, vs, h1, keep q _ (hne j ys q h h1 (fun z => hj z.symm)) h2, h3, h4, h5.mono hm⟩
    · by_cases hj : i = j
      · subst hj
        rw [List.getElem?_set_self hlen] at h
        cases h
        exact ⟨(S.io i xs hs).1, p, ws', (S.io_B hs hσ).1, hσ, hp, hl, by rw [hh]; exact r⟩
      · rw [List.getElem?_set_ne hj] at h
        obtain ⟨h0, q, vs, h1, h2, h3, h4, h5⟩ := S.io j ys h
        exact ⟨h0, q, vs, h1, h2, keep q _ (hne2 j ys q h h2 (fun z => hj z.symm)) h3, h4, h5.mono hm⟩
    · have back : ∀ {j : Nat} {ys : List D}, (ρ.set i (.io xs'))[j]? = some (.ow ys) → ρ[j]? = some (.ow ys) := by
        intro j ys h
        by_cases hj : i = j
        · subst hj
          rw [List.getElem?_set_self hlen] at h
          cases h
        · rw [List.getElem?_set_ne hj] at h
          exact h
      exact S.inj j k q ys zs (back h1) (back h2) h3 h4
    · obtain ⟨h1, h2, ys, h3⟩ := S.ent q h
      by_cases hj : i = 0
      · subst hj
        exact ⟨h1, h2, xs', List.getElem?_set_self hlen⟩
      · refine ⟨h1, h2, ys, ?_⟩
        rw [List.getElem?_set_ne hj]
        exact h3
/-- an owned list becomes a value -/
theorem Sim.frz (S : Sim F σ H ρ) (i : Nat) : Sim F σ H (frz i ρ) ∧ Same (hid F H σ ρ) (hid F H σ (DL.frz i ρ)) := by
  unfold DL.frz
  split
  · rename_i xs hs
    have hlen : i < ρ.length := (List.getElem?_eq_some_iff.mp hs).1
    have hm : Same (hid F H σ ρ) (hid F H σ (ρ.set i (.va (.sq false xs)))) := hid_more fun q ⟨j, zs, e, h⟩ => by
      by_cases hj : i = j
      · subst hj
        rw [List.getElem?_set_self hlen] at h
        rcases h with h | h <;> cases h
      · rw [List.getElem?_set_ne hj] at h
        exact ⟨j, zs, e, h⟩
    obtain ⟨p, vs, e1, e2, e3, e4, e5⟩ := S.ow i xs hs
    refine ⟨⟨by rw [List.length_set]; exact S.len, fun j d h => ?_, fun j ys h => ?_, fun j ys h => ?_, fun j k q ys zs h1 h2 h3 h4 => ?_, fun q h => ?_, S.base, S.sub⟩, hm⟩
    · by_cases hj : i = j
      · subst hj
        rw [List.getElem?_set_self hlen] at h
        cases h
        refine ⟨_, e1, rep_sq (t := false) (.inl (.inl (hid_some ?_ e2 fun z => (z e3).elim))) e4 (e5.mono hm)⟩
        rintro ⟨j, zs, e, h⟩
        by_cases hj : i = j
        · subst hj
          rw [List.getElem?_set_self hlen] at h
          rcases h with h | h <;> cases h
        · rw [List.getElem?_set_ne hj] at h
          rcases h with h | h
          · exact hj (S.inj i j p xs zs hs h e1 e)
          · exact (S.io_B h e).2 e3
      · rw [List.getElem?_set_ne hj] at h
        obtain ⟨v, h1, h2⟩ := S.va j d h
        exact ⟨v, h1, h2.mono hm⟩
    · by_cases hj : i = j
      · subst hj
        rw [List.getElem?_set_self hlen] at h
        cases h
      · rw [List.getElem?_set_ne hj] at h
        obtain ⟨q, vs, h1, h2, h3, h4, h5⟩ := S.ow j ys h
        exact ⟨q, vs, h1, h2, h3, h4, h5.mono hm⟩
    · by_cases hj : i = j
      · subst hj
        rw [List.getElem?_set_self hlen] at h
        cases h
      · rw [List.getElem?_set_ne hj] at h
        obtain ⟨h0, q, vs, h1, h2, h3, h4, h5⟩ := S.io j ys h
        exact ⟨h0, q, vs, h1, h2, h3, h4, h5.mono hm⟩
    · have back : ∀ {j : Nat} {ys : List D}, (ρ.set i (.va (.sq false xs)))[j]? = some (.ow ys) → ρ[j]? = some (.ow ys) := by
        intro j ys h
        by_cases hj : i = j
        · subst hj
          rw [List.getElem?_set_self hlen] at h
          cases h
        · rw [List.getElem?_set_ne hj] at h
          exact h
      exact S.inj j k q ys zs (back h1) (back h2) h3 h4
    · obtain ⟨h1, h2, ys, h3⟩ := S.ent q h
      refine ⟨h1, h2, ys, ?_⟩
      by_cases hj : i = 0
      · subst hj
        rw [hs] at h3
        cases h3
      · rw [List.getElem?_set_ne hj]
        exact h3
  · exact ⟨S, Same.refl _⟩

/-! ### a new list that nobody holds -/
def New (F : Fm) (G0 : Hp) (p : Addr) (xs : List D) (σ : L2.St) (H : Hp) (ρ : Rho) : Prop :=
  ∃ ws, Sim (F.hide p (.lst ws)) σ H ρ ∧ H p = some (.lst ws) ∧ F.B p = none ∧ F.G p = none ∧ F.io ≠ some p ∧ ¬ Own σ ρ p ∧ ws.length ≤ sizeLine ∧ Reps F.K (hid (F.hide p (.lst ws)) H σ ρ) xs ws ∧ Same G0 (hid (F.hide p (.lst ws)) H σ ρ)
theorem hide_sub {o : HO} : Same (hid (F.hide p o) H σ ρ) (hid F H σ ρ) := fun b u h => by
  obtain ⟨a, c, d⟩ := hid_old h
  refine hid_some a c fun z => d ?_
  show upd F.B p o b ≠ none
  by_cases hb : b = p
  · rw [hb, upd_same]
    exact fun z => nomatch z
  · rw [upd_ne hb]
    exact z
theorem New.of {xs : List D} {ws : List V} {G0 : Hp} (S : Sim F σ H ρ) (hn : H p = none) (e : Same H H') (h : H' p = some (.lst ws)) (hl : ws.length ≤ sizeLine) (r : Reps F.K (del p (hid F H' σ ρ)) xs ws) (g : Same G0 (hid F H σ ρ)) : New F G0 p xs σ H' ρ := by
  obtain ⟨n1, n2⟩ := S.fresh hn
  have hG := G_none S hn
  refine ⟨ws, S.hide hn e h, h, n2, hG, fun z => (S.ent p z).1 n2, n1, hl, r.mono fun b o hb => ?_, fun b o hb => ?_⟩
  · have hbp : b ≠ p := fun z => by
      unfold del at hb
      rw [if_pos z] at hb
      cases hb
    exact hid_hide hbp (del_sub _ _ hb)
  · have hb' := g b o hb
    have hbp : b ≠ p := fun z => by
      have := hid_sub _ _ hb'
      rw [z, hn] at this
      cases this
    exact hid_hide hbp (hid_mono e _ _ hb')
theorem New.sim {xs : List D} {G0 : Hp} (N : New F G0 p xs σ H ρ) : Sim F σ H ρ := by
  obtain ⟨ws, S, h1, h2, h3, h4, h5, h6, h7, h8⟩ := N
  have hm : Same (hid (F.hide p (.lst ws)) H σ ρ) (hid F H σ ρ) := hide_sub
  refine ⟨S.len, fun j d h => ?_, fun j xs h => ?_, fun j xs h => ?_, S.inj, fun q h => ?_, fun b u h n => ?_, fun b u h => ?_⟩
  · obtain ⟨v, a, b⟩ := S.va j d h
    exact ⟨v, a, b.mono hm⟩
  · obtain ⟨q, vs, a1, a2, a3, a4, a5⟩ := S.ow j xs h
    have a3' : upd F.B p (.lst ws) q = none := a3
    have hq : q ≠ p := fun z => by
      rw [z, upd_same] at a3'
      cases a3'
    rw [upd_ne hq] at a3'
    exact ⟨q, vs, a1, a2, a3', a4, a5.mono hm⟩
  · obtain ⟨a0, q, vs, a1, a2, a3, a4, a5⟩ := S.io j xs h
    exact ⟨a0, q, vs, a1, a2, a3, a4, a5.mono hm⟩
  · obtain ⟨a1, a2, a3⟩ := S.ent q h
    refine ⟨?_, a2, a3⟩
    have a1' : upd F.B p (.lst ws) q ≠ none := a1
    rw [upd_ne (fun z => h4 (by rw [← z]; exact h))] at a1'
    exact a1'
  · refine S.base b u ?_ n
    show upd F.B p (.lst ws) b = some u
    rw [upd_ne (fun z => by rw [z, h2] at h; cases h)]
    exact h
  · have := S.sub b u h
    have this' : upd F.B p (.lst ws) b = some u := this
    rw [upd_ne (fun z => by rw [z] at h; have h' : F.G p = some u := h; rw [h3] at h'; cases h')] at this'
    exact this'
theorem New.hid {xs : List D} {G0 : Hp} (N : New F G0 p xs σ H ρ) : Same G0 (hid F H σ ρ) := by
  obtain ⟨ws, S, h1, h2, h3, h4, h5, h6, h7, h8⟩ := N
  exact h8.trans hide_sub
theorem New.rep {xs : List D} {G0 : Hp} (N : New F G0 p xs σ H ρ) : Rep F.K (DL.hid F H σ ρ) (.sq false xs) (.ref p) := by
  obtain ⟨ws, S, h1, h2, h3, h4, h5, h6, h7, h8⟩ := N
  exact rep_sq (t := false) (.inl (.inl (hid_some h5 h1 fun z => (z h2).elim))) h6 (h7.mono hide_sub)
theorem New.mono {xs : List D} {G0 G1 : Hp} (N : New F G0 p xs σ H ρ) (g : Same G1 G0) : New F G1 p xs σ H ρ := by
  obtain ⟨ws, S, h1, h2, h3, h4, h5, h6, h7, h8⟩ := N
  exact ⟨ws, S, h1, h2, h3, h4, h5, h6, h7, g.trans h8⟩
/-- it is stored -/
theorem New.store {xs : List D} {G0 : Hp} {i : Nat} {s : Sl} (N : New F G0 p xs σ H ρ) (hi : ρ[i]? = some s) (hs : notIo s = true) : Sim F (σ.set i (some (.ref p))) H (ρ.set i (.ow xs)) ∧ Same G0 (DL.hid F H (σ.set i (some (.ref p))) (ρ.set i (.ow xs))) := by
  have N0 := N
  obtain ⟨ws, S, h1, h2, h3, h4, h5, h6, h7, h8⟩ := N
  have S0 := N0.sim
  have hl : i < ρ.length := (List.getElem?_eq_some_iff.mp hi).1
  have hl' : i < σ.length := by rw [← S.len]; exact hl
  have hown : ∀ q, Own (σ.set i (some (.ref p))) (ρ.set i (.ow xs)) q → q = p ∨ Own σ ρ q := fun q ⟨j, zs, e, h⟩ => by
    by_cases hj : i = j
    · subst hj
      rw [List.getElem?_set_self hl'] at e
      cases e
      exact .inl rfl
    · rw [List.getElem?_set_ne hj] at e h
      exact .inr ⟨j, zs, e, h⟩
  have hm : Same (DL.hid (F.hide p (.lst ws)) H σ ρ) (DL.hid F H (σ.set i (some (.ref p))) (ρ.set i (.ow xs))) := fun b o hb => by
    obtain ⟨n, hb'⟩ := hide_hid h3 hb
    obtain ⟨a, c, d⟩ := hid_old hb'
    exact hid_some (fun z => (hown b z).elim n a) c d
  refine ⟨⟨by rw [List.length_set, List.length_set]; exact S.len, fun j d h => ?_, fun j ys h => ?_, fun j ys h => ?_, fun j k q ys zs g1 g2 g3 g4 => ?_, fun q h => ?_, S0.base, S0.sub⟩, h8.trans hm⟩
  · by_cases hj : i = j
    · subst hj
      rw [List.getElem?_set_self hl] at h
      cases h
    · rw [List.getElem?_set_ne hj] at h ⊢
      obtain ⟨v, a, b⟩ := S.va j d h
      exact ⟨v, a, b.mono hm⟩
  · by_cases hj : i = j
    · subst hj
      rw [List.getElem?_set_self hl] at h
      cases h
      exact ⟨p, ws, List.getElem?_set_self hl', h1, h2, h6, h7.mono hm⟩
    · rw [List.getElem?_set_ne hj] at h ⊢
      obtain ⟨q, vs, a1, a2, a3, a4, a5⟩ := S.ow j ys h
      obtain ⟨q', vs', b1, b2, b3, _⟩ := S0.ow j ys h
      rw [a1] at b1
      cases b1
      exact ⟨q, vs, a1, a2, b3, a4, a5.mono hm⟩
  · by_cases hj : i = j
    · subst hj
      rw [List.getElem?_set_self hl] at h
      cases h
    · rw [List.getElem?_set_ne hj] at h ⊢
      obtain ⟨a0, q, vs, a1, a2, a3, a4, a5⟩ := S.io j ys h
      exact ⟨a0, q, vs, a1, a2, a3, a4, a5.mono hm⟩
  · by_cases hj : i = j
    · subst hj
      by_cases hk : i = k
      · exact hk
      · rw [List.getElem?_set_self hl'] at g3
        cases g3
        rw [List.getElem?_set_ne hk] at g2 g4
        exact (h5 ⟨k, zs, g4, .inl g2⟩).elim
    · rw [List.getElem?_set_ne hj] at g1 g3
      by_cases hk : i = k
      · subst hk
        rw [List.getElem?_set_self hl'] at g4
        cases g4
        exact (h5 ⟨j, ys, g3, .inl g1⟩).elim
      · rw [List.getElem?_set_ne hk] at g2 g4
        exact S.inj j k q ys zs g1 g2 g3 g4
  · obtain ⟨a1, a2, zs, a3⟩ := S0.ent q h
    refine ⟨a1, a2, zs, ?_⟩
    by_cases hj : i = 0
    · subst hj
      rw [hi] at a3
      cases a3
      cases hs
    · rw [List.getElem?_set_ne hj]
      exact a3
end
end DL

-- DL12
/-! DL12: expressions that may change owned lists; what may be stored: a value or a new list. -/
namespace DL
open PySem PySem.Spec PyProof.Rows L2

/-- e is worth d; owned lists may change on the way -/
def DM (X : Cx) (e : Expr) (f : Rho → Option (D × Rho)) : Prop :=
  ∃ t, PE X e t ∧ ∀ (F : Fm) (σ : L2.St) (H : Hp) (ρ ρ' : Rho) (d : D) (Q : VK), F.K = X.K → Sim F σ H ρ → f ρ = some (d, ρ') →
    (∀ v H', Sim F σ H' ρ' → Same (hid F H σ ρ) (hid F H' σ ρ') → Rep X.K (hid F H' σ ρ') d v → Q v H') → t σ H Q
def DMs (X : Cx) (es : List Expr) (f : Rho → Option (List D × Rho)) : Prop :=
  ∃ t, PA X es t ∧ ∀ (F : Fm) (σ : L2.St) (H : Hp) (ρ ρ' : Rho) (ds : List D) (Q : List V → Hp → Prop), F.K = X.K → Sim F σ H ρ → f ρ = some (ds, ρ') →
    (∀ vs H', Sim F σ H' ρ' → Same (hid F H σ ρ) (hid F H' σ ρ') → Reps X.K (hid F H' σ ρ') ds vs → Q vs H') → t σ H Q
def DMT (X : Cx) (e : Expr) (f : Rho → Option (Bool × Rho)) : Prop :=
  ∃ t, PT X e t ∧ ∀ (F : Fm) (σ : L2.St) (H : Hp) (ρ ρ' : Rho) (b : Bool) (Q : Bool → Hp → Prop), F.K = X.K → Sim F σ H ρ → f ρ = some (b, ρ') →
    (∀ H', Sim F σ H' ρ' → Same (hid F H σ ρ) (hid F H' σ ρ') → Q b H') → t σ H Q
def DMW (X : Cx) (e : Expr) (f : Rho → Option (Bool × Rho)) : Prop :=
  ∃ t, PW X e t ∧ ∀ (F : Fm) (σ : L2.St) (H : Hp) (ρ ρ' : Rho) (b : Bool) (Q : Bool → Hp → Prop), F.K = X.K → Sim F σ H ρ → f ρ = some (b, ρ') →
    (∀ H', Sim F σ H' ρ' → Same (hid F H σ ρ) (hid F H' σ ρ') → Q b H') → t σ H Q
/-- what e leaves: a value, or a new list that nobody else holds -/
inductive Res where
  | val (d : D) | frs (xs : List D)
def Got (K : PySem.W.Frag) (F : Fm) (G0 : Hp) (r : Res) (v : V) (σ : L2.St) (H : Hp) (ρ : Rho) : Prop := match r with
  | .val d => Sim F σ H ρ ∧ Same G0 (hid F H σ ρ) ∧ Rep K (hid F H σ ρ) d v
  | .frs xs => ∃ p, v = .ref p ∧ New F G0 p xs σ H ρ
def DK (X : Cx) (e : Expr) (f : Rho → Option (Res × Rho)) : Prop :=
  ∃ t, PE X e t ∧ ∀ (F : Fm) (σ : L2.St) (H : Hp) (ρ ρ' : Rho) (r : Res) (Q : VK), F.K = X.K → Sim F σ H ρ → f ρ = some (r, ρ') →
    (∀ v H', Got X.K F (hid F H σ ρ) r v σ H' ρ' → Q v H') → t σ H Q

def pur {α : Type} (f : Rho → Option α) : Rho → Option (α × Rho) := fun ρ => match f ρ with
  | some a => some (a, ρ)
  | none => none
theorem pur_some {α : Type} {f : Rho → Option α} {ρ ρ' : Rho} {a : α} (h : pur f ρ = some (a, ρ')) : f ρ = some a ∧ ρ' = ρ := by
  unfold pur at h
  split at h
  · cases h
    exact ⟨‹_›, rfl⟩
  · cases h
/-- one after the other -/
def thenM {α β γ : Type} (f : Rho → Option (α × Rho)) (g : Rho → Option (β × Rho)) (k : α → β → Option γ) : Rho → Option (γ × Rho) := fun ρ => match f ρ with
  | some (a, ρ1) => match g ρ1 with
    | some (b, ρ2) => match k a b with
      | some c => some (c, ρ2)
      | none => none
    | none => none
  | none => none
theorem thenM_some {α β γ : Type} {f : Rho → Option (α × Rho)} {g : Rho → Option (β × Rho)} {k : α → β → Option γ} {ρ ρ' : Rho} {c : γ} (h : thenM f g k ρ = some (c, ρ')) : ∃ a b ρ1, f ρ = some (a, ρ1) ∧ g ρ1 = some (b, ρ') ∧ k a b = some c := by
  unfold thenM at h
  split at h
  · split at h
    · split at h
      · cases h
        exact ⟨_, _, _, ‹_›, ‹_›, ‹_›⟩
      · cases h
    · cases h
  · cases h
def mapM {α β : Type} (k : α → Option β) (f : Rho → Option (α × Rho)) : Rho → Option (β × Rho) := fun ρ => match f ρ with
  | some (a, ρ1) => match k a with
    | some c => some (c, ρ1)
    | none => none
  | none => none
theorem mapM_some {α β : Type} {k : α → Option β} {f : Rho → Option (α × Rho)} {ρ ρ' : Rho} {c : β} (h : mapM k f ρ = some (c, ρ')) : ∃ a, f ρ = some (a, ρ') ∧ k a = some c := by
  unfold mapM at h
  split at h
  · split at h
    · cases h
      exact ⟨_, ‹_›, ‹_›⟩
    · cases h
  · cases h
def ifM {α : Type} (c : Rho → Option (Bool × Rho)) (f g : Rho → Option (α × Rho)) : Rho → Option (α × Rho) := fun ρ => match c ρ with
  | some (true, ρ1) => f ρ1
  | some (false, ρ1) => g ρ1
  | none => none

def flatD : D → Bool
  | .sq _ _ => false
  | _ => true
theorem flat_rep {K : PySem.W.Frag} {H H' : Hp} {d : D} {v : V} (hf : flatD d = true) (h : Rep K H d v) : Rep K H' d v := by
  cases d with
  | sq t xs => cases hf
  | non => exact h
  | bl b => exact h
  | int i => exact h
  | str s => exact h
def flO (o : Option D) : Option D := match o with
  | some (.sq _ _) => none
  | o => o
theorem flO_some {o : Option D} {d : D} (h : flO o = some d) : o = some d ∧ flatD d = true := by
  unfold flO at h
  split at h
  · cases h
  · rename_i hn
    subst h
    refine ⟨rfl, ?_⟩
    cases d with
    | sq t xs => exact (hn t xs rfl).elim
    | _ => rfl

section
variable {X : Cx} {m : Bool} {e a b c : Expr} {es rest : List Expr} {pos : Pos}
/-- what holds no list may be kept -/
theorem dp_flat {fa : Rho → Option D} (h : DP X m e fa) : DP X false e (fun ρ => flO (fa ρ)) := by
  obtain ⟨t, p, r⟩ := h
  refine ⟨t, p, fun F σ H ρ d Q hk S hf q => ?_⟩
  obtain ⟨h1, h2⟩ := flO_some hf
  exact r F σ H ρ d Q hk S h1 fun v H' e' rr => q v H' e' (flat_rep h2 rr)
/-- an owned list's item -/
def ixB (i : Nat) (fb : Rho → Option D) : Rho → Option D := fun ρ => match getL i ρ with
  | some xs => match fb ρ with
    | some (.int k) => atI xs k
    | _ => none
  | none => none
theorem dp_ixB {i : Nat} {fb : Rho → Option D} (ha : PE X a (tVar i)) (hb : DP X m b fb) (hs : PlainIx b) : DP X false (.Subscript a b pos) (ixB i fb) := by
  obtain ⟨tb, pb, rb⟩ := hb
  refine ⟨_, pe_ix ix_list ha pb hs, fun F σ H ρ d Q hk S hf q => ?_⟩
  unfold ixB at hf
  split at hf
  · rename_i xs hx
    split at hf
    · rename_i k hk'
      obtain ⟨p, vs, h1, h2, h3, h4, h5⟩ := getL_addr S hx
      refine ⟨_, h1, rb F σ H ρ _ _ hk S hk' fun u H1 e1 r1 => ?_⟩
      obtain ⟨p', vs', h1', _, h3', _, h5'⟩ := getL_addr (S.ext e1) hx
      rw [h1] at h1'
      cases h1'
      obtain ⟨v, hv, hr⟩ := atI_rep h5' hf
      rw [hk] at hr
      exact ⟨p, vs', k, v, rfl, r1.int_eq, SqL.of h3', hv, q v H1 e1 (by rw [see_false]; exact hr)⟩
    · cases hf
  · cases hf
theorem dm_dp {fa : Rho → Option D} (h : DP X false e fa) : DM X e (pur fa) := by
  obtain ⟨t, p, r⟩ := h
  refine ⟨t, p, fun F σ H ρ ρ' d Q hk S hf q => ?_⟩
  obtain ⟨h1, rfl⟩ := pur_some hf
  exact r F σ H ρ' d Q hk S h1 fun v H' e' rr => q v H' (S.ext e') (hid_mono e') (by rw [see_false] at rr; exact rr)
theorem dmt_dt {fa : Rho → Option Bool} (h : DT X e fa) : DMT X e (pur fa) := by
  obtain ⟨t, p, r⟩ := h
  refine ⟨t, p, fun F σ H ρ ρ' d Q hk S hf q => ?_⟩
  obtain ⟨h1, rfl⟩ := pur_some hf
  exact r F σ H ρ' d Q hk S h1 fun H' e' => q H' (S.ext e') (hid_mono e')
theorem dms_dps {fa : Rho → Option (List D)} (h : DPs X false es fa) : DMs X es (pur fa) := by
  obtain ⟨t, p, r⟩ := h
  refine ⟨t, p, fun F σ H ρ ρ' d Q hk S hf q => ?_⟩
  obtain ⟨h1, rfl⟩ := pur_some hf
  exact r F σ H ρ' d Q hk S h1 fun v H' e' rr => q v H' (S.ext e') (hid_mono e') (by rw [see_false] at rr; exact rr)
/-! ### values or new lists -/
def valK (f : Rho → Option (D × Rho)) : Rho → Option (Res × Rho) := fun ρ => match f ρ with
  | some (d, ρ1) => some (.val d, ρ1)
  | none => none
def frsK (f : Rho → Option (List D)) : Rho → Option (Res × Rho) := fun ρ => match f ρ with
  | some xs => some (.frs xs, ρ)
  | none => none
theorem dk_dm {f : Rho → Option (D × Rho)} (h : DM X e f) : DK X e (valK f) := by
  obtain ⟨t, p, r⟩ := h
  refine ⟨t, p, fun F σ H ρ ρ' d Q hk S hf q => ?_⟩
  unfold valK at hf
  split at hf
  · cases hf
    exact r F σ H ρ _ _ Q hk S ‹_› fun v H' S' m' rr => q v H' ⟨S', m', rr⟩
  · cases hf
theorem dk_df {f : Rho → Option (List D)} (h : DF X e f) : DK X e (frsK f) := by
  obtain ⟨t, p, r⟩ := h
  refine ⟨t, p, fun F σ H ρ ρ' d Q hk S hf q => ?_⟩
  unfold frsK at hf
  split at hf
  · cases hf
    exact r F σ H _ _ Q hk S ‹_› fun p ws H' hn e' h' hl rr => q _ H' ⟨p, rfl, New.of S hn e' h' hl (by rw [hk]; exact rr) (Same.refl _)⟩
  · cases hf
def resD : Res → D
  | .val d => d
  | .frs xs => .sq false xs
def resK (f : Rho → Option (Res × Rho)) : Rho → Option (D × Rho) := fun ρ => match f ρ with
  | some (r, ρ1) => some (resD r, ρ1)
  | none => none
theorem Got.sim {K : PySem.W.Frag} {F : Fm} {G0 : Hp} {r : Res} {v : V} {σ : L2.St} {H : Hp} {ρ : Rho} (hk : F.K = K) (g : Got K F G0 r v σ H ρ) : Sim F σ H ρ ∧ Same G0 (hid F H σ ρ) ∧ Rep K (hid F H σ ρ) (resD r) v := by
  cases r with
  | val d => exact g
  | frs xs =>
    obtain ⟨p, rfl, N⟩ := g
    refine ⟨N.sim, N.hid, ?_⟩
    rw [← hk]
    exact N.rep
theorem dm_dk {f : Rho → Option (Res × Rho)} (h : DK X e f) : DM X e (resK f) := by
  obtain ⟨t, p, r⟩ := h
  refine ⟨t, p, fun F σ H ρ ρ' d Q hk S hf q => ?_⟩
  unfold resK at hf
  split at hf
  · cases hf
    refine r F σ H ρ _ _ Q hk S ‹_› fun v H' g => ?_
    obtain ⟨a, b, c⟩ := g.sim hk
    exact q v H' a b c
  · cases hf
theorem Got.mono {K : PySem.W.Frag} {F : Fm} {G0 G1 : Hp} {r : Res} {v : V} {σ : L2.St} {H : Hp} {ρ : Rho} (g : Got K F G0 r v σ H ρ) (s : Same G1 G0) : Got K F G1 r v σ H ρ := by
  cases r with
  | val d => exact ⟨g.1, s.trans g.2.1, g.2.2⟩
  | frs xs =>
    obtain ⟨p, e, N⟩ := g
    exact ⟨p, e, N.mono s⟩
theorem dk_if {ca : Rho → Option (Bool × Rho)} {fa fb : Rho → Option (Res × Rho)} (hc : DMT X c ca) (ha : DK X a fa) (hb : DK X b fb) : DK X (.IfExp c a b pos) (ifM ca fa fb) := by
  obtain ⟨t, p, r⟩ := hc
  obtain ⟨ta, pa, ra⟩ := ha
  obtain ⟨tb, pb, rb⟩ := hb
  refine ⟨_, pe_ifExp p pa pb, fun F σ H ρ ρ' d Q hk S hf q => ?_⟩
  unfold ifM at hf
  split at hf
  · refine r F σ H ρ _ true _ hk S ‹_› fun H' S' m' => ?_
    rw [if_pos rfl]
    exact ra F σ H' _ ρ' d Q hk S' hf fun v H2 g => q v H2 (g.mono m')
  · refine r F σ H ρ _ false _ hk S ‹_› fun H' S' m' => ?_
    rw [if_neg Bool.false_ne_true]
    exact rb F σ H' _ ρ' d Q hk S' hf fun v H2 g => q v H2 (g.mono m')
  · cases hf
theorem dm_if {ca : Rho → Option (Bool × Rho)} {fa fb : Rho → Option (D × Rho)} (hc : DMT X c ca) (ha : DM X a fa) (hb : DM X b fb) : DM X (.IfExp c a b pos) (ifM ca fa fb) := by
  obtain ⟨t, p, r⟩ := hc
  obtain ⟨ta, pa, ra⟩ := ha
  obtain ⟨tb, pb, rb⟩ := hb
  refine ⟨_, pe_ifExp p pa pb, fun F σ H ρ ρ' d Q hk S hf q => ?_⟩
  unfold ifM at hf
  split at hf
  · refine r F σ H ρ _ true _ hk S ‹_› fun H' S' m' => ?_
    rw [if_pos rfl]
    exact ra F σ H' _ ρ' d Q hk S' hf fun v H2 g1 g2 g3 => q v H2 g1 (m'.trans g2) g3
  · refine r F σ H ρ _ false _ hk S ‹_› fun H' S' m' => ?_
    rw [if_neg Bool.false_ne_true]
    exact rb F σ H' _ ρ' d Q hk S' hf fun v H2 g1 g2 g3 => q v H2 g1 (m'.trans g2) g3
  · cases hf

/-! ### operations -/
theorem opM_run {ta tb : TE} {g : D → D → Option D} {fa fb : Rho → Option (D × Rho)}
    (ra : ∀ (F : Fm) (σ : L2.St) (H : Hp) (ρ ρ' : Rho) (d : D) (Q : VK), F.K = X.K → Sim F σ H ρ → fa ρ = some (d, ρ') → (∀ v H', Sim F σ H' ρ' → Same (hid F H σ ρ) (hid F H' σ ρ') → Rep X.K (hid F H' σ ρ') d v → Q v H') → ta σ H Q)
    (rb : ∀ (F : Fm) (σ : L2.St) (H : Hp) (ρ ρ' : Rho) (d : D) (Q : VK), F.K = X.K → Sim F σ H ρ → fb ρ = some (d, ρ') → (∀ v H', Sim F σ H' ρ' → Same (hid F H σ ρ) (hid F H' σ ρ') → Rep X.K (hid F H' σ ρ') d v → Q v H') → tb σ H Q)
    {F : Fm} {σ : L2.St} {H : Hp} {ρ ρ' : Rho} {d : D} {Q : VK} (hk : F.K = X.K) (S : Sim F σ H ρ) (hf : thenM fa fb g ρ = some (d, ρ')) (q : ∀ v H', Sim F σ H' ρ' → Same (hid F H σ ρ) (hid F H' σ ρ') → Rep X.K (hid F H' σ ρ') d v → Q v H') : tOp (rD2 X.K g) ta tb σ H Q := by
  obtain ⟨x, y, ρ1, h1, h2, h3⟩ := thenM_some hf
  refine ra F σ H ρ ρ1 x _ hk S h1 fun v H1 S1 m1 q1 => rb F σ H1 ρ1 ρ' y _ hk S1 h2 fun u H2 S2 m2 q2 => ?_
  exact ⟨hid F H2 σ ρ', x, y, d, hid_sub, q1.mono m2, q2, h3, fun z H3 e3 q3 => q z H3 (S2.ext e3) ((m1.trans m2).trans (hid_mono e3)) (q3.mono S2.vis)⟩
theorem dm_bin {op : Operator} {g : D → D → Option D} {fa fb : Rho → Option (D × Rho)} (ho : OpR X (binaryOp op) (rD2 X.K g)) (ha : DM X a fa) (hb : DM X b fb) : DM X (.BinOp a op b pos) (thenM fa fb g) := by
  obtain ⟨ta, pa, ra⟩ := ha
  obtain ⟨tb, pb, rb⟩ := hb
  exact ⟨_, pe_op ho pa pb, fun F σ H ρ ρ' d Q hk S hf q => opM_run ra rb hk S hf q⟩
theorem dm_cmp {op : CmpOp} {g : D → D → Option D} {fa fb : Rho → Option (D × Rho)} (ho : OpR X (compareOp op) (rD2 X.K g)) (ha : DM X a fa) (hb : DM X b fb) (hm : behindInMarks op b = false) : DM X (.Compare a [op] [b] pos) (thenM fa fb g) := by
  obtain ⟨ta, pa, ra⟩ := ha
  obtain ⟨tb, pb, rb⟩ := hb
  exact ⟨_, pe_cmpR ho pa pb hm, fun F σ H ρ ρ' d Q hk S hf q => opM_run ra rb hk S hf q⟩
theorem dm_ix {g : D → D → Option D} {fa fb : Rho → Option (D × Rho)} (ho : IxR X (rD2 X.K g)) (ha : DM X a fa) (hb : DM X b fb) (hs : PlainIx b) : DM X (.Subscript a b pos) (thenM fa fb g) := by
  obtain ⟨ta, pa, ra⟩ := ha
  obtain ⟨tb, pb, rb⟩ := hb
  exact ⟨_, pe_ix ho pa pb hs, fun F σ H ρ ρ' d Q hk S hf q => opM_run ra rb hk S hf q⟩
def blD : D → Option Bool
  | .bl b => some b
  | _ => none
theorem dmt_cmp {op : CmpOp} {g : D → D → Option D} {fa fb : Rho → Option (D × Rho)} (ho : OpR X (compareOp op) (rD2 X.K g)) (ha : DM X a fa) (hb : DM X b fb) (hm : behindInMarks op b = false) : DMT X (.Compare a [op] [b] pos) (mapM blD (thenM fa fb g)) := by
  obtain ⟨ta, pa, ra⟩ := ha
  obtain ⟨tb, pb, rb⟩ := hb
  refine ⟨_, pt_cmpR ho pa pb hm, fun F σ H ρ ρ' b Q hk S hf q => ?_⟩
  obtain ⟨d, h1, h2⟩ := mapM_some hf
  refine opM_run ra rb hk S h1 fun v H' S' m' r => ⟨b, ?_, q H' S' m'⟩
  unfold blD at h2
  split at h2
  · cases h2
    exact r.bl_eq
  · cases h2
def truK (d : D) : Option Bool := truO (some d)
theorem dmt_val {fa : Rho → Option (D × Rho)} (h : DM X a fa) (he : ∀ whole, isTrue a X.env whole = (do let v ← whole; standAt a.pos; holding [v] (truthy v)) := by intro _; rfl) : DMT X a (mapM truK fa) := by
  obtain ⟨t, p, r⟩ := h
  refine ⟨_, pt_truth p he, fun F σ H ρ ρ' b Q hk S hf q => ?_⟩
  obtain ⟨d, h1, h2⟩ := mapM_some hf
  obtain ⟨d', e, h3, h4⟩ := truO_some h2
  cases e
  exact r F σ H ρ ρ' d _ hk S h1 fun v H' S' m' rr => ⟨b, by rw [← h3]; exact tru_of (rr.mono hid_sub) h4, q H' S' m'⟩
def notK (b : Bool) : Option Bool := some (!b)
theorem dmt_not {ca : Rho → Option (Bool × Rho)} (h : DMT X a ca) : DMT X (.UnaryOp .Not a pos) (mapM notK ca) := by
  obtain ⟨t, p, r⟩ := h
  refine ⟨_, pt_not p, fun F σ H ρ ρ' d Q hk S hf q => ?_⟩
  obtain ⟨b, h1, h2⟩ := mapM_some hf
  cases h2
  exact r F σ H ρ ρ' _ _ hk S h1 fun H' S' m' => q H' S' m'
theorem dmw_and1 {ca : Rho → Option (Bool × Rho)} (h : DMT X a ca) : DMW X (.BoolOp .And [a] pos) ca := let ⟨t, p, r⟩ := h; ⟨t, pw_and1 p, r⟩
theorem dmw_or1 {ca : Rho → Option (Bool × Rho)} (h : DMT X a ca) : DMW X (.BoolOp .Or [a] pos) ca := let ⟨t, p, r⟩ := h; ⟨t, pw_or1 p, r⟩
theorem DMW.dmt {ca : Rho → Option (Bool × Rho)} (h : DMW X e ca) : DMT X e ca := let ⟨t, p, r⟩ := h; ⟨t, p.pt, r⟩
def andM (f g : Rho → Option (Bool × Rho)) : Rho → Option (Bool × Rho) := fun ρ => match f ρ with
  | some (true, ρ1) => g ρ1
  | some (false, ρ1) => some (false, ρ1)
  | none => none
def orM (f g : Rho → Option (Bool × Rho)) : Rho → Option (Bool × Rho) := fun ρ => match f ρ with
  | some (true, ρ1) => some (true, ρ1)
  | some (false, ρ1) => g ρ1
  | none => none
theorem dmw_and {ca cb : Rho → Option (Bool × Rho)} (h : DMT X a ca) (g : DMW X (.BoolOp .And (b :: rest) pos) cb) : DMW X (.BoolOp .And (a :: b :: rest) pos) (andM ca cb) := by
  obtain ⟨t, p, r⟩ := h
  obtain ⟨u, p2, r2⟩ := g
  refine ⟨_, pw_and p p2, fun F σ H ρ ρ' d Q hk S hf q => ?_⟩
  unfold andM at hf
  split at hf
  · refine r F σ H ρ _ true _ hk S ‹_› fun H' S' m' => ?_
    exact r2 F σ H' _ ρ' d Q hk S' hf fun H2 S2 m2 => q H2 S2 (m'.trans m2)
  · cases hf
    exact r F σ H ρ _ false _ hk S ‹_› fun H' S' m' => q H' S' m'
  · cases hf
theorem dmw_or {ca cb : Rho → Option (Bool × Rho)} (h : DMT X a ca) (g : DMW X (.BoolOp .Or (b :: rest) pos) cb) : DMW X (.BoolOp .Or (a :: b :: rest) pos) (orM ca cb) := by
  obtain ⟨t, p, r⟩ := h
  obtain ⟨u, p2, r2⟩ := g
  refine ⟨_, pw_or p p2, fun F σ H ρ ρ' d Q hk S hf q => ?_⟩
  unfold orM at hf
  split at hf
  · cases hf
    exact r F σ H ρ _ true _ hk S ‹_› fun H' S' m' => q H' S' m'
  · refine r F σ H ρ _ false _ hk S ‹_› fun H' S' m' => ?_
    exact r2 F σ H' _ ρ' d Q hk S' hf fun H2 S2 m2 => q H2 S2 (m'.trans m2)
  · cases hf

/-! ### argument lists, displays, calls -/
def nilM : Rho → Option (List D × Rho) := fun ρ => some ([], ρ)
def conK (d : D) (ds : List D) : Option (List D) := some (d :: ds)
theorem dms_nil : DMs X [] nilM := by
  refine ⟨_, pa_nil, fun F σ H ρ ρ' ds Q hk S hf q => ?_⟩
  cases hf
  exact q _ H S (Same.refl _) .nil
theorem dms_cons {fa : Rho → Option (D × Rho)} {fs : Rho → Option (List D × Rho)} (h : DM X e fa) (g : DMs X es fs) (hs : starEach (e :: es) X.env = (false, eval e X.env) :: starEach es X.env := by rfl) : DMs X (e :: es) (thenM fa fs conK) := by
  obtain ⟨t, p, r⟩ := h
  obtain ⟨u, p2, r2⟩ := g
  refine ⟨_, pa_cons p p2 hs, fun F σ H ρ ρ' ds Q hk S hf q => ?_⟩
  obtain ⟨x, xs, ρ1, h1, h2, h3⟩ := thenM_some hf
  cases h3
  refine r F σ H ρ ρ1 x _ hk S h1 fun v H1 S1 m1 q1 => r2 F σ H1 ρ1 ρ' xs _ hk S1 h2 fun vs H2 S2 m2 q2 => ?_
  exact q _ H2 S2 (m1.trans m2) (.cons (q1.mono m2) q2)
def dspK (t : Bool) (ds : List D) : Option D := if ds.length ≤ 1000 then some (.sq t ds) else none
theorem hid_new {F : Fm} {σ : L2.St} {H : Hp} {ρ : Rho} {p : Addr} {o : HO} (S : Sim F σ H ρ) (h : H p = none) : hid F (upd H p o) σ ρ p = some o := by
  obtain ⟨a, b⟩ := S.fresh h
  exact hid_some a upd_same fun z => (z b).elim
theorem dm_tup {k : Nat} {fs : Rho → Option (List D × Rho)} (h : DMs X es fs) : DM X (.Tuple es k pos) (mapM (dspK true) fs) := by
  obtain ⟨t, p, r⟩ := h
  refine ⟨_, pe_tup p, fun F σ H ρ ρ' d Q hk S hf q => ?_⟩
  obtain ⟨ds, h1, h2⟩ := mapM_some hf
  unfold dspK at h2
  split at h2
  · rename_i hl0
    cases h2
    refine r F σ H ρ ρ' ds _ hk S h1 fun vs H1 S1 m1 q1 => ?_
    have hl : vs.length ≤ sizeLine := by rw [← q1.length, sizeLine_eq]; omega
    refine ⟨hl, fun a ha => q _ _ (S1.ext (same_new ha)) (m1.trans (hid_mono (same_new ha))) ?_⟩
    exact rep_sq (t := true) (.inl (.inl (hid_new S1 ha))) hl (q1.mono (hid_mono (same_new ha)))
  · cases h2
def frsM (ds : List D) : Option Res := if ds.length ≤ 1000 then some (.frs ds) else none
theorem dk_lst {fs : Rho → Option (List D × Rho)} (h : DMs X es fs) : DK X (.List es pos) (mapM frsM fs) := by
  obtain ⟨t, p, r⟩ := h
  refine ⟨_, pe_lst p, fun F σ H ρ ρ' d Q hk S hf q => ?_⟩
  obtain ⟨ds, h1, h2⟩ := mapM_some hf
  unfold frsM at h2
  split at h2
  · rename_i hl0
    cases h2
    refine r F σ H ρ ρ' ds _ hk S h1 fun vs H1 S1 m1 q1 => ?_
    have hl : vs.length ≤ sizeLine := by rw [← q1.length, sizeLine_eq]; omega
    refine ⟨hl, fun a ha => q _ _ ⟨a, rfl, New.of S1 ha (same_new ha) upd_same hl ?_ m1⟩⟩
    rw [hk]
    exact q1.mono fun b o hb => del_some (hid_mono (same_new ha) _ _ hb) (ne_of_none (hid_sub _ _ hb) ha)
  · cases h2
theorem mnyM_run {g : List D → Option D} {t : TA} {fs : Rho → Option (List D × Rho)}
    (r : ∀ (F : Fm) (σ : L2.St) (H : Hp) (ρ ρ' : Rho) (ds : List D) (Q : List V → Hp → Prop), F.K = X.K → Sim F σ H ρ → fs ρ = some (ds, ρ') → (∀ vs H', Sim F σ H' ρ' → Same (hid F H σ ρ) (hid F H' σ ρ') → Reps X.K (hid F H' σ ρ') ds vs → Q vs H') → t σ H Q)
    {F : Fm} {σ : L2.St} {H : Hp} {ρ ρ' : Rho} {d : D} {Q : VK} (hk : F.K = X.K) (S : Sim F σ H ρ) (hf : mapM g fs ρ = some (d, ρ')) (q : ∀ v H', Sim F σ H' ρ' → Same (hid F H σ ρ) (hid F H' σ ρ') → Rep X.K (hid F H' σ ρ') d v → Q v H') :
    t σ H fun vs H1 => rDs X.K g vs H1 Q := by
  obtain ⟨ds, h1, h2⟩ := mapM_some hf
  refine r F σ H ρ ρ' ds _ hk S h1 fun vs H1 S1 m1 q1 => ?_
  exact ⟨hid F H1 σ ρ', ds, d, hid_sub, q1, h2, fun z H2 e2 q2 => q z H2 (S1.ext e2) (m1.trans (hid_mono e2)) (q2.mono S1.vis)⟩
theorem dm_callB {id : String} {x : Str} {p : Pos} {g : List D → Option D} {fs : Rho → Option (List D × Rho)} (hc : CallR X (.builtin id) (rDs X.K g)) (hg : Gl X x) (hm : X.mg x = none) (hv : bootBuiltins x = some (.builtin id)) (ha : DMs X (e :: es) fs) (hn : x ≠ "__name__" := by decide) (hdb : (x == ("__debug__" : Str)) = false := by decide)
    (he : starEach (e :: es) X.env = (false, eval e X.env) :: starEach es X.env := by rfl) (hpl : (backTo pos (starEach es X.env)).any (·.1) = false := by rfl) : DM X (.Call (.Name x p) (e :: es) [] pos) (mapM g fs) := by
  obtain ⟨t, pa, r⟩ := ha
  exact ⟨_, pe_callB hc hg hm hv pa hn hdb he hpl, fun F σ H ρ ρ' d Q hk S hf q => mnyM_run r hk S hf q⟩
theorem dm_callTy {T : String} {x : Str} {p : Pos} {g : List D → Option D} {fs : Rho → Option (List D × Rho)} (hc : CallR X (.type T) (rDs X.K g)) (hg : Gl X x) (hm : X.mg x = none) (hv : bootBuiltins x = some (.type T)) (ha : DMs X (e :: es) fs) (hn : x ≠ "__name__" := by decide) (hdb : (x == ("__debug__" : Str)) = false := by decide)
    (he : starEach (e :: es) X.env = (false, eval e X.env) :: starEach es X.env := by rfl) (hpl : (backTo pos (starEach es X.env)).any (·.1) = false := by rfl) : DM X (.Call (.Name x p) (e :: es) [] pos) (mapM g fs) := by
  obtain ⟨t, pa, r⟩ := ha
  exact ⟨_, pe_callTy hc hg hm hv pa hn hdb he hpl, fun F σ H ρ ρ' d Q hk S hf q => mnyM_run r hk S hf q⟩

/-! ### calls of the program's own defs -/
/-- what a call leaves -/
def Left (K : PySem.W.Frag) (Vh : Hp) (H : Hp) (r : Res) (v : V) (H' : Hp) : Prop := match r with
  | .val d => Rep K Vh d v
  | .frs xs => ∃ p ws, v = .ref p ∧ H p = none ∧ H' p = some (.lst ws) ∧ ws.length ≤ sizeLine ∧ Reps K (del p Vh) xs ws
def LeftI (K : PySem.W.Frag) (Vh : Hp) (H : Hp) (r : Res) (v : V) (H' : Hp) (xs' : List D) (ws' : List V) : Prop := match r with
  | .val d => Reps K Vh xs' ws' ∧ Rep K Vh d v
  | .frs xs => ∃ p ws, v = .ref p ∧ H p = none ∧ H' p = some (.lst ws) ∧ ws.length ≤ sizeLine ∧ Reps K (del p Vh) xs' ws' ∧ Reps K (del p Vh) xs ws
/-- a def that changes nothing -/
def spG (K : PySem.W.Frag) (g : List D → Option Res) : Sp := fun vs H Q _ => ∃ (G : Hp) (as : List D) (r : Res), Same G H ∧ Reps K G as vs ∧ g as = some r ∧ ∀ v H', Same H H' → Left K (vis G H H') H r v H' → Q v H'
/-- a def that may change the list that is its first argument -/
def spI (K : PySem.W.Frag) (g : List D → List D → Option (Res × List D)) : Sp := fun vs H Q _ => ∃ (G : Hp) (p : Addr) (us ws : List V) (xs as xs' : List D) (r : Res),
  vs = .ref p :: us ∧ H p = some (.lst ws) ∧ ws.length ≤ sizeLine ∧ G p = none ∧ Same G H ∧ Reps K G xs ws ∧ Reps K G as us ∧ g xs as = some (r, xs') ∧
  ∀ v H' ws', (∀ b o, b ≠ p → H b = some o → H' b = some o) → H' p = some (.lst ws') → ws'.length ≤ sizeLine → LeftI K (vis G H H') H r v H' xs' ws' → Q v H'
theorem Left.rep {K : PySem.W.Frag} {G H : Hp} {r : Res} {v : V} {H' : Hp} (h : Left K (vis G H H') H r v H') : Rep K (vis G H H') (resD r) v := by
  cases r with
  | val d => exact h
  | frs xs =>
    obtain ⟨p, ws, rfl, h1, h2, h3, h4⟩ := h
    exact rep_sq (t := false) (.inl (.inl (vis_new h2 h1))) h3 (h4.mono del_sub)
section
variable {CX : CXT} {k : Nat} {f : Addr} {fd : FuncData} {ps : List Str} {x : Str} {p : Pos} {E : XK}
/-- a call, read by values (m: owned lists may be handed on, to be read) -/
def resO (g : List D → Option Res) : List D → Option D := fun as => match g as with
  | some r => some (resD r)
  | none => none
theorem dp_callG {g : List D → Option Res} {fs : Rho → Option (List D)} (F : FnOk X.prog X.w X.K X.mg X.base CX k f fd ps (spG X.K g)) (hr : Room k X.A) (hg : Gl X x) (hm : X.mg x = some (.ref f)) (hk : PySem.W.keepIn X.K (.ref f) = true)
    (hb : Binds X.K fd ps []) (hx : Passes CX X E) (ha : DPs X m (e :: es) fs) (hdb : (x == ("__debug__" : Str)) = false := by decide) (he : starEach (e :: es) X.env = (false, eval e X.env) :: starEach es X.env := by rfl) (hpl : (backTo pos (starEach es X.env)).any (·.1) = false := by rfl) :
    DP X m (.Call (.Name x p) (e :: es) [] pos) (mny (resO g) fs) := by
  obtain ⟨t, pa, r⟩ := ha
  refine ⟨_, pe_call F hr hg hm hk hb .nil hx pa hdb he hpl, fun F' σ H ρ d Q hk' S hf q => ?_⟩
  obtain ⟨ds, h1, h2⟩ := mny_some hf
  unfold resO at h2
  split at h2
  · rename_i rr hrr
    cases h2
    refine r F' σ H ρ ds _ hk' S h1 fun vs H1 e1 q1 => ?_
    show spG X.K g (vs ++ []) H1 Q E
    rw [List.append_nil]
    exact ⟨see m F' H1 σ ρ, ds, rr, see_sub, q1, hrr, fun z H2 e2 q2 => q z H2 (e1.trans e2) (q2.rep.mono (see_vis (S.ext e1) e2))⟩
  · cases h2
/-- a call, with what it leaves -/
theorem dk_callG {g : List D → Option Res} {fs : Rho → Option (List D × Rho)} (F : FnOk X.prog X.w X.K X.mg X.base CX k f fd ps (spG X.K g)) (hr : Room k X.A) (hg : Gl X x) (hm : X.mg x = some (.ref f)) (hk : PySem.W.keepIn X.K (.ref f) = true)
    (hb : Binds X.K fd ps []) (hx : Passes CX X E) (ha : DMs X (e :: es) fs) (hdb : (x == ("__debug__" : Str)) = false := by decide) (he : starEach (e :: es) X.env = (false, eval e X.env) :: starEach es X.env := by rfl) (hpl : (backTo pos (starEach es X.env)).any (·.1) = false := by rfl) :
    DK X (.Call (.Name x p) (e :: es) [] pos) (mapM g fs) := by
  obtain ⟨t, pa, r⟩ := ha
  refine ⟨_, pe_call F hr hg hm hk hb .nil hx pa hdb he hpl, fun F' σ H ρ ρ' d Q hk' S hf q => ?_⟩
  obtain ⟨ds, h1, h2⟩ := mapM_some hf
  refine r F' σ H ρ ρ' ds _ hk' S h1 fun vs H1 S1 m1 q1 => ?_
  show spG X.K g (vs ++ []) H1 Q E
  rw [List.append_nil]
  refine ⟨hid F' H1 σ ρ', ds, d, hid_sub, q1, h2, fun z H2 e2 q2 => q z H2 ?_⟩
  cases d with
  | val d => exact ⟨S1.ext e2, m1.trans (hid_mono e2), q2.mono S1.vis⟩
  | frs xs =>
    obtain ⟨a, ws, rfl, g1, g2, g3, g4⟩ := q2
    refine ⟨a, rfl, New.of S1 g1 e2 g2 g3 ?_ m1⟩
    rw [hk']
    exact g4.mono fun b o hb => by
      have hbp : b ≠ a := fun z => by
        unfold del at hb
        rw [if_pos z] at hb
        cases hb
      exact del_some (S1.vis _ _ (del_sub _ _ hb)) hbp
/-- a call that is lent the list in slot i -/
def ioK (i : Nat) (g : List D → List D → Option (Res × List D)) (fs : Rho → Option (List D × Rho)) : Rho → Option (Res × Rho) := fun ρ => match getL i ρ with
  | some _ => match fs ρ with
    | some (as, ρ1) => match getL i ρ1 with
      | some xs => match g xs as with
        | some (r, xs') => some (r, putL i xs' ρ1)
        | none => none
      | none => none
    | none => none
  | none => none
theorem ioK_some {i : Nat} {g : List D → List D → Option (Res × List D)} {fs : Rho → Option (List D × Rho)} {ρ ρ' : Rho} {r : Res} (h : ioK i g fs ρ = some (r, ρ')) : (∃ ys, getL i ρ = some ys) ∧ ∃ as ρ1 xs xs', fs ρ = some (as, ρ1) ∧ getL i ρ1 = some xs ∧ g xs as = some (r, xs') ∧ ρ' = putL i xs' ρ1 := by
  unfold ioK at h
  split at h
  · split at h
    · split at h
      · split at h
        · cases h
          exact ⟨⟨_, ‹_›⟩, _, _, _, _, ‹_›, ‹_›, ‹_›, rfl⟩
        · cases h
      · cases h
    · cases h
  · cases h
theorem dk_callI {i : Nat} {g : List D → List D → Option (Res × List D)} {fs : Rho → Option (List D × Rho)} (F : FnOk X.prog X.w X.K X.mg X.base CX k f fd ps (spI X.K g)) (hr : Room k X.A) (hg : Gl X x) (hm : X.mg x = some (.ref f)) (hk : PySem.W.keepIn X.K (.ref f) = true)
    (hb : Binds X.K fd ps []) (hx : Passes CX X E) (hv : PE X e (tVar i)) (ha : DMs X es fs) (hdb : (x == ("__debug__" : Str)) = false := by decide) (he : starEach (e :: es) X.env = (false, eval e X.env) :: starEach es X.env := by rfl) (hpl : (backTo pos (starEach es X.env)).any (·.1) = false := by rfl) :
    DK X (.Call (.Name x p) (e :: es) [] pos) (ioK i g fs) := by
  obtain ⟨t, pa, r⟩ := ha
  refine ⟨_, pe_call F hr hg hm hk hb .nil hx (pa_cons hv pa he) hdb he hpl, fun F' σ H ρ ρ' d Q hk' S hf q => ?_⟩
  obtain ⟨⟨ys, hys⟩, as, ρ1, xs, xs', h1, h2, h3, rfl⟩ := ioK_some hf
  obtain ⟨a, ws0, v1, _⟩ := getL_addr S hys
  refine ⟨_, v1, r F' σ H ρ ρ1 as _ hk' S h1 fun vs H1 S1 m1 q1 => ?_⟩
  obtain ⟨a', ws, v1', o1, v2, v3, v4⟩ := getL_addr S1 h2
  rw [v1] at v1'
  cases v1'
  have hGa : hid F' H1 σ ρ1 a = none := by
    cases hz : hid F' H1 σ ρ1 a with
    | none => rfl
    | some o => exact ((hid_old hz).1 o1).elim
  show spI X.K g ((.ref a :: vs) ++ []) H1 Q E
  rw [List.append_nil]
  refine ⟨hid F' H1 σ ρ1, a, vs, ws, xs, as, xs', d, rfl, v2, v3, hGa, hid_sub, by rw [← hk']; exact v4, q1, h3, fun z H2 ws' keep g2 g3 g4 => q z H2 ?_⟩
  have hvis : Same (vis (hid F' H1 σ ρ1) H1 H2) (hid F' H2 σ ρ1) := fun b o hb => by
    obtain ⟨b1, b2⟩ := vis_old hb
    by_cases hz : H1 b = none
    · obtain ⟨f1, f2⟩ := S1.fresh hz
      exact hid_some f1 b1 fun z => (z f2).elim
    · obtain ⟨u, hu⟩ := Option.ne_none_iff_exists'.mp (b2 hz)
      obtain ⟨c1, _, c3⟩ := hid_old hu
      exact hid_some c1 b1 c3
  cases d with
  | val d =>
    obtain ⟨S2, ho2, m2⟩ := S1.mut h2 v1 keep g2 g3 (by rw [hk']; exact g4.1.mono hvis)
    have hh : hid F' H2 σ (putL i xs' ρ1) = hid F' H2 σ ρ1 := hid_own ho2
    exact ⟨S2, m1.trans m2, by rw [hh]; exact g4.2.mono hvis⟩
  | frs es =>
    obtain ⟨b, us, rfl, n1, n2, n3, n4, n5⟩ := g4
    have hba : b ≠ a := fun z => by rw [z, v2] at n1; cases n1
    obtain ⟨f1, f2⟩ := S1.fresh n1
    have hG := G_none S1 n1
    have hd : ∀ c o, del b (vis (hid F' H1 σ ρ1) H1 H2) c = some o → hid (F'.hide b (.lst us)) H2 σ ρ1 c = some o := fun c o hc => by
      have hcb : c ≠ b := fun z => by
        unfold del at hc
        rw [if_pos z] at hc
        cases hc
      exact hid_hide hcb (hvis _ _ (del_sub _ _ hc))
    have S1' : Sim (F'.hide b (.lst us)) σ (upd H1 b (.lst us)) ρ1 := S1.hide n1 (same_new n1) upd_same
    have keep' : ∀ c o, c ≠ a → upd H1 b (.lst us) c = some o → H2 c = some o := fun c o hc hH => by
      by_cases hcb : c = b
      · subst hcb
        rw [upd_same] at hH
        cases hH
        exact n2
      · rw [upd_ne hcb] at hH
        exact keep c o hc hH
    obtain ⟨S2, ho2, m2⟩ := S1'.mut h2 v1 keep' g2 g3 (by rw [show (F'.hide b (.lst us)).K = X.K from hk']; exact n4.mono hd)
    have hh : hid (F'.hide b (.lst us)) H2 σ (putL i xs' ρ1) = hid (F'.hide b (.lst us)) H2 σ ρ1 := hid_own ho2
    refine ⟨b, rfl, us, S2, n2, f2, hG, fun z => (S1.ent b z).1 f2, fun z => f1 ((ho2 b).mp z), n3, ?_, ?_⟩
    · rw [hk', hh]
      exact n5.mono hd
    · refine m1.trans fun c o hc => m2 _ _ ?_
      have hcb : c ≠ b := fun z => by
        have := hid_sub _ _ hc
        rw [z, n1] at this
        cases this
      exact hid_hide hcb (hid_mono (same_new n1) _ _ hc)
end
end
end DL

-- DL13
/-! DL13: statements and blocks. -/
namespace DL
open PySem PySem.Spec PyProof.Rows L2

/-- how a statement ends -/
inductive Fl where
  | nx | bk | ct | rt (r : Res) | er (c : Str)
/-- what is to be shown where it ends so -/
def Post (K : PySem.W.Frag) (W : Str → L2.St → Hp → Prop) (F : Fm) (G0 : Hp) (E : Ends) : Fl → Rho → Prop
  | .nx, ρ' => ∀ σ' H', Sim F σ' H' ρ' → Same G0 (hid F H' σ' ρ') → E.nx σ' H'
  | .bk, ρ' => ∀ σ' H', Sim F σ' H' ρ' → Same G0 (hid F H' σ' ρ') → E.bk σ' H'
  | .ct, ρ' => ∀ σ' H', Sim F σ' H' ρ' → Same G0 (hid F H' σ' ρ') → E.ct σ' H'
  | .rt r, ρ' => ∀ v σ' H', Got K F G0 r v σ' H' ρ' → E.rt v H'
  | .er c, ρ' => ∀ σ' H', Sim F σ' H' ρ' → Same G0 (hid F H' σ' ρ') → W c σ' H'
def Run (X : Cx) (W : Str → L2.St → Hp → Prop) (t : TS) (f : Rho → Option (Fl × Rho)) : Prop :=
  ∀ (F : Fm) (σ : L2.St) (H : Hp) (ρ ρ' : Rho) (o : Fl) (E : Ends), F.K = X.K → Sim F σ H ρ → f ρ = some (o, ρ') → Post X.K W F (hid F H σ ρ) E o ρ' → t E σ H
def DS (X : Cx) (W : Str → L2.St → Hp → Prop) (st : Stmt) (f : Rho → Option (Fl × Rho)) : Prop := ∃ t, PS X st t ∧ Run X W t f
def DSs (X : Cx) (W : Str → L2.St → Hp → Prop) (st : List Stmt) (f : Rho → Option (Fl × Rho)) : Prop := ∃ t, PSs X st t ∧ Run X W t f

section
variable {K : PySem.W.Frag} {W : Str → L2.St → Hp → Prop} {F : Fm} {G0 G1 : Hp} {E E' : Ends} {o : Fl} {ρ' : Rho}
theorem Post.mono (h : Post K W F G0 E o ρ') (g : Same G0 G1) : Post K W F G1 E o ρ' := by
  cases o with
  | nx => exact fun σ' H' S m => h σ' H' S (g.trans m)
  | bk => exact fun σ' H' S m => h σ' H' S (g.trans m)
  | ct => exact fun σ' H' S m => h σ' H' S (g.trans m)
  | rt r => exact fun v σ' H' q => h v σ' H' (q.mono g)
  | er c => exact fun σ' H' S m => h σ' H' S (g.trans m)
/-- not falling through -/
theorem Post.out (h : Post K W F G0 E o ρ') (hn : o ≠ .nx) (h1 : E'.rt = E.rt) (h2 : E'.bk = E.bk) (h3 : E'.ct = E.ct) : Post K W F G0 E' o ρ' := by
  cases o with
  | nx => exact (hn rfl).elim
  | bk => show ∀ σ' H', _ → _ → E'.bk σ' H'; rw [h2]; exact h
  | ct => show ∀ σ' H', _ → _ → E'.ct σ' H'; rw [h3]; exact h
  | rt r => show ∀ v σ' H', _ → E'.rt v H'; rw [h1]; exact h
  | er c => exact h
end

section
variable {X : Cx} {W : Str → L2.St → Hp → Prop} {st : Stmt} {sts : List Stmt} {pos : Pos} {e a b c : Expr} {es : List Expr}
/-! ### blocks -/
def stop : Rho → Option (Fl × Rho) := fun _ => none
def skip : Rho → Option (Fl × Rho) := fun ρ => some (.nx, ρ)
def seq (f g : Rho → Option (Fl × Rho)) : Rho → Option (Fl × Rho) := fun ρ => match f ρ with
  | some (.nx, ρ1) => g ρ1
  | r => r
theorem seq_some {f g : Rho → Option (Fl × Rho)} {ρ ρ' : Rho} {o : Fl} (h : seq f g ρ = some (o, ρ')) : (∃ ρ1, f ρ = some (.nx, ρ1) ∧ g ρ1 = some (o, ρ')) ∨ (f ρ = some (o, ρ') ∧ o ≠ .nx) := by
  unfold seq at h
  split at h
  · exact .inl ⟨_, ‹_›, h⟩
  · rename_i hn
    refine .inr ⟨h, fun z => ?_⟩
    subst z
    exact hn _ h
theorem dead : DS X W st stop := ⟨_, ps_never, fun F σ H ρ ρ' o E hk S hf q => by cases hf⟩
theorem dss_dead : DSs X W sts stop := ⟨_, pss_never, fun F σ H ρ ρ' o E hk S hf q => by cases hf⟩
theorem dss_nil : DSs X W [] skip := ⟨_, pss_nil, fun F σ H ρ ρ' o E hk S hf q => by cases hf; exact q σ H S (Same.refl _)⟩
theorem dss_one {f : Rho → Option (Fl × Rho)} (h : DS X W st f) : DSs X W [st] f := let ⟨t, p, r⟩ := h; ⟨t, pss_one p, r⟩
theorem dss_cons {f g : Rho → Option (Fl × Rho)} (h : DS X W st f) (k : DSs X W sts g) : DSs X W (st :: sts) (seq f g) := by
  obtain ⟨t, p, r⟩ := h
  obtain ⟨u, p2, r2⟩ := k
  refine ⟨_, pss_cons p p2, fun F σ H ρ ρ' o E hk S hf q => ?_⟩
  show t { nx := u E, rt := E.rt, bk := E.bk, ct := E.ct } σ H
  rcases seq_some hf with ⟨ρ1, h1, h2⟩ | ⟨h1, h2⟩
  · exact r F σ H ρ ρ1 .nx _ hk S h1 fun σ1 H1 S1 m1 => r2 F σ1 H1 ρ1 ρ' o E hk S1 h2 (q.mono m1)
  · exact r F σ H ρ ρ' o _ hk S h1 (q.out h2 rfl rfl rfl)
/-- an owned list is from here on a value -/
def frzS (i : Nat) (f : Rho → Option (Fl × Rho)) : Rho → Option (Fl × Rho) := fun ρ => f (frz i ρ)
theorem ds_frz (i : Nat) {f : Rho → Option (Fl × Rho)} (h : DS X W st f) : DS X W st (frzS i f) := by
  obtain ⟨t, p, r⟩ := h
  refine ⟨t, p, fun F σ H ρ ρ' o E hk S hf q => ?_⟩
  obtain ⟨S', m⟩ := S.frz i
  exact r F σ H _ ρ' o E hk S' hf (q.mono m)
theorem dss_frz (i : Nat) {f : Rho → Option (Fl × Rho)} (h : DSs X W sts f) : DSs X W sts (frzS i f) := by
  obtain ⟨t, p, r⟩ := h
  refine ⟨t, p, fun F σ H ρ ρ' o E hk S hf q => ?_⟩
  obtain ⟨S', m⟩ := S.frz i
  exact r F σ H _ ρ' o E hk S' hf (q.mono m)
def pass : Rho → Option (Fl × Rho) := skip
theorem ds_pass : DS X W (.Pass pos) skip := ⟨_, ps_pass, fun F σ H ρ ρ' o E hk S hf q => by cases hf; exact q σ H S (Same.refl _)⟩
def brk : Rho → Option (Fl × Rho) := fun ρ => some (.bk, ρ)
def cont : Rho → Option (Fl × Rho) := fun ρ => some (.ct, ρ)
theorem ds_break : DS X W (.Break pos) brk := ⟨_, ps_break, fun F σ H ρ ρ' o E hk S hf q => by cases hf; exact q σ H S (Same.refl _)⟩
theorem ds_continue : DS X W (.Continue pos) cont := ⟨_, ps_continue, fun F σ H ρ ρ' o E hk S hf q => by cases hf; exact q σ H S (Same.refl _)⟩

/-! ### expressions as statements, return -/
def expS (f : Rho → Option (D × Rho)) : Rho → Option (Fl × Rho) := fun ρ => match f ρ with
  | some (_, ρ1) => some (.nx, ρ1)
  | none => none
theorem ds_expr {f : Rho → Option (D × Rho)} (h : DM X e f) (hs : swapsWith e none pos.line X.env = pure false := by rfl) : DS X W (.Expr e pos) (expS f) := by
  obtain ⟨t, p, r⟩ := h
  refine ⟨_, ps_expr p hs, fun F σ H ρ ρ' o E hk S hf q => ?_⟩
  unfold expS at hf
  split at hf
  · cases hf
    exact r F σ H ρ _ _ _ hk S ‹_› fun v H' S' m' _ => q σ H' S' m'
  · cases hf
def retS (f : Rho → Option (Res × Rho)) : Rho → Option (Fl × Rho) := fun ρ => match f ρ with
  | some (r, ρ1) => some (.rt r, ρ1)
  | none => none
theorem ds_ret {f : Rho → Option (Res × Rho)} (h : DK X e f) : DS X W (.Return (some e) pos) (retS f) := by
  obtain ⟨t, p, r⟩ := h
  refine ⟨_, ps_ret p, fun F σ H ρ ρ' o E hk S hf q => ?_⟩
  unfold retS at hf
  split at hf
  · cases hf
    exact r F σ H ρ _ _ _ hk S ‹_› fun v H' g => q v σ H' g
  · cases hf
def retN : Rho → Option (Fl × Rho) := fun ρ => some (.rt (.val .non), ρ)
theorem ds_retN : DS X W (.Return none pos) retN := ⟨_, ps_retN, fun F σ H ρ ρ' o E hk S hf q => by
  cases hf
  exact q _ σ H ⟨S, Same.refl _, by rw [Rep]⟩⟩
/-- an owned list is handed out -/
def retO (i : Nat) : Rho → Option (Fl × Rho) := fun ρ => match ρ[i]? with
  | some (.ow xs) => some (.rt (.frs xs), ρ.set i .un)
  | _ => none
theorem ds_retO {i : Nat} (h : PE X e (tVar i)) : DS X W (.Return (some e) pos) (retO i) := by
  refine ⟨_, ps_ret h, fun F σ H ρ ρ' o E hk S hf q => ?_⟩
  unfold retO at hf
  split at hf
  · rename_i xs hs
    cases hf
    obtain ⟨p, vs, e1, e2, e3, e4, e5⟩ := S.ow i xs hs
    refine ⟨_, e1, q _ σ H ⟨p, rfl, ?_⟩⟩
    have hlen : i < ρ.length := (List.getElem?_eq_some_iff.mp hs).1
    have hback : ∀ q, Own σ (ρ.set i .un) q → q ≠ p ∧ Own σ ρ q := fun q ⟨j, zs, a, h⟩ => by
      by_cases hj : i = j
      · subst hj
        rw [List.getElem?_set_self hlen] at h
        rcases h with h | h <;> cases h
      · rw [List.getElem?_set_ne hj] at h
        refine ⟨fun z => ?_, j, zs, a, h⟩
        subst z
        rcases h with h | h
        · exact hj (S.inj i j q xs zs hs h e1 a)
        · exact (S.io_B h a).2 e3
    have hG : F.G p = none := by
      cases z : F.G p with
      | none => rfl
      | some u =>
        have := S.sub p u z
        rw [e3] at this
        cases this
    have hio : F.io ≠ some p := fun z => (S.ent p z).1 e3
    have hno : ¬ Own σ (ρ.set i .un) p := fun z => (hback p z).1 rfl
    have hpo : Own σ ρ p := ⟨i, xs, e1, .inl hs⟩
    have hm : Same (hid F H σ ρ) (hid (F.hide p (.lst vs)) H σ (ρ.set i .un)) := fun b u hb => by
      obtain ⟨a, c, d⟩ := hid_old hb
      have hbp : b ≠ p := fun z => a (by rw [z]; exact hpo)
      exact hid_hide hbp (hid_some (fun z => a (hback b z).2) c d)
    refine ⟨vs, ⟨by rw [List.length_set]; exact S.len, fun j d h => ?_, fun j ys h => ?_, fun j ys h => ?_, fun j k q ys zs g1 g2 g3 g4 => ?_, fun q h => ?_, fun b u hb hn => ?_, fun b u hb => ?_⟩, e2, e3, hG, hio, hno, e4, ?_, ?_⟩
    · by_cases hj : i = j
      · subst hj
        rw [List.getElem?_set_self hlen] at h
        cases h
      · rw [List.getElem?_set_ne hj] at h
        obtain ⟨v, a, b⟩ := S.va j d h
        exact ⟨v, a, b.mono hm⟩
    · by_cases hj : i = j
      · subst hj
        rw [List.getElem?_set_self hlen] at h
        cases h
      · rw [List.getElem?_set_ne hj] at h
        obtain ⟨q, ws, a1, a2, a3, a4, a5⟩ := S.ow j ys h
        have hq : q ≠ p := fun z => hj (S.inj i j p xs ys hs h e1 (by rw [← z]; exact a1))
        exact ⟨q, ws, a1, a2, by show upd F.B p _ q = none; rw [upd_ne hq]; exact a3, a4, a5.mono hm⟩
    · by_cases hj : i = j
      · subst hj
        rw [List.getElem?_set_self hlen] at h
        cases h
      · rw [List.getElem?_set_ne hj] at h
        obtain ⟨a0, q, ws, a1, a2, a3, a4, a5⟩ := S.io j ys h
        exact ⟨a0, q, ws, a1, a2, a3, a4, a5.mono hm⟩
    · have back : ∀ {j : Nat} {ys : List D}, (ρ.set i .un)[j]? = some (.ow ys) → ρ[j]? = some (.ow ys) := by
        intro j ys h
        by_cases hj : i = j
        · subst hj
          rw [List.getElem?_set_self hlen] at h
          cases h
        · rw [List.getElem?_set_ne hj] at h
          exact h
      exact S.inj j k q ys zs (back g1) (back g2) g3 g4
    · obtain ⟨a1, a2, ys, a3⟩ := S.ent q h
      refine ⟨?_, a2, ys, ?_⟩
      · show upd F.B p _ q ≠ none
        by_cases hq : q = p
        · rw [hq, upd_same]; exact fun z => nomatch z
        · rw [upd_ne hq]; exact a1
      · by_cases hj : i = 0
        · subst hj
          rw [hs] at a3
          cases a3
        · rw [List.getElem?_set_ne hj]
          exact a3
    · have hb' : upd F.B p (.lst vs) b = some u := hb
      by_cases hbp : b = p
      · subst hbp
        rw [upd_same] at hb'
        cases hb'
        exact e2
      · rw [upd_ne hbp] at hb'
        exact S.base b u hb' hn
    · show upd F.B p _ b = some u
      have hbp : b ≠ p := fun z => by
        rw [z] at hb
        have hb' : F.G p = some u := hb
        rw [hG] at hb'
        cases hb'
      rw [upd_ne hbp]
      exact S.sub b u hb
    · exact e5.mono hm
    · exact hm
  · cases hf

/-! ### stores -/
def slR : Res → Sl
  | .val d => .va d
  | .frs xs => .ow xs
def putK (i : Nat) (r : Res) (ρ : Rho) : Option Rho := match ρ[i]? with
  | some (.io _) => none
  | some _ => some (ρ.set i (slR r))
  | none => none
theorem putK_some {i : Nat} {r : Res} {ρ ρ' : Rho} (h : putK i r ρ = some ρ') : ∃ s, ρ[i]? = some s ∧ notIo s = true ∧ ρ' = ρ.set i (slR r) := by
  unfold putK at h
  split at h
  · cases h
  · rename_i s hn hs
    cases h
    refine ⟨s, hs, ?_, rfl⟩
    cases s with
    | io xs => exact (hn xs rfl).elim
    | _ => rfl
  · cases h
theorem Got.put {K : PySem.W.Frag} {F : Fm} {G0 : Hp} {r : Res} {v : V} {σ : L2.St} {H : Hp} {ρ ρ' : Rho} {i : Nat} (hk : F.K = K) (g : Got K F G0 r v σ H ρ) (h : putK i r ρ = some ρ') : Sim F (σ.set i (some v)) H ρ' ∧ Same G0 (hid F H (σ.set i (some v)) ρ') := by
  obtain ⟨s, h1, h2, rfl⟩ := putK_some h
  cases r with
  | val d =>
    obtain ⟨S, m, rr⟩ := g
    obtain ⟨S', m'⟩ := S.set_va h1 h2 (by rw [hk]; exact rr)
    exact ⟨S', m.trans m'⟩
  | frs xs =>
    obtain ⟨p, rfl, N⟩ := g
    exact N.store h1 h2
def setS (i : Nat) (f : Rho → Option (Res × Rho)) : Rho → Option (Fl × Rho) := fun ρ => match f ρ with
  | some (r, ρ1) => match putK i r ρ1 with
    | some ρ2 => some (.nx, ρ2)
    | none => none
  | none => none
theorem setS_some {i : Nat} {f : Rho → Option (Res × Rho)} {ρ ρ' : Rho} {o : Fl} (h : setS i f ρ = some (o, ρ')) : ∃ r ρ1, f ρ = some (r, ρ1) ∧ putK i r ρ1 = some ρ' ∧ o = .nx := by
  unfold setS at h
  split at h
  · split at h
    · cases h
      exact ⟨_, _, ‹_›, ‹_›, rfl⟩
    · cases h
  · cases h
theorem ds_set {i : Nat} {x : Str} {pos' : Pos} {f : Rho → Option (Res × Rho)} (hN : X.N.Nodup) (hi : X.N[i]? = some x) (hl : L2.Loc X.env.scope x) (h : DK X e f) (hs : swapsWith e (some (.Name x pos')) pos.line X.env = pure false := by rfl)
    (hn : X.fn x = true ∨ X.env.scope.names.lookup x = some .local := by first | exact .inl rfl | exact .inr rfl) : DS X W (.Assign [.Name x pos'] e pos) (setS i f) := by
  obtain ⟨t, p, r⟩ := h
  refine ⟨_, ps_set hN hi hl p hs hn, fun F σ H ρ ρ' o E hk S hf q => ?_⟩
  obtain ⟨rr, ρ1, h1, h2, rfl⟩ := setS_some hf
  refine r F σ H ρ ρ1 rr _ hk S h1 fun v H' g => ?_
  obtain ⟨S', m'⟩ := g.put hk h2
  exact q _ H' S' m'
/-- a comprehension as the whole right side -/
theorem ds_setLc {i : Nat} {y : Str} {py : Pos} {elt tg iter : Expr} {ifs : List Expr} {scope : Scope} {own : List (Str × Nat)} {spos : Pos} {is : List Nat} {mi me : Bool} {fi : Rho → Option (List D)} {g : D → Rho → Option Rho} {c : Rho → Option Bool} {fe : Rho → Option D} (o : Okx X) (hN : X.N.Nodup)
    (hy : X.N[i]? = some y) (hyl : X.env.scope.names.lookup y = some .local) (hsw : swapsWith (.ListComp elt [⟨tg, iter, ifs, 0⟩] scope pos) (some (.Name y py)) spos.line X.env = pure true)
    (hi : DI X mi tg iter fi) (ok : BlkOk X.N X.env.scope scope own) (hg : InBlk X scope fun Y => DG Y is tg g) (ht : InBlk X scope fun Y => DTs Y ifs c) (he : InBlk X scope fun Y => DP Y false elt fe)
    (hsub : ∀ i ∈ is, i ∈ own.map (·.2)) (hs : ∀ x, foldedSetIterable iter X.env x = pure x := by intro _; rfl) : DS X W (.Assign [.Name y py] (.ListComp elt [⟨tg, iter, ifs, 0⟩] scope pos) spos) (setS i (frsK (cmp fi (own.map (·.2)) g c fe))) := by
  obtain ⟨wi, pi, ri⟩ := hi
  refine ⟨_, ps_setLc (g := tDG X.K is g) (tt := tDT X.K c) (te := tDP X.K false fe) o.calm hN hy hyl hsw pi ok (fun s H C cl fp => (hg s H C cl fp).pg) (fun s H C cl fp => (ht s H C cl fp).pts) (fun s H C cl fp => (he s H C cl fp).pe) hs, fun F σ H ρ ρ' oo E hk S hf q => ?_⟩
  obtain ⟨rr, ρ1, h1, h2, rfl⟩ := setS_some hf
  unfold frsK at h1
  split at h1
  · rename_i es hes
    cases h1
    have gc := (hg {} (fun _ => none) 0 [] []).2
    refine lc_run (X := X) ri (fun F σ H ρ ρ' d v Q hk S r hf q => ⟨F, ρ, ρ', d, hk, S, r, hf, q⟩) gc (fun F σ H ρ b Q hk S hf q => ⟨F, ρ, b, hk, S, hf, q⟩) (fun F σ H ρ d Q hk S hf q => ⟨F, ρ, d, hk, S, hf, q⟩) hsub hk S hes fun p ws H' hn e h3 hl rep => ?_
    rw [see_false] at rep
    have N : New F (hid F H σ ρ) p es σ H' ρ := New.of S hn e h3 hl (by rw [hk]; exact rep) (Same.refl _)
    obtain ⟨S', m'⟩ := Got.put (r := .frs es) (v := .ref p) (K := X.K) hk ⟨p, rfl, N⟩ h2
    exact q _ H' S' m'
  · cases h1
/-- a value taken apart -/
def asgS (f : Rho → Option (D × Rho)) (g : D → Rho → Option Rho) : Rho → Option (Fl × Rho) := fun ρ => match f ρ with
  | some (d, ρ1) => match g d ρ1 with
    | some ρ2 => some (.nx, ρ2)
    | none => none
  | none => none
theorem ds_asg {is : List Nat} {tg : Expr} {f : Rho → Option (D × Rho)} {g : D → Rho → Option Rho} (h : DM X e f) (hg : DG X is tg g) (h1 : swapsWithSole [tg] e pos.line X.env = pure false := by rfl) (h2 : swappedStores [tg] e X.env = pure none := by rfl)
    (h3 : (assignEach [tg] X.env).map (·.2) = [assign tg X.env] := by rfl) : DS X W (.Assign [tg] e pos) (asgS f g) := by
  obtain ⟨t, p, r⟩ := h
  obtain ⟨⟨u, p2, r2⟩, _⟩ := hg
  refine ⟨_, ps_asg p p2 h1 h2 h3, fun F σ H ρ ρ' o E hk S hf q => ?_⟩
  unfold asgS at hf
  split at hf
  · rename_i d ρ1 hd
    split at hf
    · rename_i ρ2 hρ
      cases hf
      refine r F σ H ρ ρ1 d _ hk S hd fun v H' S' m' rr => ?_
      exact r2 F σ H' ρ1 _ d v _ hk S' rr hρ fun σ2 S2 m2 _ _ => q σ2 H' S2 (m'.trans m2)
    · cases hf
  · cases hf
/-- two names at once -/
def parS (i j : Nat) (fa fb : Rho → Option (Res × Rho)) : Rho → Option (Fl × Rho) := fun ρ => match fa ρ with
  | some (r, ρ1) => match fb ρ1 with
    | some (r2, ρ2) => match putK j r2 ρ2 with
      | some ρ3 => match putK i r ρ3 with
        | some ρ4 => some (.nx, ρ4)
        | none => none
      | none => none
    | none => none
  | none => none
theorem New.again {F : Fm} {G0 : Hp} {p : Addr} {xs : List D} {σ σ' : L2.St} {H H' : Hp} {ρ ρ' : Rho} (N : New F G0 p xs σ H ρ) : ∃ F1 : Fm, F1.K = F.K ∧ Sim F1 σ H ρ ∧ Same G0 (DL.hid F1 H σ ρ) ∧ ∀ σ' H' ρ', Sim F1 σ' H' ρ' → Same (DL.hid F1 H σ ρ) (DL.hid F1 H' σ' ρ') → New F G0 p xs σ' H' ρ' := by
  obtain ⟨ws, S, h1, h2, h3, h4, h5, h6, h7, h8⟩ := N
  refine ⟨F.hide p (.lst ws), rfl, S, h8, fun σ' H' ρ' S' m => ⟨ws, S', S'.base p _ upd_same h4, h2, h3, h4, fun ⟨j, zs, a, h⟩ => ?_, h6, h7.mono m, h8.trans m⟩⟩
  rcases h with h | h
  · have := S'.ow_B h a
    have this' : upd F.B p (.lst ws) p = none := this
    rw [upd_same] at this'
    cases this'
  · exact h4 (S'.io_B h a).1
theorem Got.split {K : PySem.W.Frag} {F : Fm} {G0 : Hp} {r : Res} {v : V} {σ : L2.St} {H : Hp} {ρ : Rho} (g : Got K F G0 r v σ H ρ) : ∃ F1 : Fm, F1.K = F.K ∧ Sim F1 σ H ρ ∧ Same G0 (hid F1 H σ ρ) ∧ ∀ σ' H' ρ', Sim F1 σ' H' ρ' → Same (hid F1 H σ ρ) (hid F1 H' σ' ρ') → Got K F G0 r v σ' H' ρ' := by
  cases r with
  | val d =>
    obtain ⟨S, m, rr⟩ := g
    exact ⟨F, rfl, S, m, fun σ' H' ρ' S' m' => ⟨S', m.trans m', rr.mono m'⟩⟩
  | frs xs =>
    obtain ⟨p, rfl, N⟩ := g
    obtain ⟨F1, a, b, c, d⟩ := N.again (σ' := σ) (H' := H) (ρ' := ρ)
    exact ⟨F1, a, b, c, fun σ' H' ρ' S' m' => ⟨p, rfl, d σ' H' ρ' S' m'⟩⟩
theorem ds_par {i j : Nat} {x y : Str} {px py pt : Pos} {kt k2 : Nat} {pt2 : Pos} {fa fb : Rho → Option (Res × Rho)} (o : Okx X) (hN : X.N.Nodup) (hi : X.N[i]? = some x) (hj : X.N[j]? = some y) (hij : i ≠ j) (hx : X.env.scope.names.lookup x = some .local) (hy : X.env.scope.names.lookup y = some .local)
    (ha : DK X a fa) (hb : DK X b fb) (hw : swappedStores [.Tuple [.Name x px, .Name y py] kt pt] (.Tuple [a, b] k2 pt2) X.env = pure (some [x, y])) (hs2 : starEach [a, b] X.env = (false, eval a X.env) :: starEach [b] X.env := by rfl) (hs1 : starEach [b] X.env = (false, eval b X.env) :: starEach [] X.env := by rfl)
    (hsw : swapsWithSole [.Tuple [.Name x px, .Name y py] kt pt] (.Tuple [a, b] k2 pt2) pos.line X.env = pure false := by rfl) : DS X W (.Assign [.Tuple [.Name x px, .Name y py] kt pt] (.Tuple [a, b] k2 pt2) pos) (parS i j fa fb) := by
  obtain ⟨ta, pa, ra⟩ := ha
  obtain ⟨tb, pb, rb⟩ := hb
  refine ⟨_, ps_par o.calm hN hi hj hij hx hy (pa_cons pa (pa_cons pb pa_nil hs1) hs2) hw hsw, fun F σ H ρ ρ' o E hk S hf q => ?_⟩
  unfold parS at hf
  split at hf
  · rename_i r ρ1 h1
    split at hf
    · rename_i r2 ρ2 h2
      split at hf
      · rename_i ρ3 h3
        split at hf
        · rename_i ρ4 h4
          cases hf
          refine ra F σ H ρ ρ1 r _ hk S h1 fun v H1 g1 => ?_
          obtain ⟨F1, k1, S1, m1, back1⟩ := g1.split
          refine rb F1 σ H1 ρ1 ρ2 r2 _ (k1.trans hk) S1 h2 fun w H2 g2 => ?_
          obtain ⟨S2, m2⟩ := g2.put (k1.trans hk) h3
          obtain ⟨S3, m3⟩ := (back1 _ _ _ S2 m2).put hk h4
          refine ⟨v, w, rfl, ?_⟩
          rw [List.set_comm _ _ hij]
          exact q _ H2 S3 m3
        · cases hf
      · cases hf
    · cases hf
  · cases hf
def par3S (i j l : Nat) (fa fb fc : Rho → Option (Res × Rho)) : Rho → Option (Fl × Rho) := fun ρ => match fa ρ with
  | some (r, ρ1) => match fb ρ1 with
    | some (r2, ρ2) => match fc ρ2 with
      | some (r3, ρ3) => match putK l r3 ρ3 with
        | some ρ4 => match putK j r2 ρ4 with
          | some ρ5 => match putK i r ρ5 with
            | some ρ6 => some (.nx, ρ6)
            | none => none
          | none => none
        | none => none
      | none => none
    | none => none
  | none => none
theorem ds_par3 {i j l : Nat} {x y z : Str} {px py pz pt : Pos} {kt k2 : Nat} {pt2 : Pos} {fa fb fc : Rho → Option (Res × Rho)} (o : Okx X) (hN : X.N.Nodup) (hi : X.N[i]? = some x) (hj : X.N[j]? = some y) (hl : X.N[l]? = some z) (hij : i ≠ j) (hil : i ≠ l) (hjl : j ≠ l) (hx : X.env.scope.names.lookup x = some .local) (hy : X.env.scope.names.lookup y = some .local) (hz : X.env.scope.names.lookup z = some .local)
    (ha : DK X a fa) (hb : DK X b fb) (hc : DK X c fc) (hw : swappedStores [.Tuple [.Name x px, .Name y py, .Name z pz] kt pt] (.Tuple [a, b, c] k2 pt2) X.env = pure (some [x, y, z])) (hs3 : starEach [a, b, c] X.env = (false, eval a X.env) :: starEach [b, c] X.env := by rfl) (hs2 : starEach [b, c] X.env = (false, eval b X.env) :: starEach [c] X.env := by rfl) (hs1 : starEach [c] X.env = (false, eval c X.env) :: starEach [] X.env := by rfl)
    (hsw : swapsWithSole [.Tuple [.Name x px, .Name y py, .Name z pz] kt pt] (.Tuple [a, b, c] k2 pt2) pos.line X.env = pure false := by rfl) : DS X W (.Assign [.Tuple [.Name x px, .Name y py, .Name z pz] kt pt] (.Tuple [a, b, c] k2 pt2) pos) (par3S i j l fa fb fc) := by
  obtain ⟨ta, pa, ra⟩ := ha
  obtain ⟨tb, pb, rb⟩ := hb
  obtain ⟨tc, pc, rc⟩ := hc
  refine ⟨_, ps_par3 o.calm hN hi hj hl hij hil hjl hx hy hz (pa_cons pa (pa_cons pb (pa_cons pc pa_nil hs1) hs2) hs3) hw hsw, fun F σ H ρ ρ' o E hk S hf q => ?_⟩
  unfold par3S at hf
  split at hf
  · rename_i r ρ1 h1
    split at hf
    · rename_i r2 ρ2 h2
      split at hf
      · rename_i r3 ρ3 h3
        split at hf
        · rename_i ρ4 h4
          split at hf
          · rename_i ρ5 h5
            split at hf
            · rename_i ρ6 h6
              cases hf
              refine ra F σ H ρ ρ1 r _ hk S h1 fun v H1 g1 => ?_
              obtain ⟨F1, k1, S1, m1, back1⟩ := g1.split
              refine rb F1 σ H1 ρ1 ρ2 r2 _ (k1.trans hk) S1 h2 fun w H2 g2 => ?_
              obtain ⟨F2, k2, S2, m2, back2⟩ := g2.split
              refine rc F2 σ H2 ρ2 ρ3 r3 _ ((k2.trans k1).trans hk) S2 h3 fun u H3 g3 => ?_
              obtain ⟨S3, m3⟩ := g3.put ((k2.trans k1).trans hk) h4
              obtain ⟨S4, m4⟩ := (back2 _ _ _ S3 m3).put (k1.trans hk) h5
              obtain ⟨S5, m5⟩ := (back1 _ _ _ S4 m4).put hk h6
              refine ⟨v, w, u, rfl, ?_⟩
              rw [List.set_comm _ _ hij, List.set_comm (i := i) (j := l) _ _ hil, List.set_comm (i := j) (j := l) _ _ hjl]
              exact q _ H3 S5 m5
            · cases hf
          · cases hf
        · cases hf
      · cases hf
    · cases hf
  · cases hf

/-! ### owned lists changed -/
/-- x[i] = e -/
def itemS (i : Nat) (f fi : Rho → Option (D × Rho)) : Rho → Option (Fl × Rho) := fun ρ => match f ρ with
  | some (d, ρ1) => match getL i ρ1 with
    | some _ => match fi ρ1 with
      | some (.int k, ρ2) => match getL i ρ2 with
        | some xs => match ixN xs.length k with
          | some j => some (.nx, putL i (xs.set j d) ρ2)
          | none => none
        | none => none
      | _ => none
    | none => none
  | none => none
theorem mutv {F : Fm} {σ : L2.St} {H : Hp} {ρ : Rho} {i : Nat} {xs xs' : List D} {p : Addr} {ws : List V} (S : Sim F σ H ρ) (hi : getL i ρ = some xs) (hσ : σ[i]? = some (some (.ref p))) (hl : ws.length ≤ sizeLine) (r : Reps F.K (hid F H σ ρ) xs' ws) :
    Sim F σ (upd H p (.lst ws)) (putL i xs' ρ) ∧ Same (hid F H σ ρ) (hid F (upd H p (.lst ws)) σ (putL i xs' ρ)) ∧ (∀ q, Own σ (putL i xs' ρ) q ↔ Own σ ρ q) := by
  obtain ⟨p', vs, e1, e2, _⟩ := getL_addr S hi
  rw [hσ] at e1
  cases e1
  have hm : Same (hid F H σ ρ) (hid F (upd H p (.lst ws)) σ ρ) := fun b o hb => by
    obtain ⟨a, c, d⟩ := hid_old hb
    exact hid_some a (by rw [upd_ne (fun z => a (by rw [z]; exact e2))]; exact c) d
  obtain ⟨a, b, c⟩ := S.mut hi hσ (fun b o hb h => by rw [upd_ne hb]; exact h) upd_same hl (r.mono hm)
  exact ⟨a, c, b⟩
theorem ds_item {i : Nat} {o : Expr} {p2 : Pos} {f fi : Rho → Option (D × Rho)} (hv : PE X o (tVar i)) (he : DM X e f) (hb : DM X b fi)
    (ha : ∀ (v : Value), assign (.Subscript o b p2) X.env v = (do let ov ← holding [v] (eval o X.env); let iv ← holding [v, ov] (eval b X.env); standAt p2; holding [v, ov, iv] (setItem ov iv v); release [v, ov, iv] []) := by intro _; rfl)
    (h1 : swapsWithSole [.Subscript o b p2] e pos.line X.env = pure false := by rfl) (h2 : swappedStores [.Subscript o b p2] e X.env = pure none := by rfl) (h3 : (assignEach [.Subscript o b p2] X.env).map (·.2) = [assign (.Subscript o b p2) X.env] := by rfl) :
    DS X W (.Assign [.Subscript o b p2] e pos) (itemS i f fi) := by
  obtain ⟨t, p, r⟩ := he
  obtain ⟨tb, pb, rb⟩ := hb
  refine ⟨_, ps_asg p (pg_sub hv pb set_list ha) h1 h2 h3, fun F σ H ρ ρ' o E hk S hf q => ?_⟩
  unfold itemS at hf
  split at hf
  · rename_i d ρ1 hd
    split at hf
    · rename_i ys hys
      split at hf
      · rename_i k ρ2 hk2
        split at hf
        · rename_i xs hxs
          split at hf
          · rename_i j hj
            cases hf
            refine r F σ H ρ ρ1 d _ hk S hd fun v H1 S1 m1 r1 => ?_
            obtain ⟨p0, _, v1, _⟩ := getL_addr S1 hys
            refine ⟨_, v1, rb F σ H1 ρ1 ρ2 _ _ hk S1 hk2 fun u H2 S2 m2 r2 => ?_⟩
            obtain ⟨p1, vs, w1, w2, w3, w4, w5⟩ := getL_addr S2 hxs
            rw [v1] at w1
            cases w1
            refine ⟨p0, vs, k, j, rfl, r2.int_eq, w3, by rw [← w5.length]; exact hj, ?_⟩
            obtain ⟨S3, m3, _⟩ := mutv S2 hxs v1 (ws := vs.set j v) (by rw [List.length_set]; exact w4) (w5.set (by rw [hk]; exact r1.mono m2) j)
            exact q σ _ S3 ((m1.trans m2).trans m3)
          · cases hf
        · cases hf
      · cases hf
    · cases hf
  · cases hf
/-- xs.append(e) -/
def appS (i : Nat) (f : Rho → Option (D × Rho)) : Rho → Option (Fl × Rho) := fun ρ => match getL i ρ with
  | some _ => match f ρ with
    | some (d, ρ1) => match getL i ρ1 with
      | some xs => if xs.length < 16777216 then some (.nx, putL i (xs ++ [d]) ρ1) else none
      | none => none
    | none => none
  | none => none
theorem ds_append {i : Nat} {o : Expr} {apos cpos : Pos} {f : Rho → Option (D × Rho)} (hv : PE X o (tVar i)) (he : DM X e f)
    (h1 : attributeBase o "append" X.env (eval o X.env) = eval o X.env := by rfl)
    (h2 : ((backTo cpos (starEach (e :: []) X.env)).all (fun x => !x.1) && (backToKw cpos (keywordEach [] X.env)).all (fun x => x.1.isSome) && decide ((e :: []).length + ([] : List Keyword).length + (if ([] : List Keyword).isEmpty = true then 0 else 1) < 30)) = true := by rfl)
    (h3 : (apos.endLine == cpos.line) = true := by rfl) (h4 : starEach (e :: []) X.env = (false, eval e X.env) :: starEach [] X.env := by rfl) (h5 : (backTo cpos (starEach [] X.env)).any (·.1) = false := by rfl) (hs : swapsWith (.Call (.Attribute o "append" apos) [e] [] cpos) none pos.line X.env = pure false := by rfl) :
    DS X W (.Expr (.Call (.Attribute o "append" apos) [e] [] cpos) pos) (appS i f) := by
  obtain ⟨t, p, r⟩ := he
  refine ⟨_, ps_expr (pe_bm PySem.F.plainAttrs_list PySem.F.slot_list_append PySem.F.type_list_append mt_append hv (pa_cons p pa_nil h4) h1 h2 h3 h4 h5) hs, fun F σ H ρ ρ' o E hk S hf q => ?_⟩
  unfold appS at hf
  split at hf
  · rename_i ys hys
    split at hf
    · rename_i d ρ1 hd
      split at hf
      · rename_i xs hxs
        split at hf
        · rename_i hlt
          cases hf
          obtain ⟨p0, ws, v1, _, v2, _⟩ := getL_addr S hys
          refine ⟨_, v1, .inl ⟨rfl, ws, SqL.of v2⟩, r F σ H ρ ρ1 d _ hk S hd fun v H1 S1 m1 r1 => ?_⟩
          obtain ⟨p1, vs, w1, w2, w3, w4, w5⟩ := getL_addr S1 hxs
          rw [v1] at w1
          cases w1
          have hlen : vs.length < sizeLine := by rw [← w5.length, sizeLine_eq]; exact hlt
          refine ⟨p0, vs, v, rfl, rfl, w3, hlen, ?_⟩
          obtain ⟨S3, m3, _⟩ := mutv S1 hxs v1 (ws := vs ++ [v]) (by rw [List.length_append]; exact hlen) (w5.append (.cons (by rw [hk]; exact r1) .nil))
          exact q σ _ S3 (m1.trans m3)
        · cases hf
      · cases hf
    · cases hf
  · cases hf
/-- xs.pop(e) -/
def popK (i : Nat) (f : Rho → Option (D × Rho)) : Rho → Option (D × Rho) := fun ρ => match getL i ρ with
  | some _ => match f ρ with
    | some (.int k, ρ1) => match getL i ρ1 with
      | some xs => if decide (-(2 ^ 63) ≤ k ∧ k < 2 ^ 63) = true then match seqIndex? k xs.length with
          | some j => match xs[j]? with
            | some d => some (d, putL i (xs.eraseIdx j) ρ1)
            | none => none
          | none => none
        else none
      | none => none
    | _ => none
  | none => none
theorem dm_pop {i : Nat} {o : Expr} {apos cpos : Pos} {f : Rho → Option (D × Rho)} (hv : PE X o (tVar i)) (he : DM X e f)
    (h1 : attributeBase o "pop" X.env (eval o X.env) = eval o X.env := by rfl)
    (h2 : ((backTo cpos (starEach (e :: []) X.env)).all (fun x => !x.1) && (backToKw cpos (keywordEach [] X.env)).all (fun x => x.1.isSome) && decide ((e :: []).length + ([] : List Keyword).length + (if ([] : List Keyword).isEmpty = true then 0 else 1) < 30)) = true := by rfl)
    (h3 : (apos.endLine == cpos.line) = true := by rfl) (h4 : starEach (e :: []) X.env = (false, eval e X.env) :: starEach [] X.env := by rfl) (h5 : (backTo cpos (starEach [] X.env)).any (·.1) = false := by rfl) :
    DM X (.Call (.Attribute o "pop" apos) [e] [] cpos) (popK i f) := by
  obtain ⟨t, p, r⟩ := he
  refine ⟨_, pe_bm PySem.F.plainAttrs_list PySem.F.slot_list_pop PySem.F.type_list_pop mt_popAt hv (pa_cons p pa_nil h4) h1 h2 h3 h4 h5, fun F σ H ρ ρ' d Q hk S hf q => ?_⟩
  unfold popK at hf
  split at hf
  · rename_i ys hys
    split at hf
    · rename_i k ρ1 hd
      split at hf
      · rename_i xs hxs
        split at hf
        · rename_i hlt
          split at hf
          · rename_i j hj
            split at hf
            · rename_i d' hd'
              cases hf
              have hlt' := of_decide_eq_true hlt
              obtain ⟨p0, ws, v1, _, v2, _⟩ := getL_addr S hys
              refine ⟨_, v1, .inl ⟨rfl, ws, SqL.of v2⟩, r F σ H ρ ρ1 _ _ hk S hd fun v H1 S1 m1 r1 => ?_⟩
              obtain ⟨p1, vs, w1, w2, w3, w4, w5⟩ := getL_addr S1 hxs
              rw [v1] at w1
              cases w1
              obtain ⟨y, hy, ry⟩ := w5.get hd'
              refine ⟨p0, vs, k, j, y, rfl, by rw [r1.int_eq], w3, hlt'.1, hlt'.2, by rw [← w5.length]; exact hj, hy, ?_⟩
              obtain ⟨S3, m3, _⟩ := mutv S1 hxs v1 (ws := vs.eraseIdx j) (Nat.le_trans (List.length_eraseIdx_le _ _) w4) (w5.eraseIdx j)
              exact q y _ S3 (m1.trans m3) (by rw [← hk]; exact ry.mono m3)
            · cases hf
          · cases hf
        · cases hf
      · cases hf
    · cases hf
  · cases hf
end
end DL

-- DL14
/-! DL14: if, for, while, remove, a def's promise from its body. -/
namespace DL
open PySem PySem.Spec PyProof.Rows L2
section
variable {X : Cx} {W : Str → L2.St → Hp → Prop} {st : Stmt} {sts : List Stmt} {pos : Pos} {e a b c : Expr} {es : List Expr}
def ifS (c : Rho → Option (Bool × Rho)) (f g : Rho → Option (Fl × Rho)) : Rho → Option (Fl × Rho) := fun ρ => match c ρ with
  | some (true, ρ1) => f ρ1
  | some (false, ρ1) => g ρ1
  | none => none
theorem ds_if {A B : List Stmt} {ca : Rho → Option (Bool × Rho)} {f g : Rho → Option (Fl × Rho)} (h : DMT X c ca) (ha : DSs X W A f) (hb : DSs X W B g) : DS X W (.If c A B pos) (ifS ca f g) := by
  obtain ⟨t, p, r⟩ := h
  obtain ⟨ta, pa, ra⟩ := ha
  obtain ⟨tb, pb, rb⟩ := hb
  refine ⟨_, ps_if p pa pb, fun F σ H ρ ρ' o E hk S hf q => ?_⟩
  unfold ifS at hf
  split at hf
  · refine r F σ H ρ _ true _ hk S ‹_› fun H' S' m' => ?_
    rw [if_pos rfl]
    exact ra F σ H' _ ρ' o E hk S' hf (q.mono m')
  · refine r F σ H ρ _ false _ hk S ‹_› fun H' S' m' => ?_
    rw [if_neg Bool.false_ne_true]
    exact rb F σ H' _ ρ' o E hk S' hf (q.mono m')
  · cases hf

/-! ### for -/
/-- what a for walks; owned lists may change while it is made -/
def DIM (X : Cx) (tg iter : Expr) (f : Rho → Option (List D × Rho)) : Prop :=
  ∃ wi, PI X tg iter wi ∧ ∀ (F : Fm) (σ : L2.St) (H : Hp) (ρ ρ' : Rho) (ds : List D) (R : It → Hp → Prop), F.K = X.K → Sim F σ H ρ → f ρ = some (ds, ρ') →
    (∀ J H', Sim F σ H' ρ' → Same (hid F H σ ρ) (hid F H' σ ρ') → Src X.K J ds (hid F H' σ ρ') (hid F H' σ ρ') → R J H') → wi σ H R
theorem dim_di {tg iter : Expr} {f : Rho → Option (List D)} (h : DI X false tg iter f) : DIM X tg iter (pur f) := by
  obtain ⟨wi, p, r⟩ := h
  refine ⟨wi, p, fun F σ H ρ ρ' ds R hk S hf q => ?_⟩
  obtain ⟨h1, rfl⟩ := pur_some hf
  refine r F σ H ρ' ds R hk S h1 fun J H' e s => q J H' (S.ext e) (hid_mono e) ?_
  rw [see_false] at s
  exact s
def sqK (d : D) : Option (List D) := match d with
  | .sq _ xs => some xs
  | _ => none
theorem dim_seq {tg l : Expr} {f : Rho → Option (D × Rho)} (h : DM X l f) : DIM X tg l (mapM sqK f) := by
  obtain ⟨t, p, r⟩ := h
  refine ⟨_, pi_seq p, fun F σ H ρ ρ' ds R hk S hf q => ?_⟩
  obtain ⟨d, h1, h2⟩ := mapM_some hf
  unfold sqK at h2
  split at h2
  · cases h2
    refine r F σ H ρ ρ' _ _ hk S h1 fun v H1 S1 m1 q1 => ?_
    obtain ⟨a, vs, e, g1, g2, g3⟩ := q1.sq_eq
    exact ⟨_, a, vs, e, Sq.mono hid_sub g1, q _ H1 S1 m1 (src_seq (Same.refl _) g1 g2 g3)⟩
  · cases h2
def rgK (d : D) : Option (List D) := match d with
  | .int j => if rgOk 0 j = true then some (rgD 0 j) else none
  | _ => none
theorem dim_range1 {tg : Expr} {p : Pos} {f : Rho → Option (D × Rho)} (hg : Gl X "range") (hm : X.mg "range" = none) (ha : DM X a f) (hs : starEach [a] X.env = [(false, eval a X.env)] := by rfl) : DIM X tg (.Call (.Name "range" p) [a] [] pos) (mapM rgK f) := by
  obtain ⟨t, pa, r⟩ := ha
  refine ⟨_, pi_range1 hg hm (pa_cons pa pa_nil hs) hs, fun F σ H ρ ρ' ds R hk S hf q => ?_⟩
  obtain ⟨d, h1, h2⟩ := mapM_some hf
  unfold rgK at h2
  split at h2
  · rename_i j
    split at h2
    · rename_i hok
      cases h2
      have h2' := of_decide_eq_true hok
      refine r F σ H ρ ρ' _ _ hk S h1 fun v H' S' m' rr => ⟨j, by rw [rr.int_eq], by omega, by omega, q _ H' S' m' ?_⟩
      have := src_rng (K := X.K) (G := hid F H' σ ρ') (G2 := hid F H' σ ρ') 0 j (by rw [sizeLine_eq]; omega)
      rw [Int.sub_zero] at this
      exact this
    · cases h2
  · cases h2
def forGo (g : D → Rho → Option Rho) (fb : Rho → Option (Fl × Rho)) : Rho → List D → Option (Fl × Rho)
  | ρ, [] => some (.nx, ρ)
  | ρ, d :: ds => match g d ρ with
    | some ρ1 => match fb ρ1 with
      | some (.nx, ρ2) => forGo g fb ρ2 ds
      | some (.ct, ρ2) => forGo g fb ρ2 ds
      | some (.bk, ρ2) => some (.nx, ρ2)
      | some (o, ρ2) => some (o, ρ2)
      | none => none
    | none => none
def forS (fi : Rho → Option (List D × Rho)) (g : D → Rho → Option Rho) (fb : Rho → Option (Fl × Rho)) : Rho → Option (Fl × Rho) := fun ρ => match fi ρ with
  | some (ds, ρ1) => forGo g fb ρ1 ds
  | none => none
theorem ds_for {tg iter : Expr} {body : List Stmt} {is : List Nat} {fi : Rho → Option (List D × Rho)} {g : D → Rho → Option Rho} {fb : Rho → Option (Fl × Rho)} (ok : Okx X) (hp : PassesOwn (model X.prog X.w) X.A X.env X.xe) (hi : DIM X tg iter fi) (hg : DG X is tg g) (hb : DSs X W body fb)
    (hs : ∀ x, foldedSetIterable iter X.env x = pure x := by intro _; rfl) : DS X W (.For tg iter body [] pos) (forS fi g fb) := by
  obtain ⟨wi, pi, ri⟩ := hi
  obtain ⟨⟨tgt, pg, rg⟩, _⟩ := hg
  obtain ⟨tb, pb, rb⟩ := hb
  refine ⟨_, ps_for hp ok.calm pi pg pb hs, fun F σ H ρ ρ' o E hk S hf q => ?_⟩
  unfold forS at hf
  split at hf
  · rename_i ds ρ1 hds
    refine ri F σ H ρ ρ1 ds _ hk S hds fun J H1 S1 m1 src => ?_
    refine ⟨fun i mm σ' H' => mm = ds.length - i ∧ i ≤ ds.length ∧ ∃ ρ2, Sim F σ' H' ρ2 ∧ Same (hid F H1 σ ρ1) (hid F H' σ' ρ2) ∧ forGo g fb ρ2 (ds.drop i) = some (o, ρ'),
      ⟨ds.length, by simp, Nat.zero_le _, ρ1, S1, Same.refl _, by rw [List.drop_zero]; exact hf⟩, ?_⟩
    rintro i mm σ2 H2 ⟨rfl, hi, ρ2, S2, m2, hgo⟩
    have eG : Same (hid F H1 σ ρ1) H2 := m2.trans hid_sub
    by_cases hlt : i < ds.length
    · have step : ∀ d, ds[i]? = some d → ds.drop i = d :: ds.drop (i + 1) := fun d hd => by
        rw [List.drop_eq_getElem_cons hlt]
        congr 1
        rw [List.getElem?_eq_getElem hlt] at hd
        exact Option.some.inj hd
      refine .inr ⟨src.go i H2 hlt eG, fun σ3 H3 => i + 1 ≤ ds.length ∧ ∃ ρ3, Sim F σ3 H3 ρ3 ∧ Same (hid F H1 σ ρ1) (hid F H3 σ3 ρ3) ∧ forGo g fb ρ3 (ds.drop (i + 1)) = some (o, ρ'), fun σ3 H3 ⟨a1, a2⟩ => ⟨ds.length - (i + 1), by omega, rfl, a1, a2⟩, fun x H3 y => ?_⟩
      obtain ⟨d, hd, e3, hx⟩ := src.yld i H2 x H3 hlt eG y
      have S3 := S2.ext e3
      rw [step d hd, forGo] at hgo
      split at hgo
      · rename_i ρ3 hρ3
        have hx' : Rep X.K (hid F H3 σ2 ρ2) d x := hx.mono fun b o hb => by
          obtain ⟨b1, b2⟩ := vis_old hb
          by_cases hz : H2 b = none
          · obtain ⟨f1, f2⟩ := S2.fresh hz
            exact hid_some f1 b1 fun z => (z f2).elim
          · obtain ⟨u, hu⟩ := Option.ne_none_iff_exists'.mp (b2 hz)
            obtain ⟨c1, _, c3⟩ := hid_old (m2 _ _ hu)
            exact hid_some c1 b1 c3
        refine rg F σ2 H3 ρ2 ρ3 d x _ hk S3 hx' hρ3 fun σ4 S4 m4 _ _ => ?_
        have mm4 : Same (hid F H1 σ ρ1) (hid F H3 σ4 ρ3) := (m2.trans (hid_mono e3)).trans m4
        have mq : Same (hid F H σ ρ) (hid F H3 σ4 ρ3) := m1.trans mm4
        split at hgo
        · rename_i ρ4 h4
          exact rb F σ4 H3 ρ3 ρ4 .nx _ hk S4 h4 fun σ5 H5 S5 m5 => ⟨hlt, ρ4, S5, mm4.trans m5, hgo⟩
        · rename_i ρ4 h4
          exact rb F σ4 H3 ρ3 ρ4 .ct _ hk S4 h4 fun σ5 H5 S5 m5 => ⟨hlt, ρ4, S5, mm4.trans m5, hgo⟩
        · rename_i ρ4 h4
          cases hgo
          exact rb F σ4 H3 ρ3 ρ' .bk _ hk S4 h4 fun σ5 H5 S5 m5 => q σ5 H5 S5 (mq.trans m5)
        · rename_i o' ρ4 n1 n2 n3 h4
          cases hgo
          refine rb F σ4 H3 ρ3 ρ' _ _ hk S4 h4 ?_
          cases o with
          | nx => exact (n1 rfl).elim
          | ct => exact (n2 rfl).elim
          | bk => exact (n3 rfl).elim
          | rt r => exact fun v σ5 H5 g => q v σ5 H5 (g.mono mq)
          | er c => exact fun σ5 H5 S5 m5 => q σ5 H5 S5 (mq.trans m5)
        · cases hgo
      · cases hgo
    · have hie : i = ds.length := by omega
      subst hie
      rw [List.drop_length, forGo] at hgo
      cases hgo
      exact .inl ⟨src.stop H2 eG, q σ2 H2 S2 (m1.trans m2)⟩
  · cases hf

/-! ### while -/
def whGo (c : Rho → Option (Bool × Rho)) (fb : Rho → Option (Fl × Rho)) : Nat → Rho → Option (Fl × Rho)
  | 0, _ => none
  | n + 1, ρ => match c ρ with
    | some (true, ρ1) => match fb ρ1 with
      | some (.nx, ρ2) => whGo c fb n ρ2
      | some (.ct, ρ2) => whGo c fb n ρ2
      | some (.bk, ρ2) => some (.nx, ρ2)
      | some (o, ρ2) => some (o, ρ2)
      | none => none
    | some (false, ρ1) => some (.nx, ρ1)
    | none => none
/-- fu: turns enough -/
def whS (fu : Rho → Nat) (c : Rho → Option (Bool × Rho)) (fb : Rho → Option (Fl × Rho)) : Rho → Option (Fl × Rho) := fun ρ => whGo c fb (fu ρ) ρ
theorem ds_while {body : List Stmt} {ca : Rho → Option (Bool × Rho)} {fb : Rho → Option (Fl × Rho)} (fu : Rho → Nat) (hp : PassesOwn (model X.prog X.w) X.A X.env X.xe) (hc : DMT X c ca) (hb : DSs X W body fb) : DS X W (.While c body [] pos) (whS fu ca fb) := by
  obtain ⟨tc, pc, rc⟩ := hc
  obtain ⟨tb, pb, rb⟩ := hb
  refine ⟨_, ps_while hp pc pb, fun F σ H ρ ρ' o E hk S hf q => ?_⟩
  unfold whS at hf
  refine ⟨fun n σ' H' => ∃ ρ2, Sim F σ' H' ρ2 ∧ Same (hid F H σ ρ) (hid F H' σ' ρ2) ∧ whGo ca fb n ρ2 = some (o, ρ'), ⟨fu ρ, ρ, S, Same.refl _, hf⟩, ?_⟩
  rintro n σ2 H2 ⟨ρ2, S2, m2, hgo⟩
  cases n with
  | zero => rw [whGo] at hgo; cases hgo
  | succ n =>
    rw [whGo] at hgo
    split at hgo
    · rename_i ρ3 h3
      refine rc F σ2 H2 ρ2 ρ3 true _ hk S2 h3 fun H3 S3 m3 => ?_
      rw [if_pos rfl]
      have mq := m2.trans m3
      refine ⟨fun σ4 H4 => ∃ ρ4, Sim F σ4 H4 ρ4 ∧ Same (hid F H σ ρ) (hid F H4 σ4 ρ4) ∧ whGo ca fb n ρ4 = some (o, ρ'), fun σ4 H4 h => ⟨n, by omega, h⟩, ?_⟩
      split at hgo
      · rename_i ρ4 h4
        exact rb F σ2 H3 ρ3 ρ4 .nx _ hk S3 h4 fun σ5 H5 S5 m5 => ⟨ρ4, S5, mq.trans m5, hgo⟩
      · rename_i ρ4 h4
        exact rb F σ2 H3 ρ3 ρ4 .ct _ hk S3 h4 fun σ5 H5 S5 m5 => ⟨ρ4, S5, mq.trans m5, hgo⟩
      · rename_i ρ4 h4
        cases hgo
        exact rb F σ2 H3 ρ3 ρ' .bk _ hk S3 h4 fun σ5 H5 S5 m5 => q σ5 H5 S5 (mq.trans m5)
      · rename_i o' ρ4 n1 n2 n3 h4
        cases hgo
        refine rb F σ2 H3 ρ3 ρ' _ _ hk S3 h4 ?_
        cases o with
        | nx => exact (n1 rfl).elim
        | ct => exact (n2 rfl).elim
        | bk => exact (n3 rfl).elim
        | rt r => exact fun v σ5 H5 g => q v σ5 H5 (g.mono mq)
        | er c => exact fun σ5 H5 S5 m5 => q σ5 H5 S5 (mq.trans m5)
      · cases hgo
    · rename_i ρ3 h3
      cases hgo
      refine rc F σ2 H2 ρ2 _ false _ hk S2 h3 fun H3 S3 m3 => ?_
      rw [if_neg Bool.false_ne_true]
      exact q σ2 H3 S3 (m2.trans m3)
    · cases hgo

/-! ### remove -/
def intsO : List D → Option (List Int)
  | [] => some []
  | .int i :: ds => match intsO ds with
    | some ns => some (i :: ns)
    | none => none
  | _ => none
theorem intsO_rep {K : PySem.W.Frag} {G : Hp} : ∀ {ds : List D} {ns : List Int} {vs : List V}, intsO ds = some ns → Reps K G ds vs → vs = ns.map V.int ∧ ds = ns.map D.int
  | [], ns, vs, h, r => by
    cases h
    rw [Reps] at r
    exact ⟨r, rfl⟩
  | d :: ds, ns, vs, h, r => by
    rw [Reps] at r
    obtain ⟨v, q, e, r1, r2⟩ := r
    cases d with
    | int i =>
      rw [intsO] at h
      split at h
      · cases h
        obtain ⟨h1, h2⟩ := intsO_rep ‹_› r2
        rw [Rep] at r1
        subst r1
        exact ⟨by rw [e, h1]; rfl, by rw [h2]; rfl⟩
      · cases h
    | _ => cases h
def firstIx (k : Int) : List Int → Option Nat
  | [] => none
  | n :: ns => if n = k then some 0 else match firstIx k ns with
    | some j => some (j + 1)
    | none => none
theorem firstIx_ok {k : Int} : ∀ {ns : List Int} {j : Nat}, firstIx k ns = some j → ns[j]? = some k ∧ ∀ m : Nat, m < j → ns[m]? ≠ some k
  | [], j, h => by cases h
  | n :: ns, j, h => by
    rw [firstIx] at h
    split at h
    · cases h
      rename_i e
      subst e
      exact ⟨by simp, fun m hm => by omega⟩
    · rename_i hne
      split at h
      · rename_i j' hj'
        cases h
        obtain ⟨h1, h2⟩ := firstIx_ok hj'
        refine ⟨by simpa using h1, fun m hm => ?_⟩
        cases m with
        | zero => simpa using hne
        | succ m =>
          have := h2 m (by omega)
          simpa using this
      · cases h
theorem eraseIdx_map' {α β : Type} (f : α → β) : ∀ (xs : List α) (j : Nat), (xs.eraseIdx j).map f = (xs.map f).eraseIdx j
  | [], j => by simp
  | x :: xs, 0 => by simp
  | x :: xs, j + 1 => by simp [eraseIdx_map' f xs j]
/-- xs.remove(e), ints -/
def remS (i : Nat) (f : Rho → Option (D × Rho)) : Rho → Option (Fl × Rho) := fun ρ => match getL i ρ with
  | some _ => match f ρ with
    | some (.int k, ρ1) => match getL i ρ1 with
      | some xs => match intsO xs with
        | some ns => match firstIx k ns with
          | some j => some (.nx, putL i (xs.eraseIdx j) ρ1)
          | none => none
        | none => none
      | none => none
    | _ => none
  | none => none
theorem ds_remove {i : Nat} {o : Expr} {apos cpos : Pos} {f : Rho → Option (D × Rho)} (hv : PE X o (tVar i)) (he : DM X e f)
    (h1 : attributeBase o "remove" X.env (eval o X.env) = eval o X.env := by rfl)
    (h2 : ((backTo cpos (starEach (e :: []) X.env)).all (fun x => !x.1) && (backToKw cpos (keywordEach [] X.env)).all (fun x => x.1.isSome) && decide ((e :: []).length + ([] : List Keyword).length + (if ([] : List Keyword).isEmpty = true then 0 else 1) < 30)) = true := by rfl)
    (h3 : (apos.endLine == cpos.line) = true := by rfl) (h4 : starEach (e :: []) X.env = (false, eval e X.env) :: starEach [] X.env := by rfl) (h5 : (backTo cpos (starEach [] X.env)).any (·.1) = false := by rfl) (hs : swapsWith (.Call (.Attribute o "remove" apos) [e] [] cpos) none pos.line X.env = pure false := by rfl) :
    DS X W (.Expr (.Call (.Attribute o "remove" apos) [e] [] cpos) pos) (remS i f) := by
  obtain ⟨t, p, r⟩ := he
  refine ⟨_, ps_expr (pe_bm PySem.F.plainAttrs_list PySem.F.slot_list_remove PySem.F.type_list_remove mt_remove hv (pa_cons p pa_nil h4) h1 h2 h3 h4 h5) hs, fun F σ H ρ ρ' o E hk S hf q => ?_⟩
  unfold remS at hf
  split at hf
  · rename_i ys hys
    split at hf
    · rename_i k ρ1 hd
      split at hf
      · rename_i xs hxs
        split at hf
        · rename_i ns hns
          split at hf
          · rename_i j hj
            cases hf
            obtain ⟨p0, ws, v1, _, v2, _⟩ := getL_addr S hys
            refine ⟨_, v1, .inl ⟨rfl, ws, SqL.of v2⟩, r F σ H ρ ρ1 _ _ hk S hd fun v H1 S1 m1 r1 => ?_⟩
            obtain ⟨p1, vs, w1, w2, w3, w4, w5⟩ := getL_addr S1 hxs
            rw [v1] at w1
            cases w1
            obtain ⟨g1, g2⟩ := intsO_rep hns w5
            obtain ⟨j1, j2⟩ := firstIx_ok hj
            refine ⟨p0, ns, k, j, rfl, by rw [r1.int_eq], by rw [← g1]; exact w3, j1, j2, ?_⟩
            have e1 : (ns.eraseIdx j).map V.int = vs.eraseIdx j := by
              rw [g1]
              exact eraseIdx_map' _ _ _
            rw [e1]
            obtain ⟨S3, m3, _⟩ := mutv S1 hxs v1 (ws := vs.eraseIdx j) (Nat.le_trans (List.length_eraseIdx_le _ _) w4) (w5.eraseIdx j)
            exact q σ _ S3 (m1.trans m3)
          · cases hf
        · cases hf
      · cases hf
    · cases hf
  · cases hf
end

/-! ### a def -/
def start0 (as : List D) (n : Nat) : Rho := as.map .va ++ List.replicate (n - as.length) .un
def body0 (f : Rho → Option (Fl × Rho)) (ρ : Rho) : Option (Res × Rho) := match f ρ with
  | some (.rt r, ρ') => some (r, ρ')
  | some (.nx, ρ') => some (.val .non, ρ')
  | _ => none
/-- what a def that changes nothing gives: np parameters, n slots -/
def gG (np n : Nat) (f : Rho → Option (Fl × Rho)) (as : List D) : Option Res := if as.length = np then match body0 f (start0 as n) with
    | some (r, _) => some r
    | none => none
  else none
def ioOf (ρ : Rho) : Option (List D) := match ρ[(0 : Nat)]? with
  | some (.io xs) => some xs
  | _ => none
def gI (np n : Nat) (f : Rho → Option (Fl × Rho)) (xs as : List D) : Option (Res × List D) := if as.length + 1 = np then match body0 f (.io xs :: start0 as (n - 1)) with
    | some (r, ρ') => match ioOf ρ' with
      | some xs' => some (r, xs')
      | none => none
    | none => none
  else none
theorem Reps.nth {K : PySem.W.Frag} {G : Hp} {as : List D} {vs : List V} (r : Reps K G as vs) {i : Nat} {d : D} (h : as[i]? = some d) : ∃ v, vs[i]? = some v ∧ Rep K G d v := r.get h
theorem no_own {σ : L2.St} {as : List D} {n : Nat} {p : Addr} : ¬ Own σ (start0 as n) p := by
  rintro ⟨i, xs, _, h⟩
  unfold start0 at h
  have key : ∀ s, (as.map Sl.va ++ List.replicate (n - as.length) Sl.un)[i]? = some s → plainS s = true := by
    intro s hs
    rcases Nat.lt_or_ge i (as.map Sl.va).length with hl | hl
    · rw [List.getElem?_append_left hl, List.getElem?_map] at hs
      cases z : as[i]? with
      | none => rw [z] at hs; cases hs
      | some d => rw [z] at hs; cases hs; rfl
    · rw [List.getElem?_append_right hl, List.getElem?_replicate] at hs
      split at hs
      · cases hs; rfl
      · cases hs
  rcases h with h | h
  · have := key _ h
    cases this
  · have := key _ h
    cases this
theorem start0_get {as : List D} {n i : Nat} {s : Sl} (h : (start0 as n)[i]? = some s) (hs : s ≠ .un) : ∃ d, as[i]? = some d ∧ s = .va d := by
  unfold start0 at h
  rcases Nat.lt_or_ge i (as.map Sl.va).length with hl | hl
  · rw [List.getElem?_append_left hl, List.getElem?_map] at h
    cases z : as[i]? with
    | none => rw [z] at h; cases h
    | some d => rw [z] at h; cases h; exact ⟨d, rfl, rfl⟩
  · rw [List.getElem?_append_right hl, List.getElem?_replicate] at h
    split at h
    · cases h
      exact (hs rfl).elim
    · cases h
theorem start_get {N : List Str} {vs : List V} {i : Nat} {v : V} (h : vs[i]? = some v) : (L2.start N vs)[i]? = some (some v) := by
  unfold L2.start
  rw [List.getElem?_append_left (by rw [List.length_map]; exact (List.getElem?_eq_some_iff.mp h).1), List.getElem?_map, h]
  rfl
theorem start_sim {K : PySem.W.Frag} {H G : Hp} {as : List D} {vs : List V} {N : List Str} (g : Same G H) (r : Reps K G as vs) (hn : vs.length ≤ N.length) : Sim ⟨K, H, G, none⟩ (L2.start N vs) H (start0 as N.length) := by
  have hh : Same G (hid ⟨K, H, G, none⟩ H (L2.start N vs) (start0 as N.length)) := fun b o hb => hid_some no_own (g _ _ hb) fun _ => by show G b ≠ none; rw [hb]; exact fun z => nomatch z
  refine ⟨?_, fun i d h => ?_, fun i xs h => ?_, fun i xs h => ?_, fun i j p xs ys h => ?_, fun p h => (nomatch h), fun b o h _ => h, g⟩
  · unfold start0 L2.start
    rw [List.length_append, List.length_append, List.length_map, List.length_map, List.length_replicate, List.length_replicate, r.length]
  · obtain ⟨d', h1, h2⟩ := start0_get h (fun z => nomatch z)
    cases h2
    obtain ⟨v, e1, e2⟩ := r.get h1
    exact ⟨v, start_get e1, e2.mono hh⟩
  · obtain ⟨d', h1, h2⟩ := start0_get h (fun z => nomatch z)
    cases h2
  · obtain ⟨d', h1, h2⟩ := start0_get h (fun z => nomatch z)
    cases h2
  · obtain ⟨d', h1, h2⟩ := start0_get h (fun z => nomatch z)
    cases h2
theorem left_of {K : PySem.W.Frag} {H G : Hp} {G0 : Hp} {r : Res} {v : V} {σ : L2.St} {H' : Hp} {ρ : Rho} {io : Option Addr} (g : Got K ⟨K, H, G, io⟩ G0 r v σ H' ρ) : Left K (vis G H H') H r v H' := by
  have hv : Same (hid ⟨K, H, G, io⟩ H' σ ρ) (vis G H H') := fun b o hb => by
    obtain ⟨a, c, d⟩ := hid_old hb
    exact vis_some c d
  cases r with
  | val d => exact g.2.2.mono hv
  | frs xs =>
    obtain ⟨p, rfl, ws, S, h1, h2, h3, h4, h5, h6, h7, h8⟩ := g
    refine ⟨p, ws, rfl, h2, h1, h6, h7.mono fun b o hb => ?_⟩
    obtain ⟨n, hb'⟩ := hide_hid h3 hb
    exact del_some (hv _ _ hb') n
section
variable {P : Program} {w : World} {K : PySem.W.Frag} {mg : Str → Option Value} {base : Heap} {x qual : Str} {st : Stmt} {f : Addr} {fd : FuncData} {N ps : List Str} {k : Nat}
/-- the context of a def's body -/
abbrev bodyX (P : Program) (w : World) (K : PySem.W.Frag) (mg : Str → Option Value) (base : Heap) (N : List Str) (qual : Str) (st : Stmt) (f : Addr) (cdv : Value) (A : Around) (outer : List Env) (s : Shared) (H : Hp) (E : XK) : Cx := (cxOf CX0 P w K mg base N qual (defScope st) f cdv A outer s H E).nox
theorem fn_g (F : Fun K x qual st f fd) (sc : FnScope N ps (defScope st)) (hps : ps.length ≤ N.length) {fb : Rho → Option (Fl × Rho)}
    (hb : ∀ (cdv : Value) (A : Around) (outer : List Env) (s : Shared) (H : Hp) (E : XK), Room k (A.deeper (envOfC qual (defScope st) s.heap.objs.size f cdv)) → DSs (bodyX P w K mg base N qual st f cdv A outer s H E) (fun _ _ _ => False) (defBody st) fb) :
    FnOk P w K mg base CX0 (k + 1) f fd ps (spG K (gG ps.length N.length fb)) := by
  refine F.ok sc (fun vs H Q E h => ?_) (fun cdv A outer s H vs Q E hr h => ?_)
  · obtain ⟨G, as, r, g, rr, hg, _⟩ := h
    unfold gG at hg
    split at hg
    · rw [← rr.length]
      assumption
    · cases hg
  · obtain ⟨G, as, r, g, rr, hg, q⟩ := h
    obtain ⟨t, p, run⟩ := hb cdv A outer s H E hr
    refine ⟨t, p, ?_⟩
    unfold gG at hg
    split at hg
    · rename_i hlen
      split at hg
      · rename_i r' ρ' hbody
        cases hg
        have S := start_sim (N := N) g rr (by rw [← rr.length, hlen]; exact hps)
        unfold body0 at hbody
        split at hbody
        · rename_i r2 ρ2 hrun
          cases hbody
          refine run ⟨K, H, G, none⟩ _ H _ ρ' _ _ rfl S hrun fun v σ' H' got => q v H' ?_ (left_of got)
          have S' := (got.sim rfl).1
          exact fun b o hb => S'.base b o hb (fun z => nomatch z)
        · rename_i ρ2 hrun
          cases hbody
          refine run ⟨K, H, G, none⟩ _ H _ ρ' _ _ rfl S hrun fun σ' H' S' m => q _ H' ?_ ?_
          · exact fun b o hb => S'.base b o hb (fun z => nomatch z)
          · show Rep _ _ _ _
            rw [Rep]
        · cases hbody
      · cases hg
    · cases hg
end
end DL

-- DL15
/-! DL15: a def that is lent a list; more. -/
namespace DL
open PySem PySem.Spec PyProof.Rows L2
theorem own_io {σ : L2.St} {xs as : List D} {n : Nat} {p q : Addr} (h : Own (some (.ref p) :: σ) (.io xs :: start0 as n) q) : q = p := by
  obtain ⟨i, ys, a, h⟩ := h
  cases i with
  | zero =>
    rw [List.getElem?_cons_zero] at a
    cases a
    rfl
  | succ i =>
    rw [List.getElem?_cons_succ] at a h
    exact (no_own ⟨i, ys, a, h⟩).elim
theorem start_simI {K : PySem.W.Frag} {H G : Hp} {xs as : List D} {us ws : List V} {p : Addr} {N : List Str} (g : Same G H) (hp : H p = some (.lst ws)) (hl : ws.length ≤ sizeLine) (hG : G p = none) (rx : Reps K G xs ws) (r : Reps K G as us) (hn : us.length + 1 ≤ N.length) :
    Sim ⟨K, H, G, some p⟩ (L2.start N (.ref p :: us)) H (.io xs :: start0 as (N.length - 1)) := by
  have hst : L2.start N (.ref p :: us) = some (.ref p) :: (us.map some ++ List.replicate (N.length - (us.length + 1)) none) := by
    unfold L2.start
    rfl
  have hh : Same G (hid ⟨K, H, G, some p⟩ H (L2.start N (.ref p :: us)) (.io xs :: start0 as (N.length - 1))) := fun b o hb => by
    refine hid_some (fun z => ?_) (g _ _ hb) fun _ => by show G b ≠ none; rw [hb]; exact fun z => nomatch z
    rw [hst] at z
    rw [own_io z, hG] at hb
    cases hb
  refine ⟨?_, fun i d h => ?_, fun i ys h => ?_, fun i ys h => ?_, fun i j q ys zs h => ?_, fun q h => ?_, fun b o h _ => h, g⟩
  · rw [hst]
    unfold start0
    simp [r.length]
    omega
  · cases i with
    | zero => rw [List.getElem?_cons_zero] at h; cases h
    | succ i =>
      rw [List.getElem?_cons_succ] at h
      obtain ⟨d', h1, h2⟩ := start0_get h (fun z => nomatch z)
      cases h2
      obtain ⟨v, e1, e2⟩ := r.get h1
      exact ⟨v, start_get (by rw [List.getElem?_cons_succ]; exact e1), e2.mono hh⟩
  · cases i with
    | zero => rw [List.getElem?_cons_zero] at h; cases h
    | succ i =>
      rw [List.getElem?_cons_succ] at h
      obtain ⟨d', h1, h2⟩ := start0_get h (fun z => nomatch z)
      cases h2
  · cases i with
    | zero =>
      rw [List.getElem?_cons_zero] at h
      cases h
      exact ⟨rfl, p, ws, rfl, start_get rfl, hp, hl, rx.mono hh⟩
    | succ i =>
      rw [List.getElem?_cons_succ] at h
      obtain ⟨d', h1, h2⟩ := start0_get h (fun z => nomatch z)
      cases h2
  · cases i with
    | zero => rw [List.getElem?_cons_zero] at h; cases h
    | succ i =>
      rw [List.getElem?_cons_succ] at h
      obtain ⟨d', h1, h2⟩ := start0_get h (fun z => nomatch z)
      cases h2
  · cases h
    exact ⟨(by show H p ≠ none; rw [hp]; exact fun z => nomatch z), hG, xs, rfl⟩
theorem ioOf_some {ρ : Rho} {xs : List D} (h : ioOf ρ = some xs) : ρ[0]? = some (.io xs) := by
  unfold ioOf at h
  split at h
  · cases h
    assumption
  · cases h
theorem leftI_of {K : PySem.W.Frag} {H G : Hp} {G0 : Hp} {r : Res} {v : V} {σ : L2.St} {H' : Hp} {ρ : Rho} {p : Addr} {xs' : List D} (g : Got K ⟨K, H, G, some p⟩ G0 r v σ H' ρ) (hx : ioOf ρ = some xs') :
    ∃ ws', (∀ b o, b ≠ p → H b = some o → H' b = some o) ∧ H' p = some (.lst ws') ∧ ws'.length ≤ sizeLine ∧ LeftI K (vis G H H') H r v H' xs' ws' := by
  have hv : Same (hid ⟨K, H, G, some p⟩ H' σ ρ) (vis G H H') := fun b o hb => by
    obtain ⟨a, c, d⟩ := hid_old hb
    exact vis_some c d
  have S := (g.sim rfl).1
  have hx' := ioOf_some hx
  obtain ⟨_, p', ws', e1, e2, e3, e4, e5⟩ := S.io 0 xs' hx'
  cases e1
  refine ⟨ws', fun b o hb h => S.base b o h (fun z => hb (by cases z; rfl)), e3, e4, ?_⟩
  cases r with
  | val d => exact ⟨e5.mono hv, g.2.2.mono hv⟩
  | frs xs =>
    obtain ⟨q, rfl, ws, S2, h1, h2, h3, h4, h5, h6, h7, h8⟩ := g
    have hd : ∀ b o, hid (Fm.hide ⟨K, H, G, some p⟩ q (.lst ws)) H' σ ρ b = some o → del q (vis G H H') b = some o := fun b o hb => by
      obtain ⟨n, hb'⟩ := hide_hid h3 hb
      exact del_some (hv _ _ hb') n
    obtain ⟨_, p2, ws2, a1, a2, a3, a4, a5⟩ := S2.io 0 xs' hx'
    cases a1
    rw [e3] at a3
    cases a3
    exact ⟨q, ws, rfl, h2, h1, h6, a5.mono hd, h7.mono hd⟩
section
variable {P : Program} {w : World} {K : PySem.W.Frag} {mg : Str → Option Value} {base : Heap} {x qual : Str} {st : Stmt} {f : Addr} {fd : FuncData} {N ps : List Str} {k : Nat}
theorem fn_i (F : Fun K x qual st f fd) (sc : FnScope N ps (defScope st)) (hps : ps.length ≤ N.length) {fb : Rho → Option (Fl × Rho)}
    (hb : ∀ (cdv : Value) (A : Around) (outer : List Env) (s : Shared) (H : Hp) (E : XK), Room k (A.deeper (envOfC qual (defScope st) s.heap.objs.size f cdv)) → DSs (bodyX P w K mg base N qual st f cdv A outer s H E) (fun _ _ _ => False) (defBody st) fb) :
    FnOk P w K mg base CX0 (k + 1) f fd ps (spI K (gI ps.length N.length fb)) := by
  refine F.ok sc (fun vs H Q E h => ?_) (fun cdv A outer s H vs Q E hr h => ?_)
  · obtain ⟨G, p, us, ws, xs, as, xs', r, rfl, _, _, _, _, _, r2, hg, _⟩ := h
    unfold gI at hg
    split at hg
    · rw [List.length_cons, ← r2.length]
      assumption
    · cases hg
  · obtain ⟨G, p, us, ws, xs, as, xs', r, rfl, h1, h2, h3, h4, h5, r2, hg, q⟩ := h
    obtain ⟨t, pt, run⟩ := hb cdv A outer s H E hr
    refine ⟨t, pt, ?_⟩
    unfold gI at hg
    split at hg
    · rename_i hlen
      split at hg
      · rename_i r' ρ' hbody
        split at hg
        · rename_i ys hys
          cases hg
          have S := start_simI (N := N) h4 h1 h2 h3 h5 r2 (by rw [← r2.length, hlen]; exact hps)
          unfold body0 at hbody
          split at hbody
          · rename_i r2 ρ2 hrun
            cases hbody
            refine run ⟨K, H, G, some p⟩ _ H _ ρ' _ _ rfl S hrun fun v σ' H' got => ?_
            obtain ⟨ws', g1, g2, g3, g4⟩ := leftI_of got hys
            exact q v H' ws' g1 g2 g3 g4
          · rename_i ρ2 hrun
            cases hbody
            refine run ⟨K, H, G, some p⟩ _ H _ ρ' _ _ rfl S hrun fun σ' H' S' m => ?_
            obtain ⟨ws', g1, g2, g3, g4⟩ := leftI_of (r := .val .non) (v := .non) (K := K) ⟨S', m, by rw [Rep]⟩ hys
            exact q _ H' ws' g1 g2 g3 g4
          · cases hbody
        · cases hg
      · cases hg
    · cases hg
theorem FnOk.zero {sp : Sp} (hl : ∀ (vs : List V) (H : Hp) (Q : VK) (E : XK), ¬ sp vs H Q E) : FnOk P w K mg base CX0 k f fd ps sp where
  len := fun vs H Q E h => (hl vs H Q E h).elim
  run := fun A outer s H args us vs Q E _ _ _ _ h => (hl vs H Q E h).elim
def noG : List D → Option Res := fun _ => none
theorem fn_none : FnOk P w K mg base CX0 k f fd ps (spG K noG) := FnOk.zero fun vs H Q E ⟨_, _, _, _, _, h, _⟩ => by cases h
end
/-- x += e -/
def augI (x y : D) : Option D := match x, y with
  | .int i, .int j => some (.int (i + j))
  | _, _ => none
def augSt (i : Nat) (f : Rho → Option (D × Rho)) : Rho → Option (Fl × Rho) := fun ρ => match getV i ρ with
  | some x => match f ρ with
    | some (y, ρ1) => match augI x y with
      | some z => match putK i (.val z) ρ1 with
        | some ρ2 => some (.nx, ρ2)
        | none => none
      | none => none
    | none => none
  | none => none
section
variable {X : Cx} {W : Str → L2.St → Hp → Prop} {pos : Pos} {e : Expr}
theorem ds_aug {i : Nat} {x : Str} {pos' : Pos} {f : Rho → Option (D × Rho)} (hN : X.N.Nodup) (hi : X.N[i]? = some x) (hl : L2.Loc X.env.scope x) (h : DM X e f)
    (hn : X.fn x = true ∨ X.env.scope.names.lookup x = some .local := by first | exact .inl rfl | exact .inr rfl) : DS X W (.AugAssign (.Name x pos') .Add e pos) (augSt i f) := by
  obtain ⟨t, p, r⟩ := h
  refine ⟨_, ps_aug hN hi hl p ip_add hn, fun F σ H ρ ρ' o E hk S hf q => ?_⟩
  unfold augSt at hf
  split at hf
  · rename_i x hx
    split at hf
    · rename_i y ρ1 hy
      split at hf
      · rename_i z hz
        split at hf
        · rename_i ρ2 hρ
          cases hf
          obtain ⟨i1, i2, rfl, rfl, rfl⟩ : ∃ i1 i2, x = .int i1 ∧ y = .int i2 ∧ z = .int (i1 + i2) := by
            unfold augI at hz
            split at hz
            · cases hz
              exact ⟨_, _, rfl, rfl, rfl⟩
            · cases hz
          · unfold getV at hx
            split at hx
            · rename_i d hd
              cases hx
              obtain ⟨v, e1, e2⟩ := S.va i _ hd
              rw [Rep] at e2
              subst e2
              refine ⟨_, e1, r F σ H ρ ρ1 _ _ hk S hy fun u H1 S1 m1 r1 => ?_⟩
              refine ⟨i1, i2, rfl, r1.int_eq, ?_⟩
              obtain ⟨S2, m2⟩ := Got.put (r := .val (.int (i1 + i2))) (v := .int (i1 + i2)) (K := X.K) hk ⟨S1, m1, rep_int⟩ hρ
              exact q _ H1 S2 m2
            · cases hx
        · cases hf
      · cases hf
    · cases hf
  · cases hf
end
end DL

-- DL16
/-! DL16: constants of the module, new lists by or, a comprehension's value, defs by the head's facts. -/
namespace DL
open PySem PySem.Spec PyProof.Rows L2
section
variable {X : Cx} {W : Str → L2.St → Hp → Prop} {m : Bool} {e a b : Expr} {es rest : List Expr} {pos : Pos}
theorem dp_globI {x : Str} {n : Int} (hg : Gl X x) (hm : ∃ t, X.mg x = some (.int n t)) (hdb : (x == ("__debug__" : Str)) = false := by decide) : DP X m (.Name x pos) (cst (.int n)) := by
  obtain ⟨t, ht⟩ := hm
  exact dp_cst (v := .int n) (pe_glob hg ht ⟨t, rfl⟩ hdb) fun _ => rep_int
theorem df_one {op : BoolOp} {f : Rho → Option (List D)} (h : DF X a f) : DF X (.BoolOp op [a] pos) f := let ⟨t, p, r⟩ := h; ⟨t, pe_one p, r⟩
/-- x or y, both new lists -/
def orL (fa fb : Rho → Option (List D)) : Rho → Option (List D) := fun ρ => match fa ρ with
  | some [] => fb ρ
  | some (x :: xs) => some (x :: xs)
  | none => none
theorem df_or {fa fb : Rho → Option (List D)} (ha : DF X a fa) (hb : DF X (.BoolOp .Or (b :: rest) pos) fb) : DF X (.BoolOp .Or (a :: b :: rest) pos) (orL fa fb) := by
  obtain ⟨ta, pa, ra⟩ := ha
  obtain ⟨tb, pb, rb⟩ := hb
  refine ⟨_, pe_orT pa pb, fun F σ H ρ xs Q hk S hf q => ?_⟩
  unfold orL at hf
  split at hf
  · rename_i h
    refine ra F σ H ρ _ _ hk S h fun p ws H' hn e h2 hl rr => ⟨false, .inl ⟨ws, SqL.of h2, ?_⟩, ?_⟩
    · rw [Reps] at rr
      subst rr
      rfl
    · rw [if_neg Bool.false_ne_true]
      refine rb F σ H' ρ xs Q hk (S.ext e) hf fun p2 ws2 H2 hn2 e2 h3 hl2 rr2 => q p2 ws2 H2 (e.free hn2) (e.trans e2) h3 hl2 rr2
  · rename_i x r h
    cases hf
    refine ra F σ H ρ _ _ hk S h fun p ws H' hn e h2 hl rr => ⟨true, .inl ⟨ws, SqL.of h2, ?_⟩, ?_⟩
    · rw [Reps] at rr
      obtain ⟨v, r', h1, _⟩ := rr
      subst h1
      rfl
    · rw [if_pos rfl]
      exact q p ws H' hn e h2 hl rr
  · cases hf
/-- a comprehension as the whole right side, kept as a value -/
def lstR (o : Option (List D)) : Option Res := match o with
  | some xs => some (.val (.sq false xs))
  | none => none
theorem ds_setLcV {i : Nat} {y : Str} {py : Pos} {elt tg iter : Expr} {ifs : List Expr} {scope : Scope} {own : List (Str × Nat)} {spos : Pos} {is : List Nat} {mi : Bool} {fi : Rho → Option (List D)} {g : D → Rho → Option Rho} {c : Rho → Option Bool} {fe : Rho → Option D} (o : Okx X) (hN : X.N.Nodup)
    (hy : X.N[i]? = some y) (hyl : X.env.scope.names.lookup y = some .local) (hsw : swapsWith (.ListComp elt [⟨tg, iter, ifs, 0⟩] scope pos) (some (.Name y py)) spos.line X.env = pure true)
    (hi : DI X mi tg iter fi) (ok : BlkOk X.N X.env.scope scope own) (hg : InBlk X scope fun Y => DG Y is tg g) (ht : InBlk X scope fun Y => DTs Y ifs c) (he : InBlk X scope fun Y => DP Y false elt fe)
    (hsub : ∀ i ∈ is, i ∈ own.map (·.2)) (hs : ∀ x, foldedSetIterable iter X.env x = pure x := by intro _; rfl) : DS X W (.Assign [.Name y py] (.ListComp elt [⟨tg, iter, ifs, 0⟩] scope pos) spos) (setS i (valK (pur fun ρ => lstO (cmp fi (own.map (·.2)) g c fe ρ)))) := by
  obtain ⟨wi, pi, ri⟩ := hi
  refine ⟨_, ps_setLc (g := tDG X.K is g) (tt := tDT X.K c) (te := tDP X.K false fe) o.calm hN hy hyl hsw pi ok (fun s H C cl fp => (hg s H C cl fp).pg) (fun s H C cl fp => (ht s H C cl fp).pts) (fun s H C cl fp => (he s H C cl fp).pe) hs, fun F σ H ρ ρ' oo E hk S hf q => ?_⟩
  obtain ⟨rr, ρ1, h1, h2, rfl⟩ := setS_some hf
  unfold valK at h1
  split at h1
  · rename_i d ρ2 hd
    cases h1
    obtain ⟨h3, rfl⟩ := pur_some hd
    obtain ⟨es, hes, rfl⟩ := lstO_some h3
    have gc := (hg {} (fun _ => none) 0 [] []).2
    refine lc_run (X := X) ri (fun F σ H ρ ρ' d v Q hk S r hf q => ⟨F, ρ, ρ', d, hk, S, r, hf, q⟩) gc (fun F σ H ρ b Q hk S hf q => ⟨F, ρ, b, hk, S, hf, q⟩) (fun F σ H ρ d Q hk S hf q => ⟨F, ρ, d, hk, S, hf, q⟩) hsub hk S hes fun p ws H' hn e h3 hl rep => ?_
    rw [see_false] at rep
    obtain ⟨n1, n2⟩ := S.fresh hn
    obtain ⟨S', m'⟩ := Got.put (r := .val (.sq false es)) (v := .ref p) (K := X.K) (G0 := hid F H σ ρ1) hk ⟨S.ext e, hid_mono e, rep_sq (t := false) (.inl (.inl (hid_some n1 h3 fun z => (z n2).elim))) hl (rep.mono del_sub)⟩ h2
    exact q _ H' S' m'
  · cases h1
end
section
variable {P : Program} {w : World} {K : PySem.W.Frag} {mg : Str → Option Value} {base : Heap} {x qual : Str} {st : Stmt} {dvs : List V} {kws : List (Str × V)} {f : Addr} {fd : FuncData} {N ps : List Str} {k : Nat}
/-- a def, by the head's facts -/
abbrev FnP (K : PySem.W.Frag) (x : Str) (st : Stmt) (f : Addr) (fd : FuncData) : Prop := FunD K x x (defArgs st) (defBody st) (defScope st) [] [] f fd
theorem fnp_g (F : FunD K x qual (defArgs st) (defBody st) (defScope st) dvs kws f fd) (sc : FnScope N ps (defScope st)) (hps : ps.length ≤ N.length) {fb : Rho → Option (Fl × Rho)}
    (hb : ∀ (cdv : Value) (A : Around) (outer : List Env) (s : Shared) (H : Hp) (E : XK), Room k (A.deeper (envOfC qual (defScope st) s.heap.objs.size f cdv)) → DSs (bodyX P w K mg base N qual st f cdv A outer s H E) (fun _ _ _ => False) (defBody st) fb) :
    FnOk P w K mg base CX0 (k + 1) f fd ps (spG K (gG ps.length N.length fb)) := by
  refine F.ok sc (fun vs H Q E h => ?_) (fun cdv A outer s H vs Q E hr h => ?_)
  · obtain ⟨G, as, r, g, rr, hg, _⟩ := h
    unfold gG at hg
    split at hg
    · rw [← rr.length]
      assumption
    · cases hg
  · obtain ⟨G, as, r, g, rr, hg, q⟩ := h
    obtain ⟨t, p, run⟩ := hb cdv A outer s H E hr
    refine ⟨t, p.nox, ?_⟩
    unfold gG at hg
    split at hg
    · rename_i hlen
      split at hg
      · rename_i r' ρ' hbody
        cases hg
        have S := start_sim (N := N) g rr (by rw [← rr.length, hlen]; exact hps)
        unfold body0 at hbody
        split at hbody
        · rename_i r2 ρ2 hrun
          cases hbody
          refine run ⟨K, H, G, none⟩ _ H _ ρ' _ _ rfl S hrun fun v σ' H' got => q v H' ?_ (left_of got)
          have S' := (got.sim rfl).1
          exact fun b o hb => S'.base b o hb (fun z => nomatch z)
        · rename_i ρ2 hrun
          cases hbody
          refine run ⟨K, H, G, none⟩ _ H _ ρ' _ _ rfl S hrun fun σ' H' S' m => q _ H' ?_ ?_
          · exact fun b o hb => S'.base b o hb (fun z => nomatch z)
          · show Rep _ _ _ _
            rw [Rep]
        · cases hbody
      · cases hg
    · cases hg
theorem fnp_i (F : FunD K x qual (defArgs st) (defBody st) (defScope st) dvs kws f fd) (sc : FnScope N ps (defScope st)) (hps : ps.length ≤ N.length) {fb : Rho → Option (Fl × Rho)}
    (hb : ∀ (cdv : Value) (A : Around) (outer : List Env) (s : Shared) (H : Hp) (E : XK), Room k (A.deeper (envOfC qual (defScope st) s.heap.objs.size f cdv)) → DSs (bodyX P w K mg base N qual st f cdv A outer s H E) (fun _ _ _ => False) (defBody st) fb) :
    FnOk P w K mg base CX0 (k + 1) f fd ps (spI K (gI ps.length N.length fb)) := by
  refine F.ok sc (fun vs H Q E h => ?_) (fun cdv A outer s H vs Q E hr h => ?_)
  · obtain ⟨G, p, us, ws, xs, as, xs', r, rfl, _, _, _, _, _, r2, hg, _⟩ := h
    unfold gI at hg
    split at hg
    · rw [List.length_cons, ← r2.length]
      assumption
    · cases hg
  · obtain ⟨G, p, us, ws, xs, as, xs', r, rfl, h1, h2, h3, h4, h5, r2, hg, q⟩ := h
    obtain ⟨t, pt, run⟩ := hb cdv A outer s H E hr
    refine ⟨t, pt.nox, ?_⟩
    unfold gI at hg
    split at hg
    · rename_i hlen
      split at hg
      · rename_i r' ρ' hbody
        split at hg
        · rename_i ys hys
          cases hg
          have S := start_simI (N := N) h4 h1 h2 h3 h5 r2 (by rw [← r2.length, hlen]; exact hps)
          unfold body0 at hbody
          split at hbody
          · rename_i r2 ρ2 hrun
            cases hbody
            refine run ⟨K, H, G, some p⟩ _ H _ ρ' _ _ rfl S hrun fun v σ' H' got => ?_
            obtain ⟨ws', g1, g2, g3, g4⟩ := leftI_of got hys
            exact q v H' ws' g1 g2 g3 g4
          · rename_i ρ2 hrun
            cases hbody
            refine run ⟨K, H, G, some p⟩ _ H _ ρ' _ _ rfl S hrun fun σ' H' S' m => ?_
            obtain ⟨ws', g1, g2, g3, g4⟩ := leftI_of (r := .val .non) (v := .non) (K := K) ⟨S', m, by rw [Rep]⟩ hys
            exact q _ H' ws' g1 g2 g3 g4
          · cases hbody
        · cases hg
      · cases hg
    · cases hg
end
end DL

-- DL17
/-! DL17: set comprehensions of ints, their len. -/
namespace DL
open PySem PySem.Spec PyProof.Rows L2
def tScI (w : World) (wi : TI) (g : TG) (tt : TT) (te : TE) (vs : List Nat) : TE := fun σ H Q => wi σ H fun J H1 => ∀ D, H1 D = none → ∃ W : Nat → Nat → Hp → Prop, (∃ m, W 0 m (upd H1 D (SetO w D (fun _ => false) 0))) ∧ ∀ i m H, W i m H → (J.stop i H ∧ Q (.ref D) H) ∨ (J.go i H ∧ ∃ Nx : Hp → Prop, (∀ H', Nx H' → ∃ m', m' < m ∧ W (i + 1) m' H') ∧ ∀ x H', J.yld i H x H' →
  g x (wipe σ vs) H' fun σ2 H2 => wipe σ2 vs = wipe σ vs ∧ tt σ2 H2 fun b H3 => if b = true then te σ2 H3 fun y H4 => ∃ (c : Int) (S : Int → Bool) (n : Nat), y = .int c ∧ H4 D = some (SetO w D S n) ∧ n + 1 < scanBound ∧ Nx (upd H4 D (SetO w D (fun j => S j || decide (j = c)) (if S c = true then n else n + 1))) else Nx H3)
theorem sc_coreI {X : Cx} {pins : List (Addr × Obj)} {s : Shared} {σ : L2.St} {H : Hp} {Q : VK} {elt tg iter : Expr} {ifs : List Expr} {scope : Scope} {own : List (Str × Nat)} {pos pos' : Pos} {wi : TI} {g : TG} {tt : TT} {te : TE} {use : Option (Value → Sem Unit)} {Qf : Value → Shared → Prop}
    (hc : X.calm = true) (hN : X.N.Nodup) (I : L2.Inv X pins σ H s) (hi : PI X tg iter wi) (ok : BlkOk X.N X.env.scope scope own)
    (hg : ∀ (s : Shared) (H : Hp) (C : Addr) (cl : List (Str × Addr)) (fp : List Addr), PG (X.blk s H scope (compEnvC scope cl C X.env) fp) tg g)
    (ht : ∀ (s : Shared) (H : Hp) (C : Addr) (cl : List (Str × Addr)) (fp : List Addr), PTs (X.blk s H scope (compEnvC scope cl C X.env) fp) ifs tt)
    (he : ∀ (s : Shared) (H : Hp) (C : Addr) (cl : List (Str × Addr)) (fp : List Addr), PE (X.blk s H scope (compEnvC scope cl C X.env) fp) elt te)
    (hs : ∀ x, foldedSetIterable iter X.env x = pure x) (h : tScI X.w wi g tt te (own.map (·.2)) σ H Q)
    (hRR : ∀ (D C : Addr) (s' : Shared) (m : Str → Option Value) (H' : Hp), L2.Inv X pins σ H' s' → Q (.ref D) H' → s'.heap.Ns C m → FpOk X pins H' C → compPost (model X.prog X.w) X.A X.xe use Qf (.ref D) C (.ok .next) s') :
    wpAny (model X.prog X.w) X.A (comprehension (.SetComp elt [⟨tg, iter, ifs, 0⟩] scope pos) scope X.env pos' (newSet (.type "set")) false (eval iter X.env) use) Qf X.xe s := by
  have hfree := fun (y : Str × NameKind) (hy : y ∈ scope.names) (e : y.2 = .free) => (ok.free y hy e).elim (fun k => I.ok.has y.1 (.inl k)) (fun k => I.ok.has y.1 (.inr k))
  refine wpAny_comprehension_free rfl hs (closure_ok hfree) ok.kind (fun y hy e => by rw [ok.uniq y hy, e]) (thn (hi.run pins s σ H _ I h) fun xv s1 hx => thn hx fun itv s2 h2 => ?_)
  obtain ⟨it, fp, tn, J, H2, e, I2, T, st2, f2, q⟩ := h2
  subst e
  refine PpSet.newSet_ok (newEnv_comp ?_)
  have hDn := I2.hok.fresh (Nat.le_of_eq rfl)
  obtain ⟨W, ⟨m0, w0⟩, turn⟩ := q _ hDn
  let S3 : Shared := { heap := s2.heap.push { cls := .type "set", data := .set #[] 0 (SetTable.fresh 0 0 !X.w.params.followText "set-order") }, gens := s2.gens, drawn := s2.drawn, toks := s2.toks, os := s2.os }
  let DD := s2.heap.objs.size
  let EMP := SetO X.w DD (fun _ => false) 0
  have I3 : L2.Inv X pins σ (upd H2 DD EMP) S3 := I2.laid (fun b o e => Heap.get?_push_of_some _ e) (Nat.le_of_eq rfl) (setO_new (setR_fresh X.w))
  have sz : ∀ b ∈ fp, b < s2.heap.objs.size := fun b hb => by
    obtain ⟨o, e, _⟩ := T.obj 0 s2.heap st2 b hb
    exact Heap.lt_size e
  have f3 : ∀ b ∈ fp, FpOk X pins (upd H2 DD EMP) b ∧ b < S3.heap.objs.size := fun b hb => by
    have hlt := sz b hb
    refine ⟨⟨?_, (f2 b hb).2⟩, ?_⟩
    · rw [upd_ne (Nat.ne_of_lt hlt)]
      exact (f2 b hb).1
    · show b < (s2.heap.push _).objs.size
      rw [Heap.size_push]
      exact Nat.lt_succ_of_lt hlt
  have st3 : tn 0 S3.heap := T.keep 0 s2.heap S3.heap st2 fun b _ o e => Heap.get?_push_of_some _ e
  have I4 := block_start I3 ok hN f3
  let ENV := compEnvC scope (cellsFrom (S3.heap.objs.size + 1) scope.names (cloFrom X.env.cells scope.names [])) S3.heap.objs.size X.env
  have pg := hg S3 (upd H2 DD EMP) S3.heap.objs.size (cellsFrom (S3.heap.objs.size + 1) scope.names (cloFrom X.env.cells scope.names [])) fp
  have pt := ht S3 (upd H2 DD EMP) S3.heap.objs.size (cellsFrom (S3.heap.objs.size + 1) scope.names (cloFrom X.env.cells scope.names [])) fp
  have pe := he S3 (upd H2 DD EMP) S3.heap.objs.size (cellsFrom (S3.heap.objs.size + 1) scope.names (cloFrom X.env.cells scope.names [])) fp
  have nfp : ∀ b ∈ fp, (upd H2 DD EMP) b = none := fun b hb => (f3 b hb).1.1
  have cL : ENV.locals = S3.heap.objs.size := rfl
  have st4 := T.keep 0 S3.heap (pushCells (S3.heap.push { cls := .type "dict", data := .dict #[] }) scope.names) st3 fun b _ o e => pushCells_keeps scope.names _ b o (Heap.get?_push_of_some _ e)
  let XB := X.blk S3 (upd H2 DD EMP) scope ENV fp
  have stat : ∀ {σ' : L2.St} {H' : Hp} {s' : Shared}, L2.Inv XB [] σ' H' s' → (∀ b ∈ fp, H' b = none) → ∀ b ∈ fp, FpOk XB [] H' b := fun I' hn b hb => ⟨hn b hb, (I'.ok.exf b hb).1, I'.ok.exfs b hb, .inl hb, fun x c e => (I'.ok.exf b hb).2 x c e, fun p hp => by cases hp⟩
  have loop := PpSet.compLoopS_any (prog := X.prog) (w := X.w) (A := X.A) (R := compPost (model X.prog X.w) X.A X.xe use Qf (.ref DD) S3.heap.objs.size) (env := ENV) (elt := elt) (target := tg) (iter := iter) (ifs := ifs) (scope := scope) (pos := pos) (it := .ref it) (acc := .ref DD)
    (fun n s' => ∃ i H', L2.Inv XB [] (wipe σ (own.map (·.2))) H' s' ∧ tn i s'.heap ∧ (∀ b ∈ fp, H' b = none) ∧ W i n H') (fun n s5 hI => by
      obtain ⟨i, H5, I5, st5, n5, w5⟩ := hI
      rcases turn i n H5 w5 with ⟨stp, qq⟩ | ⟨go, Nx, hNx, step⟩
      · have td := T.done XB rfl rfl rfl hc i [] s5 (wipe σ (own.map (·.2))) H5 (fun _ _ => False) I5 (stat I5 n5) st5 stp
        refine thnF td fun r s6 ⟨hr, I6⟩ => ?_
        subst hr
        have I7 := I3.call' I6.os I6.base I6.hok I6.bare fun b hb => ⟨(f3 b hb).1.2.2.2.1, (f3 b hb).1.2.1, (f3 b hb).1.2.2.2.2.1, (f3 b hb).1.2.2.2.2.2⟩
        have nC : H5 S3.heap.objs.size = none := I6.free
        obtain ⟨m, hn, _⟩ := I6.loc
        exact hRR DD S3.heap.objs.size s6 m H5 I7 qq hn (I3.fpOk (Nat.le_refl _) nC)
      · have ti := T.item XB rfl rfl rfl hc i [] s5 (wipe σ (own.map (·.2))) H5 (fun _ _ => False) I5 (stat I5 n5) st5 go
        refine thnF ti fun r s6 ⟨u, hr, h6⟩ => ?_
        subst hr
        refine thnF h6 fun _ s7 ⟨x, H7, I7, r7, y7, st7, n7⟩ => ?_
        have I7' := I7.pinned (stat I7 n7) (T.obj (i + 1) s7.heap st7)
        refine thnF (pg.run ([] ++ pinsAt fp s7.heap) s7 (wipe σ (own.map (·.2))) H7 x u (fun σ2 H2 => wipe σ2 (own.map (·.2)) = wipe σ (own.map (·.2)) ∧ tt σ2 H2 fun b H3 => if b = true then te σ2 H3 fun y H4 => ∃ (c : Int) (S : Int → Bool) (n : Nat), y = .int c ∧ H4 DD = some (SetO X.w DD S n) ∧ n + 1 < scanBound ∧ Nx (upd H4 DD (SetO X.w DD (fun j => S j || decide (j = c)) (if S c = true then n else n + 1))) else Nx H3) I7' r7 (step x H7 y7)) fun _ s8 ⟨σ8, H8, I8, hw8, q8⟩ => ?_
        refine thnF (pt.run ([] ++ pinsAt fp s7.heap) s8 σ8 H8 _ I8 q8) fun b s9 ⟨H9, I9, q9⟩ => ?_
        have fin : ∀ {s' : Shared} {H' : Hp}, L2.Inv XB ([] ++ pinsAt fp s7.heap) σ8 H' s' → Nx H' → ∃ m, m < n ∧ ∃ i H', L2.Inv XB [] (wipe σ (own.map (·.2))) H' s' ∧ tn i s'.heap ∧ (∀ b ∈ fp, H' b = none) ∧ W i m H' := fun {s'} {H'} I' nx => by
          obtain ⟨m', hm, w'⟩ := hNx H' nx
          have pin' : ∀ b ∈ fp, ∀ o, s7.heap.get? b = some o → s'.heap.get? b = some o ∧ H' b = none := fun b hb o e =>
            let z := I'.pin (b, o) (List.mem_append_right XB.pn (List.mem_append_right [] (mem_pinsAt hb e)))
            ⟨z.1, z.2.1⟩
          have hl : (wipe σ (own.map (·.2))).length = σ8.length := by rw [← hw8, wipe_length]
          refine ⟨m', hm, i + 1, H', (I'.unpinned).weak hl fun j v e => (wipe_some (by rw [hw8]; exact e)).1, T.keep (i + 1) s7.heap s'.heap st7 fun b hb o e => (pin' b hb o e).1, fun b hb => ?_, w'⟩
          obtain ⟨o, e, _⟩ := T.obj (i + 1) s7.heap st7 b hb
          exact (pin' b hb o e).2
        cases b with
        | false =>
          rw [if_neg Bool.false_ne_true] at q9 ⊢
          exact fin I9 q9
        | true =>
          rw [if_pos rfl] at q9 ⊢
          refine thnF (pe.run ([] ++ pinsAt fp s7.heap) s9 σ8 H9 _ I9 q9) fun z s10 ⟨yv, H10, I10, r10, cb, S0, n0, ey, hD10, hz10, nx⟩ => ?_
          subst ey
          refine thnF (mt_sadd (X := XB) ([] ++ pinsAt fp s7.heap) s10 σ8 H10 (.ref DD) [.int cb] (.ref DD) [z] (fun v H => Nx H) I10 rfl (.cons r10 .nil) ⟨DD, cb, S0, n0, rfl, rfl, hD10, hz10, nx⟩) fun v s11 ⟨yv, H11, I11, r11, nx'⟩ => fin I11 nx') m0 ⟨0, upd H2 DD EMP, I4, st4, nfp, w0⟩
  exact PpSet.codeAny_compStart_set loop (T.self X.A 0 _ _ _ st4 loop)
theorem pe_scI {X : Cx} {elt tg iter : Expr} {ifs : List Expr} {scope : Scope} {own : List (Str × Nat)} {pos : Pos} {wi : TI} {g : TG} {tt : TT} {te : TE}
    (hc : X.calm = true) (hN : X.N.Nodup) (hi : PI X tg iter wi) (ok : BlkOk X.N X.env.scope scope own)
    (hg : ∀ (s : Shared) (H : Hp) (C : Addr) (cl : List (Str × Addr)) (fp : List Addr), PG (X.blk s H scope (compEnvC scope cl C X.env) fp) tg g)
    (ht : ∀ (s : Shared) (H : Hp) (C : Addr) (cl : List (Str × Addr)) (fp : List Addr), PTs (X.blk s H scope (compEnvC scope cl C X.env) fp) ifs tt)
    (he : ∀ (s : Shared) (H : Hp) (C : Addr) (cl : List (Str × Addr)) (fp : List Addr), PE (X.blk s H scope (compEnvC scope cl C X.env) fp) elt te)
    (hs : ∀ x, foldedSetIterable iter X.env x = pure x) : PE X (.SetComp elt [⟨tg, iter, ifs, 0⟩] scope pos) (tScI X.w wi g tt te (own.map (·.2))) := by
  refine ⟨fun pins s σ H Q I h => ?_⟩
  rw [PpSet.eval_SetComp]
  exact sc_coreI hc hN I hi ok hg ht he hs h fun D C s' m H' I' q hn f => ⟨m, hn, fun h'' sb => ⟨.ref D, H', I'.turned (fun b o hb e => (sb.right b hb).trans e) f.1 f.2.1 f.2.2.2.1 f.2.2.2.2.1 f.2.2.2.2.2, rfl, q⟩⟩
def rLenSet (w : World) : List V → Hp → VK → Prop := fun xs H Q => ∃ (a : Addr) (S : Int → Bool) (n : Nat), xs = [.ref a] ∧ H a = some (SetO w a S n) ∧ n < 2 ^ 63 ∧ Q (.int n) H
theorem c_lenSet {X : Cx} : CallR X (.builtin "len") (rLenSet X.w) := fun pins s σ H xs us Q I r h => by
  obtain ⟨a, S, n, rfl, ha, hn, q⟩ := h
  cases r with
  | cons r1 r2 =>
    cases r2
    cases r1
    obtain ⟨o, es, ep, t, h1, h2, h3, h4, h5, h6, h7, h8, h9, h10⟩ := setO_get I ha
    refine call_len_set h1 h2 h3 h8 (by rw [h9]; omega) ⟨.int n, H, I.tok _, ⟨_, by rw [h9]⟩, q⟩
def cntR : List Int → Nat
  | [] => 0
  | c :: r => if c ∈ r then cntR r else cntR r + 1
theorem cntR_le : ∀ r : List Int, cntR r ≤ r.length
  | [] => Nat.le_refl _
  | c :: r => by
    rw [cntR]
    have := cntR_le r
    split
    · rw [List.length_cons]; omega
    · rw [List.length_cons]; omega
theorem intsO_len : ∀ {ds : List D} {ns : List Int}, intsO ds = some ns → True ∧ ns.length = ds.length
  | [], ns, h => by cases h; exact ⟨trivial, rfl⟩
  | d :: ds, ns, h => by
    cases d with
    | int i =>
      rw [intsO] at h
      split at h
      · cases h
        exact ⟨trivial, by rw [List.length_cons, List.length_cons, (intsO_len ‹_›).2]⟩
      · cases h
    | _ => cases h
def SO (w : World) (p : Addr) (acc : List Int) : HO := SetO w p (fun k => decide (k ∈ acc)) (cntR acc)
theorem SO_nil {w : World} {p : Addr} : some (SetO w p (fun _ => false) 0) = some (SO w p []) := by
  unfold SO
  have e1 : (fun k : Int => decide (k ∈ ([] : List Int))) = fun _ => false := by
    funext k
    simp
  rw [e1]
  rfl
theorem SO_cons {w : World} {p : Addr} {c : Int} {acc : List Int} : some (SetO w p (fun j => decide (j ∈ acc) || decide (j = c)) (if decide (c ∈ acc) = true then cntR acc else cntR acc + 1)) = some (SO w p (c :: acc)) := by
  unfold SO
  have e1 : (fun j : Int => decide (j ∈ acc) || decide (j = c)) = fun k => decide (k ∈ c :: acc) := by
    funext k
    rw [Bool.eq_iff_iff]
    simp [or_comm]
  have e2 : (if decide (c ∈ acc) = true then cntR acc else cntR acc + 1) = cntR (c :: acc) := by
    rw [cntR]
    by_cases h : c ∈ acc
    · rw [if_pos h, if_pos (decide_eq_true h)]
    · rw [if_neg h, if_neg (by simpa using h)]
  rw [e1, e2]
theorem intsO_cons {d : D} {ds : List D} {ns : List Int} (h : intsO (d :: ds) = some ns) : ∃ c r, d = .int c ∧ intsO ds = some r ∧ ns = c :: r := by
  cases d with
  | int i =>
    rw [intsO] at h
    split at h
    · cases h
      exact ⟨_, _, rfl, ‹_›, rfl⟩
    · cases h
  | _ => cases h
section
variable {X : Cx} {m m' : Bool}
theorem sc_run {vs is : List Nat} {wi : TI} {gt : TG} {tt : TT} {te : TE} {fi : Rho → Option (List D)} {g : D → Rho → Option Rho} {c : Rho → Option Bool} {fe : Rho → Option D}
    (ri : ∀ (F : Fm) (σ : L2.St) (H : Hp) (ρ : Rho) (ds : List D) (R : It → Hp → Prop), F.K = X.K → Sim F σ H ρ → fi ρ = some ds → (∀ J H', Same H H' → Src X.K J ds (see m F H' σ ρ) (hid F H' σ ρ) → R J H') → wi σ H R)
    (rg : ∀ (F : Fm) (σ : L2.St) (H : Hp) (ρ ρ' : Rho) (d : D) (v : V) (Q : L2.St → Hp → Prop), F.K = X.K → Sim F σ H ρ → Rep X.K (hid F H σ ρ) d v → g d ρ = some ρ' → (∀ σ', Sim F σ' H ρ' → Same (hid F H σ ρ) (hid F H σ' ρ') → (∀ j, j ∉ is → σ'[j]? = σ[j]?) → σ'.length = σ.length → Q σ' H) → gt v σ H Q)
    (gc : ∀ (d : D) (ρ ρ' : Rho), g d ρ = some ρ' → (∀ j, j ∉ is → ρ'[j]? = ρ[j]?) ∧ ∀ j ∈ is, ∀ s, ρ'[j]? = some s → plainS s = true ∨ ρ[j]? = some s)
    (rt : ∀ (F : Fm) (σ : L2.St) (H : Hp) (ρ : Rho) (b : Bool) (Q : Bool → Hp → Prop), F.K = X.K → Sim F σ H ρ → c ρ = some b → (∀ H', Same H H' → Q b H') → tt σ H Q)
    (re : ∀ (F : Fm) (σ : L2.St) (H : Hp) (ρ : Rho) (d : D) (Q : VK), F.K = X.K → Sim F σ H ρ → fe ρ = some d → (∀ v H', Same H H' → Rep X.K (see m' F H' σ ρ) d v → Q v H') → te σ H Q)
    (hsub : ∀ i ∈ is, i ∈ vs) {F : Fm} {σ : L2.St} {H : Hp} {ρ : Rho} {es : List D} {ns : List Int} {Q : VK} (hk : F.K = X.K) (S : Sim F σ H ρ) (hf : cmp fi vs g c fe ρ = some es) (hns : intsO es = some ns) (hsz : ∀ ds, fi ρ = some ds → ds.length + 1 < scanBound)
    (q : ∀ p S H', H p = none → Same H H' → H' p = some (SetO X.w p S (cntR ns.reverse)) → Q (.ref p) H') : tScI X.w wi gt tt te vs σ H Q := by
  unfold cmp at hf
  split at hf
  · rename_i ds hds
    split at hf
    · rename_i hw
      refine ri F σ H ρ ds _ hk S hds fun J H1 e1 src p hp => ?_
      have S1 := S.ext e1
      have hsz' := src.len
      have hG := G_none S1 hp
      have hno : ¬ Own σ ρ p := (S1.fresh hp).1
      have Sw := S1.wipe hw
      have how : ∀ q, Own (wipe σ vs) (wipeR ρ vs) q ↔ Own σ ρ q := own_wiped hw
      refine ⟨fun i mm H2 => mm = ds.length - i ∧ i ≤ ds.length ∧ Same H1 H2 ∧ ∃ (rest : List D) (rn acc : List Int), H2 p = some (SO X.w p acc) ∧ acc.length ≤ i ∧ cmpGo g c fe (wipeR ρ vs) (ds.drop i) = some rest ∧ intsO rest = some rn ∧ rn.reverse ++ acc = ns.reverse,
        ⟨ds.length, by simp, Nat.zero_le _, same_new hp, es, ns, [], by rw [upd_same, SO_nil], Nat.zero_le _, by rw [List.drop_zero]; exact hf, hns, by rw [List.append_nil]⟩, ?_⟩
      rintro i mm H2 ⟨rfl, hi, e2, rest, rn, acc, hH, hacc, hgo, hrn, hes⟩
      have eG : Same (see m F H1 σ ρ) H2 := see_sub.trans e2
      by_cases hlt : i < ds.length
      · refine .inr ⟨src.go i H2 hlt eG, fun H3 => Same H1 H3 ∧ ∃ (rest : List D) (rn acc : List Int), H3 p = some (SO X.w p acc) ∧ acc.length ≤ i + 1 ∧ cmpGo g c fe (wipeR ρ vs) (ds.drop (i + 1)) = some rest ∧ intsO rest = some rn ∧ rn.reverse ++ acc = ns.reverse,
          fun H3 ⟨a1, a2⟩ => ⟨ds.length - (i + 1), by omega, rfl, hlt, a1, a2⟩, fun x H3 y => ?_⟩
        obtain ⟨d, hd, e3, hx⟩ := src.yld i H2 x H3 hlt eG y
        have hdd : ds.drop i = d :: ds.drop (i + 1) := by
          rw [List.drop_eq_getElem_cons hlt]
          congr 1
          rw [List.getElem?_eq_getElem hlt] at hd
          exact Option.some.inj hd
        rw [hdd, cmpGo] at hgo
        split at hgo
        · rename_i ρ2 hρ2
          have hH3 : H3 p = some (SO X.w p acc) := e3 _ _ hH
          have e13 : Same H1 H3 := e2.trans e3
          have S3 : Sim (F.hide p (SO X.w p acc)) (wipe σ vs) H3 (wipeR ρ vs) := Sw.hide hp e13 hH3
          have hx3 : Rep X.K (hid (F.hide p (SO X.w p acc)) H3 (wipe σ vs) (wipeR ρ vs)) d x := by
            refine hx.mono fun b o hb => ?_
            obtain ⟨b1, b2⟩ := vis_old hb
            by_cases hz : H2 b = none
            · have hbp : b ≠ p := fun z => by rw [z, hH] at hz; cases hz
              refine hid_hide hbp ?_
              have hz1 : H1 b = none := e2.free hz
              obtain ⟨f1, f2⟩ := S1.fresh hz1
              exact hid_some (fun z => f1 ((how b).mp z)) b1 fun z => (z f2).elim
            · obtain ⟨u, hu⟩ := Option.ne_none_iff_exists'.mp (b2 hz)
              obtain ⟨c1, c2, c3⟩ := hid_old hu
              have hbp : b ≠ p := fun z => by rw [z, hp] at c2; cases c2
              exact hid_hide hbp (hid_some (fun z => c1 ((how b).mp z)) b1 c3)
          refine rg (F.hide p (SO X.w p acc)) (wipe σ vs) H3 (wipeR ρ vs) ρ2 d x _ hk S3 hx3 hρ2 fun σ2 S2 m2 k2 l2 => ?_
          obtain ⟨g1, g2⟩ := gc d (wipeR ρ vs) ρ2 hρ2
          have hwσ : wipe σ2 vs = wipe σ vs := by
            refine List.ext_getElem? fun j => ?_
            by_cases hj : j ∈ vs
            · have key : ∀ (τ : L2.St) (ws : List Nat), j ∈ ws → (wipe τ ws)[j]? = if j < τ.length then some none else none := by
                intro τ ws
                induction ws with
                | nil => intro h; cases h
                | cons w ws ih =>
                  intro h
                  rw [wipe]
                  by_cases e : w = j
                  · subst e
                    by_cases hl : w < τ.length
                    · rw [List.getElem?_set_self (by rw [wipe_length]; exact hl), if_pos hl]
                    · rw [if_neg hl]
                      exact List.getElem?_eq_none (by rw [List.length_set, wipe_length]; omega)
                  · rw [List.getElem?_set_ne e]
                    rcases List.mem_cons.mp h with h | h
                    · exact absurd h.symm e
                    · exact ih h
              rw [key σ2 vs hj, key σ vs hj, l2, wipe_length]
            · rw [wipe_out' hj, k2 j fun z => hj (hsub j z)]
          have how2 : ∀ b, Own σ2 ρ2 b ↔ Own σ ρ b := own_wipe hw (fun j hj => (k2 j fun z => hj (hsub j z)).trans (wipe_out' hj)) (fun j hj => (g1 j fun z => hj (hsub j z)).trans (wipeR_out hj)) fun j hj s hs => by
            have hl : j < ρ.length := by
              have h1 := (List.getElem?_eq_some_iff.mp hs).1
              have h2 := S2.len
              have h3 := S.len
              rw [l2, wipe_length] at h2
              omega
            by_cases hji : j ∈ is
            · rcases g2 j hji s hs with z | z
              · exact z
              · rw [wipeR_in hj hl] at z
                cases z
                rfl
            · rw [g1 j hji, wipeR_in hj hl] at hs
              cases hs
              rfl
          refine ⟨hwσ, ?_⟩
          split at hgo
          · rename_i hc
            split at hgo
            · rename_i el hel
              split at hgo
              · rename_i rest' hrest
                cases hgo
                refine rt (F.hide p (SO X.w p acc)) σ2 H3 ρ2 true _ hk S2 hc fun H4 e4 => ?_
                rw [if_pos rfl]
                refine re (F.hide p (SO X.w p acc)) σ2 H4 ρ2 el _ hk (S2.ext e4) hel fun v H5 e5 hv => ?_
                have hH5 : H5 p = some (SO X.w p acc) := e5 _ _ (e4 _ _ hH3)
                have e15 : Same H1 H5 := (e13.trans e4).trans e5
                obtain ⟨cc, rn', rfl, hrn', rfl⟩ := intsO_cons hrn
                have hbnd := cntR_le acc
                refine ⟨cc, _, _, hv.int_eq, hH5, by have := hsz ds hds; omega, ?_, rest', rn', cc :: acc, by rw [upd_same, SO_cons], by rw [List.length_cons]; omega, hrest, hrn', by rw [← hes]; simp⟩
                intro b o hb
                have hbp : b ≠ p := ne_of_none hb hp
                rw [upd_ne hbp]
                exact e15 _ _ hb
              · cases hgo
            · cases hgo
          · rename_i hc
            refine rt (F.hide p (SO X.w p acc)) σ2 H3 ρ2 false _ hk S2 hc fun H4 e4 => ?_
            rw [if_neg Bool.false_ne_true]
            exact ⟨e13.trans e4, rest, rn, acc, e4 _ _ hH3, by omega, hgo, hrn, hes⟩
          · cases hgo
        · cases hgo
      · have hie : i = ds.length := by omega
        subst hie
        rw [List.drop_length, cmpGo] at hgo
        cases hgo
        cases hrn
        rw [List.reverse_nil, List.nil_append] at hes
        refine .inl ⟨src.stop H2 eG, q p _ H2 (e1.free hp) (e1.trans e2) (by rw [← hes]; exact hH)⟩
    · cases hf
  · cases hf


/-- len({e for t in it if c}): how many unlike ints -/
def lenSc (fi : Rho → Option (List D)) (f : Rho → Option (List D)) : Rho → Option D := fun ρ => match fi ρ with
  | some ds => if ds.length < 4000 then match f ρ with
      | some es => match intsO es with
        | some ns => some (.int (cntR ns.reverse))
        | none => none
      | none => none
    else none
  | none => none
theorem dp_lenSc {elt tg iter : Expr} {ifs : List Expr} {scope : Scope} {own : List (Str × Nat)} {pos cpos p : Pos} {is : List Nat} {fi : Rho → Option (List D)} {g : D → Rho → Option Rho} {c : Rho → Option Bool} {fe : Rho → Option D} (o : Okx X) (hN : X.N.Nodup) (hgl : Gl X "len") (hml : X.mg "len" = none)
    (hi : DI X m tg iter fi) (ok : BlkOk X.N X.env.scope scope own) (hg : InBlk X scope fun Y => DG Y is tg g) (ht : InBlk X scope fun Y => DTs Y ifs c) (he : InBlk X scope fun Y => DP Y m' elt fe)
    (hsub : ∀ i ∈ is, i ∈ own.map (·.2)) (hs : ∀ x, foldedSetIterable iter X.env x = pure x := by intro _; rfl)
    (hst : starEach [.SetComp elt [⟨tg, iter, ifs, 0⟩] scope pos] X.env = (false, eval (.SetComp elt [⟨tg, iter, ifs, 0⟩] scope pos) X.env) :: starEach [] X.env := by rfl) (hpl : (backTo cpos (starEach [] X.env)).any (·.1) = false := by rfl) :
    DP X false (.Call (.Name "len" p) [.SetComp elt [⟨tg, iter, ifs, 0⟩] scope pos] [] cpos) (lenSc fi (cmp fi (own.map (·.2)) g c fe)) := by
  obtain ⟨wi, pi, ri⟩ := hi
  refine ⟨_, pe_callB (X := X) c_lenSet hgl hml boot_len (pa_cons (pe_scI (g := tDG X.K is g) (tt := tDT X.K c) (te := tDP X.K m' fe) o.calm hN pi ok (fun s H C cl fp => (hg s H C cl fp).pg) (fun s H C cl fp => (ht s H C cl fp).pts) (fun s H C cl fp => (he s H C cl fp).pe) hs) pa_nil hst) (by decide) (by decide) hst hpl, fun F σ H ρ d Q hk S hf q => ?_⟩
  unfold lenSc at hf
  split at hf
  · rename_i ds hds
    split at hf
    · rename_i hlt
      split at hf
      · rename_i es hes
        split at hf
        · rename_i ns hns
          cases hf
          have gc := (hg {} (fun _ => none) 0 [] []).2
          show tScI X.w wi (tDG X.K is g) (tDT X.K c) (tDP X.K m' fe) (own.map (·.2)) σ H (fun v H1 => rLenSet X.w [v] H1 Q)
          refine sc_run (X := X) (gt := tDG X.K is g) (tt := tDT X.K c) (te := tDP X.K m' fe) ri (fun F σ H ρ ρ' d v Q hk S r hf q => ⟨F, ρ, ρ', d, hk, S, r, hf, q⟩) gc (fun F σ H ρ b Q hk S hf q => ⟨F, ρ, b, hk, S, hf, q⟩) (fun F σ H ρ d Q hk S hf q => ⟨F, ρ, d, hk, S, hf, q⟩) hsub hk S hes hns (fun ds' h' => by rw [hds] at h'; cases h'; show ds.length + 1 < 4096; omega) fun p S' H' hn e h2 => ?_
          have hb : cntR ns.reverse ≤ 4000 := by
            have h1 := cntR_le ns.reverse
            rw [List.length_reverse] at h1
            have h3 : ns.length = es.length := (intsO_len hns).2
            have h4 : es.length ≤ ds.length := by
              unfold cmp at hes
              rw [hds] at hes
              dsimp only at hes
              split at hes
              · exact cmpGo_length hes
              · cases hes
            omega
          exact ⟨p, S', _, rfl, h2, by omega, q _ H' e rep_int⟩
        · cases hf
      · cases hf
    · cases hf
  · cases hf
end
end DL

-- DL18
/-! DL18: a def of the module, known by its promise. -/
namespace DL
open PySem PySem.Spec PyProof.Rows L2
/-- the module's name x holds a def that keeps the promise sp -/
def Known (P : Program) (w : World) (K : PySem.W.Frag) (mg : Str → Option Value) (base : Heap) (x : Str) (ps : List Str) (k : Nat) (sp : Sp) : Prop :=
  ∃ f fd, FnOk P w K mg base CX0 k f fd ps sp ∧ mg x = some (.ref f) ∧ PySem.W.keepIn K (.ref f) = true ∧ L2.Binds K fd ps [] ∧ ∃ oc od sl, List.lookup f K = some { cls := oc, dict := od, data := .func fd, slots := sl }
section
variable {P : Program} {w : World} {K : PySem.W.Frag} {mg : Str → Option Value} {base : Heap} {x : Str} {st : Stmt} {f : Addr} {fd : FuncData} {ps : List Str} {j k : Nat} {sp : Sp}
theorem Known.mono (h : Known P w K mg base x ps j sp) (l : j ≤ k) : Known P w K mg base x ps k sp := by
  obtain ⟨f, fd, h1, h2⟩ := h
  exact ⟨f, fd, h1.mono l, h2⟩
theorem Known.of (F : FnP K x st f fd) (hm : mg x = some (.ref f)) (hb : ∀ (kV doc pm : Value) (an : Option Addr) (cdv ct : Value) (us : List Value), us.length = ps.length → bindArgs (PySem.W.fnOf x x (defArgs st) (defBody st) (defScope st) .none kV doc pm an cdv ct) { pos := us } = pure (ps.zip us)) (h : FnOk P w K mg base CX0 k f fd ps sp) : Known P w K mg base x ps k sp :=
  ⟨f, fd, h, hm, F.kp, F.bindsN hb, let ⟨oc, od, _, _, _, _, _, _, _, osl, _, e, _⟩ := F.ex; ⟨oc, od, osl, e⟩⟩
end
section
variable {X : Cx} {m : Bool} {e : Expr} {es : List Expr} {pos p : Pos} {x : Str} {ps : List Str} {k : Nat}
theorem dp_kn {g : List D → Option Res} {fs : Rho → Option (List D)} (Kn : Known X.prog X.w X.K X.mg X.base x ps k (spG X.K g)) (hr : Room k X.A) (hg : Gl X x) (ha : DPs X m (e :: es) fs) (hdb : (x == ("__debug__" : Str)) = false := by decide) (he : starEach (e :: es) X.env = (false, eval e X.env) :: starEach es X.env := by rfl) (hpl : (backTo pos (starEach es X.env)).any (·.1) = false := by rfl) :
    DP X m (.Call (.Name x p) (e :: es) [] pos) (mny (resO g) fs) := by
  obtain ⟨f, fd, F, hm, hk, hb, _⟩ := Kn
  exact dp_callG F hr hg hm hk hb pass0 ha hdb he hpl
theorem dk_kn {g : List D → Option Res} {fs : Rho → Option (List D × Rho)} (Kn : Known X.prog X.w X.K X.mg X.base x ps k (spG X.K g)) (hr : Room k X.A) (hg : Gl X x) (ha : DMs X (e :: es) fs) (hdb : (x == ("__debug__" : Str)) = false := by decide) (he : starEach (e :: es) X.env = (false, eval e X.env) :: starEach es X.env := by rfl) (hpl : (backTo pos (starEach es X.env)).any (·.1) = false := by rfl) :
    DK X (.Call (.Name x p) (e :: es) [] pos) (mapM g fs) := by
  obtain ⟨f, fd, F, hm, hk, hb, _⟩ := Kn
  exact dk_callG F hr hg hm hk hb pass0 ha hdb he hpl
theorem dk_knI {i : Nat} {g : List D → List D → Option (Res × List D)} {fs : Rho → Option (List D × Rho)} (Kn : Known X.prog X.w X.K X.mg X.base x ps k (spI X.K g)) (hr : Room k X.A) (hg : Gl X x) (hv : PE X e (tVar i)) (ha : DMs X es fs) (hdb : (x == ("__debug__" : Str)) = false := by decide) (he : starEach (e :: es) X.env = (false, eval e X.env) :: starEach es X.env := by rfl) (hpl : (backTo pos (starEach es X.env)).any (·.1) = false := by rfl) :
    DK X (.Call (.Name x p) (e :: es) [] pos) (ioK i g fs) := by
  obtain ⟨f, fd, F, hm, hk, hb, _⟩ := Kn
  exact dk_callI F hr hg hm hk hb pass0 hv ha hdb he hpl
end
section
variable {X : Cx} {W : Str → L2.St → Hp → Prop} {pos : Pos} {a b c : Expr}
/-- names from a display, new lists among its items -/
theorem ds_asgK2 {i j : Nat} {t1 t2 : Expr} {kt k2 : Nat} {pt pt2 : Pos} {fa fb : Rho → Option (Res × Rho)} (hij : i ≠ j) (o : Okx X) (p1 : PG X t1 (gName i)) (p2 : PG X t2 (gName j)) (ha : DK X a fa) (hb : DK X b fb)
    (hs2 : starEach [a, b] X.env = (false, eval a X.env) :: starEach [b] X.env := by rfl) (hs1 : starEach [b] X.env = (false, eval b X.env) :: starEach [] X.env := by rfl)
    (hm2 : (assignEach [t1, t2] X.env).map (·.2) = assign t1 X.env :: (assignEach [t2] X.env).map (·.2) := by rfl) (hm1 : (assignEach [t2] X.env).map (·.2) = assign t2 X.env :: (assignEach [] X.env).map (·.2) := by rfl)
    (hn : (assignEach [t1, t2] X.env).length = 2 := by rfl) (hst : (assignEach [t1, t2] X.env).findIdx? (·.1) = none := by rfl)
    (h1 : swapsWithSole [.Tuple [t1, t2] kt pt] (.Tuple [a, b] k2 pt2) pos.line X.env = pure false := by rfl) (h2 : swappedStores [.Tuple [t1, t2] kt pt] (.Tuple [a, b] k2 pt2) X.env = pure none := by rfl)
    (h3 : (assignEach [.Tuple [t1, t2] kt pt] X.env).map (·.2) = [assign (.Tuple [t1, t2] kt pt) X.env] := by rfl) : DS X W (.Assign [.Tuple [t1, t2] kt pt] (.Tuple [a, b] k2 pt2) pos) (parS i j fa fb) := by
  obtain ⟨ta, pa, ra⟩ := ha
  obtain ⟨tb, pb, rb⟩ := hb
  refine ⟨_, ps_asg (pe_tup (pa_cons pa (pa_cons pb pa_nil hs1) hs2)) (pg_tup o.calm (pgs_cons p1 (pgs_cons p2 pgs_nil hm1) hm2) hn hst) h1 h2 h3, fun F σ H ρ ρ' o E hk S hf q => ?_⟩
  unfold parS at hf
  split at hf
  · rename_i r ρ1 e1
    split at hf
    · rename_i r2 ρ2 e2
      split at hf
      · rename_i ρ3 e3
        split at hf
        · rename_i ρ4 e4
          cases hf
          refine ra F σ H ρ ρ1 r _ hk S e1 fun v H1 g1 => ?_
          obtain ⟨F1, k1, S1, m1, back1⟩ := g1.split
          refine rb F1 σ H1 ρ1 ρ2 r2 _ (k1.trans hk) S1 e2 fun w H2 g2 => ?_
          obtain ⟨F2, k2, S2, m2, back2⟩ := g2.split
          refine ⟨by show 2 ≤ sizeLine; decide, fun t ht => ?_⟩
          have S3 := S2.ext (same_new (o := .tup [v, w]) ht)
          obtain ⟨S4, m4⟩ := (back2 _ _ _ S3 (hid_mono (same_new ht))).put (k1.trans hk) e3
          obtain ⟨S5, m5⟩ := (back1 _ _ _ S4 m4).put hk e4
          refine ⟨t, [v, w], rfl, .inl (.inl upd_same), rfl, v, [w], rfl, w, [], rfl, rfl, ?_⟩
          rw [List.set_comm _ _ hij]
          exact q _ _ S5 m5
        · cases hf
      · cases hf
    · cases hf
  · cases hf
end
end DL

-- DLH
/-! DLH: from the law's promise to the end. -/
namespace DL
open PySem PySem.Spec PyProof.Rows L2
theorem ints_rep {K : PySem.W.Frag} {H : Hp} : ∀ ns : List Int, Reps K H (ns.map D.int) (ns.map V.int)
  | [] => .nil
  | n :: ns => .cons rep_int (ints_rep ns)
theorem law_end {P : Program} {w : World} {K : PySem.W.Frag} {h : Heap} {mg : Str → Option Value} {f fa : Addr} {k n : Nat} {g : List D → Option Res} {st : Stmt} {kws : List (Str × V)} (KX : K.In h) (hn : n ≤ 1000) (hmg : mg "law" = some (.ref fa))
    (hf : fa = f) (F : ∃ fd, FunD K "law" "law" (defArgs st) (defBody st) (defScope st) [] kws f fd)
    (hb : ∀ (kV doc pm : Value) (an : Option Addr) (cdv ct : Value) (us : List Value), us.length = ["script"].length → bindArgs (PySem.W.fnOf "law" "law" (defArgs st) (defBody st) (defScope st) .none kV doc pm an cdv ct) { pos := us } = pure ([("script" : Str)].zip us))
    (Kn : ∀ base : Heap, Known P w K mg base "law" ["script"] k (spG K g)) (ht : ∀ ns : List Int, ns.length ≤ n → g [.sq false (ns.map D.int)] = some (.val (.bl true))) :
    ∃ (K' : PySem.W.Frag) (fd : FuncData) (sp : Sp), K'.In h ∧ (∀ (s : Shared) (u : Value), BindsTo s fd ⟨[u], []⟩ [("script", u)]) ∧ (∀ (H : Hp) (a : Addr) (ns : List Int), ns.length ≤ n → Only H → SqL K' H a (ns.map V.int) → sp [.ref a] H (fun v _ => v = .bl true) (fun _ _ _ => False)) ∧
      ∀ base : Heap, K'.In base → base.Ns mainGlobals mg → FnOk P w K' mg base CX0 k fa fd ["script"] sp := by
  subst hf
  obtain ⟨fd, F⟩ := F
  have b := F.bindsA (ps := ["script"]) hb
  refine ⟨K, fd, spG K g, KX, fun s u => b s [u] rfl, fun H a ns hl _ hS => ?_, fun base _ _ => ?_⟩
  · refine ⟨H, [.sq false (ns.map D.int)], .val (.bl true), Same.refl _, .cons (rep_sq (t := false) hS (by rw [List.length_map, sizeLine_eq]; omega) (ints_rep ns)) .nil, ht ns hl, fun v H' e l => ?_⟩
    have l' : Rep K (vis H H H') (.bl true) v := l
    exact l'.bl_eq
  · obtain ⟨f2, fd2, G, hm2, _, _, oc, od, sl, e2⟩ := Kn base
    rw [hmg] at hm2
    cases hm2
    obtain ⟨oc', od', _, _, _, _, _, _, _, osl', _, e, _⟩ := F.ex
    rw [e] at e2
    cases e2
    exact G
end DL

-- DL19
/-! DL19: the functions over slots, opened for simp where the slots are a written list (printed by mk19.py). -/
namespace DL
open L2 (atI ixN) 
open PySem (seqIndex?)
@[simp] theorem getV_ev (i : Nat) (s₀ : Sl) (ρ : Rho) : getV i (s₀ :: ρ) = (match (s₀ :: ρ)[i]? with
  | some (.va d) => some d
  | _ => none) := rfl
@[simp] theorem getB_ev (i : Nat) (s₀ : Sl) (ρ : Rho) : getB i (s₀ :: ρ) = (match (s₀ :: ρ)[i]? with
  | some (.va d) => some d
  | some (.ow xs) => some (.sq false xs)
  | some (.io xs) => some (.sq false xs)
  | _ => none) := rfl
@[simp] theorem cst_ev (d : D) (s₀ : Sl) (ρ : Rho) : cst d (s₀ :: ρ) = (some d) := rfl
@[simp] theorem bin_ev (g : D → D → Option D) (fa fb : Rho → Option D) (s₀ : Sl) (ρ : Rho) : bin g fa fb (s₀ :: ρ) = (match fa (s₀ :: ρ) with
  | some x => match fb (s₀ :: ρ) with
    | some y => g x y
    | none => none
  | none => none) := rfl
@[simp] theorem una_ev (g : D → Option D) (fa : Rho → Option D) (s₀ : Sl) (ρ : Rho) : una g fa (s₀ :: ρ) = (match fa (s₀ :: ρ) with
  | some x => g x
  | none => none) := rfl
@[simp] theorem isN_ev (a b : D) : isN a b = (match b with
  | .non => some (.bl a.isNon)
  | .bl c => match a with
    | .bl b => some (.bl (decide (b = c)))
    | _ => none
  | _ => none) := rfl
@[simp] theorem isnN_ev (a b : D) : isnN a b = (match b with
  | .non => some (.bl (!a.isNon))
  | .bl c => match a with
    | .bl b => some (.bl (!decide (b = c)))
    | _ => none
  | _ => none) := rfl
@[simp] theorem eqD_ev (a b : D) : eqD a b = (if okd a b = true then some (.bl (D.beq a b)) else none) := rfl
@[simp] theorem neD_ev (a b : D) : neD a b = (if okd a b = true then some (.bl (!D.beq a b)) else none) := rfl
@[simp] theorem okd_ev (a b : D) : okd a b = (a.shal 50 || b.shal 50) := rfl
@[simp] theorem okl_ev (a b : D) : okl a b = (okd a b && D.alk a b && !a.isNon) := rfl
@[simp] theorem intD_ev (C : Int → Int → Bool) (g : Int → Int → Int) (a b : D) : intD C g a b = (match a, b with
  | .int i, .int j => if C i j = true then some (.int (g i j)) else none
  | _, _ => none) := rfl
@[simp] theorem inD_ev (a b : D) : inD a b = (match b with
  | .sq _ ys => if a.shal 50 = true then some (.bl (ys.any fun y => D.beq y a)) else none
  | _ => none) := rfl
@[simp] theorem ninD_ev (a b : D) : ninD a b = (match b with
  | .sq _ ys => if a.shal 50 = true then some (.bl (!ys.any fun y => D.beq y a)) else none
  | _ => none) := rfl
@[simp] theorem andB_ev (ca cb : Rho → Option Bool) (s₀ : Sl) (ρ : Rho) : andB ca cb (s₀ :: ρ) = (match ca (s₀ :: ρ) with
  | some true => cb (s₀ :: ρ)
  | some false => some false
  | none => none) := rfl
@[simp] theorem orB_ev (ca cb : Rho → Option Bool) (s₀ : Sl) (ρ : Rho) : orB ca cb (s₀ :: ρ) = (match ca (s₀ :: ρ) with
  | some true => some true
  | some false => cb (s₀ :: ρ)
  | none => none) := rfl
@[simp] theorem notB_ev (ca : Rho → Option Bool) (s₀ : Sl) (ρ : Rho) : notB ca (s₀ :: ρ) = (match ca (s₀ :: ρ) with
  | some b => some (!b)
  | none => none) := rfl
@[simp] theorem andV_ev (fa fb : Rho → Option D) (s₀ : Sl) (ρ : Rho) : andV fa fb (s₀ :: ρ) = (match fa (s₀ :: ρ) with
  | some (.bl true) => fb (s₀ :: ρ)
  | some (.bl false) => some (.bl false)
  | _ => none) := rfl
@[simp] theorem orV_ev (fa fb : Rho → Option D) (s₀ : Sl) (ρ : Rho) : orV fa fb (s₀ :: ρ) = (match fa (s₀ :: ρ) with
  | some (.bl true) => some (.bl true)
  | some (.bl false) => fb (s₀ :: ρ)
  | _ => none) := rfl
@[simp] theorem notV_ev (fa : Rho → Option D) (s₀ : Sl) (ρ : Rho) : notV fa (s₀ :: ρ) = (match fa (s₀ :: ρ) with
  | some (.bl b) => some (.bl (!b))
  | _ => none) := rfl
@[simp] theorem ifV_ev (c : Rho → Option Bool) (fa fb : Rho → Option D) (s₀ : Sl) (ρ : Rho) : ifV c fa fb (s₀ :: ρ) = (match c (s₀ :: ρ) with
  | some true => fa (s₀ :: ρ)
  | some false => fb (s₀ :: ρ)
  | none => none) := rfl
@[simp] theorem chn_ev (g g' : D → D → Option D) (fa fb fc : Rho → Option D) (s₀ : Sl) (ρ : Rho) : chn g g' fa fb fc (s₀ :: ρ) = (match fa (s₀ :: ρ) with
  | some x => match fb (s₀ :: ρ) with
    | some y => match g x y with
      | some (.bl true) => match fc (s₀ :: ρ) with
        | some z => g' y z
        | none => none
      | some (.bl false) => some (.bl false)
      | _ => none
    | none => none
  | none => none) := rfl
@[simp] theorem nilA_ev  (s₀ : Sl) (ρ : Rho) : nilA  (s₀ :: ρ) = (some []) := rfl
@[simp] theorem consA_ev (fa : Rho → Option D) (fs : Rho → Option (List D)) (s₀ : Sl) (ρ : Rho) : consA fa fs (s₀ :: ρ) = (match fa (s₀ :: ρ) with
  | some x => match fs (s₀ :: ρ) with
    | some xs => some (x :: xs)
    | none => none
  | none => none) := rfl
@[simp] theorem dsp_ev (t : Bool) (fs : Rho → Option (List D)) (s₀ : Sl) (ρ : Rho) : dsp t fs (s₀ :: ρ) = (match fs (s₀ :: ρ) with
  | some ds => if ds.length ≤ 1000 then some (.sq t ds) else none
  | none => none) := rfl
@[simp] theorem mny_ev (g : List D → Option D) (fs : Rho → Option (List D)) (s₀ : Sl) (ρ : Rho) : mny g fs (s₀ :: ρ) = (match fs (s₀ :: ρ) with
  | some ds => g ds
  | none => none) := rfl
@[simp] theorem noO_ev  (s₀ : Sl) (ρ : Rho) : noO  (s₀ :: ρ) = (some none) := rfl
@[simp] theorem intO_ev (fa : Rho → Option D) (s₀ : Sl) (ρ : Rho) : intO fa (s₀ :: ρ) = (match fa (s₀ :: ρ) with
  | some (.int i) => some (some i)
  | _ => none) := rfl
@[simp] theorem slc_ev (fa : Rho → Option D) (fl fh : Rho → Option (Option Int)) (s₀ : Sl) (ρ : Rho) : slc fa fl fh (s₀ :: ρ) = (match fa (s₀ :: ρ) with
  | some x => match fl (s₀ :: ρ) with
    | some lo => match fh (s₀ :: ρ) with
      | some hi => slD x lo hi
      | none => none
    | none => none
  | none => none) := rfl
@[simp] theorem isiF_ev (t : Ty) (fa : Rho → Option D) (s₀ : Sl) (ρ : Rho) : isiF t fa (s₀ :: ρ) = (match fa (s₀ :: ρ) with
  | some d => some (.bl (isK d t))
  | none => none) := rfl
@[simp] theorem isiF2_ev (t t' : Ty) (fa : Rho → Option D) (s₀ : Sl) (ρ : Rho) : isiF2 t t' fa (s₀ :: ρ) = (match fa (s₀ :: ρ) with
  | some d => some (.bl (isK d t || isK d t'))
  | none => none) := rfl
@[simp] theorem orT_ev (fa fb : Rho → Option D) (s₀ : Sl) (ρ : Rho) : orT fa fb (s₀ :: ρ) = (match fa (s₀ :: ρ) with
  | some (.str _) => none
  | some d => if truD d = true then some d else fb (s₀ :: ρ)
  | none => none) := rfl
@[simp] theorem rg1_ev (fa : Rho → Option D) (s₀ : Sl) (ρ : Rho) : rg1 fa (s₀ :: ρ) = (match fa (s₀ :: ρ) with
  | some (.int n) => some (0, n)
  | _ => none) := rfl
@[simp] theorem rg2_ev (fa fb : Rho → Option D) (s₀ : Sl) (ρ : Rho) : rg2 fa fb (s₀ :: ρ) = (match fa (s₀ :: ρ) with
  | some (.int i) => match fb (s₀ :: ρ) with
    | some (.int j) => some (i, j)
    | _ => none
  | _ => none) := rfl
@[simp] theorem lstRg_ev (t : Bool) (f : Rho → Option (Int × Int)) (s₀ : Sl) (ρ : Rho) : lstRg t f (s₀ :: ρ) = (match f (s₀ :: ρ) with
  | some (i, j) => if rgOk i j = true then some (.sq t (rgD i j)) else none
  | none => none) := rfl
@[simp] theorem kwF_ev (g : List D → List D → Option D) (fs : Rho → Option (List D)) (fa : Rho → Option D) (s₀ : Sl) (ρ : Rho) : kwF g fs fa (s₀ :: ρ) = (match fs (s₀ :: ρ) with
  | some ds => match fa (s₀ :: ρ) with
    | some d => g ds [d]
    | none => none
  | none => none) := rfl
@[simp] theorem rgF_ev (f : Rho → Option (Int × Int)) (s₀ : Sl) (ρ : Rho) : rgF f (s₀ :: ρ) = (match f (s₀ :: ρ) with
  | some (i, j) => if rgOk i j = true then some (rgD i j) else none
  | none => none) := rfl
@[simp] theorem mapO_ev (g : List D → List D) (f : Rho → Option D) (s₀ : Sl) (ρ : Rho) : mapO g f (s₀ :: ρ) = (match sqO (f (s₀ :: ρ)) with
  | some xs => some (g xs)
  | none => none) := rfl
@[simp] theorem zipF_ev (fa fb : Rho → Option D) (s₀ : Sl) (ρ : Rho) : zipF fa fb (s₀ :: ρ) = (match sqO (fa (s₀ :: ρ)) with
  | some xs => match sqO (fb (s₀ :: ρ)) with
    | some ys => some (zipD xs ys)
    | none => none
  | none => none) := rfl
@[simp] theorem setR_ev (i : Nat) (d : D) (s₀ : Sl) (ρ : Rho) : setR i d (s₀ :: ρ) = (match (s₀ :: ρ)[i]? with
  | some (.io _) => none
  | some _ => some ((s₀ :: ρ).set i (.va d))
  | none => none) := rfl
@[simp] theorem nilG_ev  (ds : List D) (s₀ : Sl) (ρ : Rho) : nilG  ds (s₀ :: ρ) = (match ds with
  | [] => some (s₀ :: ρ)
  | _ => none) := rfl
@[simp] theorem consG_ev (g : D → Rho → Option Rho) (gs : List D → Rho → Option Rho) (ds : List D) (s₀ : Sl) (ρ : Rho) : consG g gs ds (s₀ :: ρ) = (match ds with
  | d :: r => match g d (s₀ :: ρ) with
    | some ρ' => gs r ρ'
    | none => none
  | [] => none) := rfl
@[simp] theorem getI_ev (i : Nat) (s₀ : Sl) (ρ : Rho) : getI i (s₀ :: ρ) = (match (s₀ :: ρ)[i]? with
  | some (.va (.sq _ xs)) => some xs
  | some (.ow xs) => some xs
  | some (.io xs) => some xs
  | _ => none) := rfl
@[simp] theorem yesB_ev  (s₀ : Sl) (ρ : Rho) : yesB  (s₀ :: ρ) = (some true) := rfl
@[simp] theorem dspL_ev (fs : Rho → Option (List D)) (s₀ : Sl) (ρ : Rho) : dspL fs (s₀ :: ρ) = (match fs (s₀ :: ρ) with
  | some ds => if ds.length ≤ 1000 then some ds else none
  | none => none) := rfl
@[simp] theorem cmp_ev (fi : Rho → Option (List D)) (vs : List Nat) (g : D → Rho → Option Rho) (c : Rho → Option Bool) (fe : Rho → Option D) (s₀ : Sl) (ρ : Rho) : cmp fi vs g c fe (s₀ :: ρ) = (match fi (s₀ :: ρ) with
  | some ds => if okW (s₀ :: ρ) vs = true then cmpGo g c fe (wipeR (s₀ :: ρ) vs) ds else none
  | none => none) := rfl
@[simp] theorem getL_ev (i : Nat) (s₀ : Sl) (ρ : Rho) : getL i (s₀ :: ρ) = (match (s₀ :: ρ)[i]? with
  | some (.ow xs) => some xs
  | some (.io xs) => some xs
  | _ => none) := rfl
@[simp] theorem putL_ev (i : Nat) (xs : List D) (s₀ : Sl) (ρ : Rho) : putL i xs (s₀ :: ρ) = (match (s₀ :: ρ)[i]? with
  | some (.ow _) => (s₀ :: ρ).set i (.ow xs)
  | some (.io _) => (s₀ :: ρ).set i (.io xs)
  | _ => (s₀ :: ρ)) := rfl
@[simp] theorem frz_ev (i : Nat) (s₀ : Sl) (ρ : Rho) : frz i (s₀ :: ρ) = (match (s₀ :: ρ)[i]? with
  | some (.ow xs) => (s₀ :: ρ).set i (.va (.sq false xs))
  | _ => (s₀ :: ρ)) := rfl
@[simp] theorem pur_ev {α : Type} (f : Rho → Option α) (s₀ : Sl) (ρ : Rho) : pur f (s₀ :: ρ) = (match f (s₀ :: ρ) with
  | some a => some (a, (s₀ :: ρ))
  | none => none) := rfl
@[simp] theorem thenM_ev {α β γ : Type} (f : Rho → Option (α × Rho)) (g : Rho → Option (β × Rho)) (k : α → β → Option γ) (s₀ : Sl) (ρ : Rho) : thenM f g k (s₀ :: ρ) = (match f (s₀ :: ρ) with
  | some (a, ρ1) => match g ρ1 with
    | some (b, ρ2) => match k a b with
      | some c => some (c, ρ2)
      | none => none
    | none => none
  | none => none) := rfl
@[simp] theorem mapM_ev {α β : Type} (k : α → Option β) (f : Rho → Option (α × Rho)) (s₀ : Sl) (ρ : Rho) : mapM k f (s₀ :: ρ) = (match f (s₀ :: ρ) with
  | some (a, ρ1) => match k a with
    | some c => some (c, ρ1)
    | none => none
  | none => none) := rfl
@[simp] theorem ifM_ev {α : Type} (c : Rho → Option (Bool × Rho)) (f g : Rho → Option (α × Rho)) (s₀ : Sl) (ρ : Rho) : ifM c f g (s₀ :: ρ) = (match c (s₀ :: ρ) with
  | some (true, ρ1) => f ρ1
  | some (false, ρ1) => g ρ1
  | none => none) := rfl
@[simp] theorem ixB_ev (i : Nat) (fb : Rho → Option D) (s₀ : Sl) (ρ : Rho) : ixB i fb (s₀ :: ρ) = (match getL i (s₀ :: ρ) with
  | some xs => match fb (s₀ :: ρ) with
    | some (.int k) => atI xs k
    | _ => none
  | none => none) := rfl
@[simp] theorem valK_ev (f : Rho → Option (D × Rho)) (s₀ : Sl) (ρ : Rho) : valK f (s₀ :: ρ) = (match f (s₀ :: ρ) with
  | some (d, ρ1) => some (.val d, ρ1)
  | none => none) := rfl
@[simp] theorem frsK_ev (f : Rho → Option (List D)) (s₀ : Sl) (ρ : Rho) : frsK f (s₀ :: ρ) = (match f (s₀ :: ρ) with
  | some xs => some (.frs xs, (s₀ :: ρ))
  | none => none) := rfl
@[simp] theorem resK_ev (f : Rho → Option (Res × Rho)) (s₀ : Sl) (ρ : Rho) : resK f (s₀ :: ρ) = (match f (s₀ :: ρ) with
  | some (r, ρ1) => some (resD r, ρ1)
  | none => none) := rfl
@[simp] theorem truK_ev (d : D) : truK d = (truO (some d)) := rfl
@[simp] theorem notK_ev (b : Bool) : notK b = (some (!b)) := rfl
@[simp] theorem andM_ev (f g : Rho → Option (Bool × Rho)) (s₀ : Sl) (ρ : Rho) : andM f g (s₀ :: ρ) = (match f (s₀ :: ρ) with
  | some (true, ρ1) => g ρ1
  | some (false, ρ1) => some (false, ρ1)
  | none => none) := rfl
@[simp] theorem orM_ev (f g : Rho → Option (Bool × Rho)) (s₀ : Sl) (ρ : Rho) : orM f g (s₀ :: ρ) = (match f (s₀ :: ρ) with
  | some (true, ρ1) => some (true, ρ1)
  | some (false, ρ1) => g ρ1
  | none => none) := rfl
@[simp] theorem nilM_ev  (s₀ : Sl) (ρ : Rho) : nilM  (s₀ :: ρ) = (some ([], (s₀ :: ρ))) := rfl
@[simp] theorem conK_ev (d : D) (ds : List D) : conK d ds = (some (d :: ds)) := rfl
@[simp] theorem dspK_ev (t : Bool) (ds : List D) : dspK t ds = (if ds.length ≤ 1000 then some (.sq t ds) else none) := rfl
@[simp] theorem frsM_ev (ds : List D) : frsM ds = (if ds.length ≤ 1000 then some (.frs ds) else none) := rfl
@[simp] theorem resO_ev (g : List D → Option Res) (as : List D) : resO g as = (match g as with
  | some r => some (resD r)
  | none => none) := rfl
@[simp] theorem ioK_ev (i : Nat) (g : List D → List D → Option (Res × List D)) (fs : Rho → Option (List D × Rho)) (s₀ : Sl) (ρ : Rho) : ioK i g fs (s₀ :: ρ) = (match getL i (s₀ :: ρ) with
  | some _ => match fs (s₀ :: ρ) with
    | some (as, ρ1) => match getL i ρ1 with
      | some xs => match g xs as with
        | some (r, xs') => some (r, putL i xs' ρ1)
        | none => none
      | none => none
    | none => none
  | none => none) := rfl
@[simp] theorem stop_ev  (s₀ : Sl) (ρ : Rho) : stop  (s₀ :: ρ) = (none) := rfl
@[simp] theorem skip_ev  (s₀ : Sl) (ρ : Rho) : skip  (s₀ :: ρ) = (some (.nx, (s₀ :: ρ))) := rfl
@[simp] theorem seq_ev (f g : Rho → Option (Fl × Rho)) (s₀ : Sl) (ρ : Rho) : seq f g (s₀ :: ρ) = (match f (s₀ :: ρ) with
  | some (.nx, ρ1) => g ρ1
  | r => r) := rfl
@[simp] theorem frzS_ev (i : Nat) (f : Rho → Option (Fl × Rho)) (s₀ : Sl) (ρ : Rho) : frzS i f (s₀ :: ρ) = (f (frz i (s₀ :: ρ))) := rfl
@[simp] theorem expS_ev (f : Rho → Option (D × Rho)) (s₀ : Sl) (ρ : Rho) : expS f (s₀ :: ρ) = (match f (s₀ :: ρ) with
  | some (_, ρ1) => some (.nx, ρ1)
  | none => none) := rfl
@[simp] theorem retS_ev (f : Rho → Option (Res × Rho)) (s₀ : Sl) (ρ : Rho) : retS f (s₀ :: ρ) = (match f (s₀ :: ρ) with
  | some (r, ρ1) => some (.rt r, ρ1)
  | none => none) := rfl
@[simp] theorem retN_ev  (s₀ : Sl) (ρ : Rho) : retN  (s₀ :: ρ) = (some (.rt (.val .non), (s₀ :: ρ))) := rfl
@[simp] theorem retO_ev (i : Nat) (s₀ : Sl) (ρ : Rho) : retO i (s₀ :: ρ) = (match (s₀ :: ρ)[i]? with
  | some (.ow xs) => some (.rt (.frs xs), (s₀ :: ρ).set i .un)
  | _ => none) := rfl
@[simp] theorem putK_ev (i : Nat) (r : Res) (s₀ : Sl) (ρ : Rho) : putK i r (s₀ :: ρ) = (match (s₀ :: ρ)[i]? with
  | some (.io _) => none
  | some _ => some ((s₀ :: ρ).set i (slR r))
  | none => none) := rfl
@[simp] theorem setS_ev (i : Nat) (f : Rho → Option (Res × Rho)) (s₀ : Sl) (ρ : Rho) : setS i f (s₀ :: ρ) = (match f (s₀ :: ρ) with
  | some (r, ρ1) => match putK i r ρ1 with
    | some ρ2 => some (.nx, ρ2)
    | none => none
  | none => none) := rfl
@[simp] theorem asgS_ev (f : Rho → Option (D × Rho)) (g : D → Rho → Option Rho) (s₀ : Sl) (ρ : Rho) : asgS f g (s₀ :: ρ) = (match f (s₀ :: ρ) with
  | some (d, ρ1) => match g d ρ1 with
    | some ρ2 => some (.nx, ρ2)
    | none => none
  | none => none) := rfl
@[simp] theorem parS_ev (i j : Nat) (fa fb : Rho → Option (Res × Rho)) (s₀ : Sl) (ρ : Rho) : parS i j fa fb (s₀ :: ρ) = (match fa (s₀ :: ρ) with
  | some (r, ρ1) => match fb ρ1 with
    | some (r2, ρ2) => match putK j r2 ρ2 with
      | some ρ3 => match putK i r ρ3 with
        | some ρ4 => some (.nx, ρ4)
        | none => none
      | none => none
    | none => none
  | none => none) := rfl
@[simp] theorem itemS_ev (i : Nat) (f fi : Rho → Option (D × Rho)) (s₀ : Sl) (ρ : Rho) : itemS i f fi (s₀ :: ρ) = (match f (s₀ :: ρ) with
  | some (d, ρ1) => match getL i ρ1 with
    | some _ => match fi ρ1 with
      | some (.int k, ρ2) => match getL i ρ2 with
        | some xs => match ixN xs.length k with
          | some j => some (.nx, putL i (xs.set j d) ρ2)
          | none => none
        | none => none
      | _ => none
    | none => none
  | none => none) := rfl
@[simp] theorem appS_ev (i : Nat) (f : Rho → Option (D × Rho)) (s₀ : Sl) (ρ : Rho) : appS i f (s₀ :: ρ) = (match getL i (s₀ :: ρ) with
  | some _ => match f (s₀ :: ρ) with
    | some (d, ρ1) => match getL i ρ1 with
      | some xs => if xs.length < 16777216 then some (.nx, putL i (xs ++ [d]) ρ1) else none
      | none => none
    | none => none
  | none => none) := rfl
@[simp] theorem popK_ev (i : Nat) (f : Rho → Option (D × Rho)) (s₀ : Sl) (ρ : Rho) : popK i f (s₀ :: ρ) = (match getL i (s₀ :: ρ) with
  | some _ => match f (s₀ :: ρ) with
    | some (.int k, ρ1) => match getL i ρ1 with
      | some xs => if decide (-(2 ^ 63) ≤ k ∧ k < 2 ^ 63) = true then match seqIndex? k xs.length with
          | some j => match xs[j]? with
            | some d => some (d, putL i (xs.eraseIdx j) ρ1)
            | none => none
          | none => none
        else none
      | none => none
    | _ => none
  | none => none) := rfl
@[simp] theorem ifS_ev (c : Rho → Option (Bool × Rho)) (f g : Rho → Option (Fl × Rho)) (s₀ : Sl) (ρ : Rho) : ifS c f g (s₀ :: ρ) = (match c (s₀ :: ρ) with
  | some (true, ρ1) => f ρ1
  | some (false, ρ1) => g ρ1
  | none => none) := rfl
@[simp] theorem sqK_ev (d : D) : sqK d = (match d with
  | .sq _ xs => some xs
  | _ => none) := rfl
@[simp] theorem rgK_ev (d : D) : rgK d = (match d with
  | .int j => if rgOk 0 j = true then some (rgD 0 j) else none
  | _ => none) := rfl
@[simp] theorem forS_ev (fi : Rho → Option (List D × Rho)) (g : D → Rho → Option Rho) (fb : Rho → Option (Fl × Rho)) (s₀ : Sl) (ρ : Rho) : forS fi g fb (s₀ :: ρ) = (match fi (s₀ :: ρ) with
  | some (ds, ρ1) => forGo g fb ρ1 ds
  | none => none) := rfl
@[simp] theorem whS_ev (fu : Rho → Nat) (c : Rho → Option (Bool × Rho)) (fb : Rho → Option (Fl × Rho)) (s₀ : Sl) (ρ : Rho) : whS fu c fb (s₀ :: ρ) = (whGo c fb (fu (s₀ :: ρ)) (s₀ :: ρ)) := rfl
@[simp] theorem start0_ev (as : List D) (n : Nat) : start0 as n = (as.map .va ++ List.replicate (n - as.length) .un) := rfl
@[simp] theorem body0_ev (f : Rho → Option (Fl × Rho)) (ρ : Rho) : body0 f ρ = (match f ρ with
  | some (.rt r, ρ') => some (r, ρ')
  | some (.nx, ρ') => some (.val .non, ρ')
  | _ => none) := rfl
@[simp] theorem gG_ev (np n : Nat) (f : Rho → Option (Fl × Rho)) (as : List D) : gG np n f as = (if as.length = np then match body0 f (start0 as n) with
    | some (r, _) => some r
    | none => none
  else none) := rfl
@[simp] theorem ioOf_ev (s₀ : Sl) (ρ : Rho) : ioOf (s₀ :: ρ) = (match (s₀ :: ρ)[(0 : Nat)]? with
  | some (.io xs) => some xs
  | _ => none) := rfl
@[simp] theorem gI_ev (np n : Nat) (f : Rho → Option (Fl × Rho)) (xs as : List D) : gI np n f xs as = (if as.length + 1 = np then match body0 f (.io xs :: start0 as (n - 1)) with
    | some (r, ρ') => match ioOf ρ' with
      | some xs' => some (r, xs')
      | none => none
    | none => none
  else none) := rfl
@[simp] theorem remS_ev (i : Nat) (f : Rho → Option (D × Rho)) (s₀ : Sl) (ρ : Rho) : remS i f (s₀ :: ρ) = (match getL i (s₀ :: ρ) with
  | some _ => match f (s₀ :: ρ) with
    | some (.int k, ρ1) => match getL i ρ1 with
      | some xs => match intsO xs with
        | some ns => match firstIx k ns with
          | some j => some (.nx, putL i (xs.eraseIdx j) ρ1)
          | none => none
        | none => none
      | none => none
    | _ => none
  | none => none) := rfl
@[simp] theorem augI_ev (x y : D) : augI x y = (match x, y with
  | .int i, .int j => some (.int (i + j))
  | _, _ => none) := rfl
@[simp] theorem augSt_ev (i : Nat) (f : Rho → Option (D × Rho)) (s₀ : Sl) (ρ : Rho) : augSt i f (s₀ :: ρ) = (match getV i (s₀ :: ρ) with
  | some x => match f (s₀ :: ρ) with
    | some (y, ρ1) => match augI x y with
      | some z => match putK i (.val z) ρ1 with
        | some ρ2 => some (.nx, ρ2)
        | none => none
      | none => none
    | none => none
  | none => none) := rfl
@[simp] theorem orL_ev (fa fb : Rho → Option (List D)) (s₀ : Sl) (ρ : Rho) : orL fa fb (s₀ :: ρ) = (match fa (s₀ :: ρ) with
  | some [] => fb (s₀ :: ρ)
  | some (x :: xs) => some (x :: xs)
  | none => none) := rfl
@[simp] theorem lenSc_ev (fi : Rho → Option (List D)) (f : Rho → Option (List D)) (s₀ : Sl) (ρ : Rho) : lenSc fi f (s₀ :: ρ) = (match fi (s₀ :: ρ) with
  | some ds => if ds.length < 4000 then match f (s₀ :: ρ) with
      | some es => match intsO es with
        | some ns => some (.int (cntR ns.reverse))
        | none => none
      | none => none
    else none
  | none => none) := rfl
@[simp] theorem okW_ev (s₀ : Sl) (ρ : Rho) (vs : List Nat) : okW (s₀ :: ρ) vs = (vs.all fun i => match (s₀ :: ρ)[i]? with
  | some s => plainS s
  | none => true) := rfl
@[simp] theorem wipeR_nil (s₀ : Sl) (ρ : Rho) : wipeR (s₀ :: ρ) [] = s₀ :: ρ := rfl
@[simp] theorem wipeR_cons (s₀ : Sl) (ρ : Rho) (v : Nat) (vs : List Nat) : wipeR (s₀ :: ρ) (v :: vs) = (wipeR (s₀ :: ρ) vs).set v .un := rfl
@[simp] theorem plainS_un : plainS .un = true := rfl
@[simp] theorem plainS_va (d : D) : plainS (.va d) = true := rfl
end DL

-- DL20
/-! DL20: comprehensions and loops over mapped lists; operations on ints. -/
namespace DL
open L2 (atI ixN)
open PySem (seqIndex?)
@[simp] theorem beq_nn : D.beq .non .non = true := by rw [D.beq]
@[simp] theorem beq_ii (i j : Int) : D.beq (.int i) (.int j) = (i == j) := by rw [D.beq]
@[simp] theorem beq_bb (i j : Bool) : D.beq (.bl i) (.bl j) = (i == j) := by rw [D.beq]
@[simp] theorem beq_ss (x y : PySem.Str) : D.beq (.str x) (.str y) = (x == y) := by rw [D.beq]
@[simp] theorem beq_qq (t u : Bool) (xs ys : List D) : D.beq (.sq t xs) (.sq u ys) = ((t == u) && D.beqs xs ys) := by rw [D.beq]
@[simp] theorem beq_ni (j : Int) : D.beq .non (.int j) = false := rfl
@[simp] theorem beq_in (j : Int) : D.beq (.int j) .non = false := rfl
@[simp] theorem beq_nb (j : Bool) : D.beq .non (.bl j) = false := rfl
@[simp] theorem beq_bn (j : Bool) : D.beq (.bl j) .non = false := rfl
@[simp] theorem beq_nq (t : Bool) (xs : List D) : D.beq .non (.sq t xs) = false := rfl
@[simp] theorem beq_qn (t : Bool) (xs : List D) : D.beq (.sq t xs) .non = false := rfl
@[simp] theorem beqs_nil : D.beqs [] [] = true := by rw [D.beqs]
@[simp] theorem beqs_cons (x y : D) (xs ys : List D) : D.beqs (x :: xs) (y :: ys) = (D.beq x y && D.beqs xs ys) := by rw [D.beqs]
@[simp] theorem beqs_cn (x : D) (xs : List D) : D.beqs (x :: xs) [] = false := rfl
@[simp] theorem beqs_nc (x : D) (xs : List D) : D.beqs [] (x :: xs) = false := rfl
@[simp] theorem shal_n (k : Nat) : D.shal .non k = true := rfl
@[simp] theorem shal_b (b : Bool) (k : Nat) : D.shal (.bl b) k = true := rfl
@[simp] theorem shal_i (b : Int) (k : Nat) : D.shal (.int b) k = true := rfl
@[simp] theorem shal_s (b : PySem.Str) (k : Nat) : D.shal (.str b) k = true := rfl
@[simp] theorem shal_q (t : Bool) (xs : List D) (k : Nat) : D.shal (.sq t xs) (k + 1) = D.shals xs k := by rw [D.shal]
@[simp] theorem shal_q50 (t : Bool) (xs : List D) : D.shal (.sq t xs) 50 = D.shals xs 49 := by rw [D.shal]
@[simp] theorem shals_nil (k : Nat) : D.shals [] k = true := by rw [D.shals]
@[simp] theorem shals_cons (x : D) (xs : List D) (k : Nat) : D.shals (x :: xs) k = (D.shal x k && D.shals xs k) := by rw [D.shals]
@[simp] theorem alk_i (i j : Int) : D.alk (.int i) (.int j) = true := by rw [D.alk]
@[simp] theorem alk_q (t u : Bool) (xs ys : List D) : D.alk (.sq t xs) (.sq u ys) = ((t == u) && D.alks xs ys) := by rw [D.alk]
@[simp] theorem alks_cons (x y : D) (xs ys : List D) : D.alks (x :: xs) (y :: ys) = (D.alk x y && D.alks xs ys) := by rw [D.alks]
@[simp] theorem alks_nil (ys : List D) : D.alks [] ys = true := by cases ys <;> rfl
@[simp] theorem isNon_n : D.isNon .non = true := rfl
@[simp] theorem isNon_i (i : Int) : D.isNon (.int i) = false := rfl
@[simp] theorem isNon_b (i : Bool) : D.isNon (.bl i) = false := rfl
@[simp] theorem isNon_s (i : PySem.Str) : D.isNon (.str i) = false := rfl
@[simp] theorem isNon_q (t : Bool) (xs : List D) : D.isNon (.sq t xs) = false := rfl
@[simp] theorem lt_ii (i j : Int) : D.lt (.int i) (.int j) = decide (i < j) := by rw [D.lt]
@[simp] theorem lt_qq (t u : Bool) (xs ys : List D) : D.lt (.sq t xs) (.sq u ys) = D.lts xs ys := by rw [D.lt]
@[simp] theorem lts_nn : D.lts [] [] = false := rfl
@[simp] theorem lts_cc (x y : D) (xs ys : List D) : D.lts (x :: xs) (y :: ys) = (if D.beq x y = true then D.lts xs ys else D.lt x y) := by rw [D.lts]
theorem okl_ii (i j : Int) : okl (.int i) (.int j) = true := by simp
@[simp] theorem leD_ii (i j : Int) : leD (.int i) (.int j) = some (.bl (decide (i ≤ j))) := by
  unfold leD
  rw [if_pos (okl_ii i j), lt_ii]
  by_cases h : i ≤ j
  · simp [h, Int.not_lt.mpr h]
  · simp [h, Int.not_le.mp h]
@[simp] theorem ltD_ii (i j : Int) : ltD (.int i) (.int j) = some (.bl (decide (i < j))) := by
  unfold ltD
  rw [if_pos (okl_ii i j), lt_ii]
@[simp] theorem gtD_ii (i j : Int) : gtD (.int i) (.int j) = some (.bl (decide (j < i))) := by
  unfold gtD
  rw [if_pos (okl_ii i j), lt_ii]
@[simp] theorem geD_ii (i j : Int) : geD (.int i) (.int j) = some (.bl (decide (j ≤ i))) := by
  unfold geD
  rw [if_pos (okl_ii i j), lt_ii]
  by_cases h : j ≤ i
  · simp [h, Int.not_lt.mpr h]
  · simp [h, Int.not_le.mp h]
@[simp] theorem addD_ii (i j : Int) : addD (.int i) (.int j) = some (.int (i + j)) := rfl
@[simp] theorem addD_qq (t u : Bool) (xs ys : List D) : addD (.sq t xs) (.sq u ys) = if t = u ∧ xs.length + ys.length ≤ 16777216 then some (.sq t (xs ++ ys)) else none := rfl
@[simp] theorem intD_ii (C : Int → Int → Bool) (g : Int → Int → Int) (i j : Int) : intD C g (.int i) (.int j) = if C i j = true then some (.int (g i j)) else none := rfl
@[simp] theorem subD_ii (i j : Int) : subD (.int i) (.int j) = some (.int (i - j)) := rfl
@[simp] theorem negD_i (i : Int) : negD (.int i) = some (.int (-i)) := rfl
@[simp] theorem ixD_q (t : Bool) (xs : List D) (i : Int) : ixD (.sq t xs) (.int i) = atI xs i := rfl
@[simp] theorem lenD_q (t : Bool) (xs : List D) : lenD [.sq t xs] = some (.int (xs.length : Int)) := rfl
@[simp] theorem listD_q (t : Bool) (xs : List D) : listD [.sq t xs] = some (.sq false xs) := rfl
@[simp] theorem tupleD_q (t : Bool) (xs : List D) : tupleD [.sq t xs] = some (.sq true xs) := rfl
@[simp] theorem absD_i (i : Int) : absD [.int i] = some (.int (if i < 0 then -i else i)) := rfl
@[simp] theorem intC_i (i : Int) : intC [.int i] = some (.int i) := rfl
@[simp] theorem intC_b (b : Bool) : intC [.bl b] = some (.int (if b then 1 else 0)) := rfl
@[simp] theorem boolD_s (b : Bool) : boolD (some (.bl b)) = some b := rfl
@[simp] theorem truO_b (b : Bool) : truO (some (.bl b)) = some b := rfl
@[simp] theorem truO_i (i : Int) : truO (some (.int i)) = some (i != 0) := rfl
@[simp] theorem truO_q (t : Bool) (xs : List D) : truO (some (.sq t xs)) = some (!xs.isEmpty) := rfl
@[simp] theorem sqO_s (t : Bool) (xs : List D) : sqO (some (.sq t xs)) = some xs := rfl
@[simp] theorem lstO_s (xs : List D) : lstO (some xs) = some (.sq false xs) := rfl
@[simp] theorem flO_i (i : Int) : flO (some (.int i)) = some (.int i) := rfl
@[simp] theorem flO_b (i : Bool) : flO (some (.bl i)) = some (.bl i) := rfl
@[simp] theorem flO_n : flO (some .non) = some .non := rfl
@[simp] theorem flO_s (i : PySem.Str) : flO (some (.str i)) = some (.str i) := rfl
@[simp] theorem blD_b (b : Bool) : blD (.bl b) = some b := rfl
@[simp] theorem resD_v (d : D) : resD (.val d) = d := rfl
@[simp] theorem resD_f (xs : List D) : resD (.frs xs) = .sq false xs := rfl
@[simp] theorem slR_v (d : D) : slR (.val d) = .va d := rfl
@[simp] theorem slR_f (xs : List D) : slR (.frs xs) = .ow xs := rfl
@[simp] theorem sqG_q (gs : List D → Rho → Option Rho) (t : Bool) (xs : List D) (ρ : Rho) : sqG gs (.sq t xs) ρ = gs xs ρ := rfl
@[simp] theorem isK_n_int : isK .non .int = false := rfl
@[simp] theorem isK_n_bool : isK .non .bool = false := rfl
@[simp] theorem isK_n_str : isK .non .str = false := rfl
@[simp] theorem isK_n_list : isK .non .list = false := rfl
@[simp] theorem isK_n_tuple : isK .non .tuple = false := rfl
@[simp] theorem isK_b_int (b : Bool) : isK (.bl b) .int = true := rfl
@[simp] theorem isK_b_bool (b : Bool) : isK (.bl b) .bool = true := rfl
@[simp] theorem isK_b_str (b : Bool) : isK (.bl b) .str = false := rfl
@[simp] theorem isK_b_list (b : Bool) : isK (.bl b) .list = false := rfl
@[simp] theorem isK_b_tuple (b : Bool) : isK (.bl b) .tuple = false := rfl
@[simp] theorem isK_i_int (b : Int) : isK (.int b) .int = true := rfl
@[simp] theorem isK_i_bool (b : Int) : isK (.int b) .bool = false := rfl
@[simp] theorem isK_i_str (b : Int) : isK (.int b) .str = false := rfl
@[simp] theorem isK_i_list (b : Int) : isK (.int b) .list = false := rfl
@[simp] theorem isK_i_tuple (b : Int) : isK (.int b) .tuple = false := rfl
@[simp] theorem isK_s_int (b : PySem.Str) : isK (.str b) .int = false := rfl
@[simp] theorem isK_s_bool (b : PySem.Str) : isK (.str b) .bool = false := rfl
@[simp] theorem isK_s_str (b : PySem.Str) : isK (.str b) .str = true := rfl
@[simp] theorem isK_s_list (b : PySem.Str) : isK (.str b) .list = false := rfl
@[simp] theorem isK_s_tuple (b : PySem.Str) : isK (.str b) .tuple = false := rfl
@[simp] theorem isK_l_int (xs : List D) : isK (.sq false xs) .int = false := rfl
@[simp] theorem isK_l_bool (xs : List D) : isK (.sq false xs) .bool = false := rfl
@[simp] theorem isK_l_str (xs : List D) : isK (.sq false xs) .str = false := rfl
@[simp] theorem isK_l_list (xs : List D) : isK (.sq false xs) .list = true := rfl
@[simp] theorem isK_l_tuple (xs : List D) : isK (.sq false xs) .tuple = false := rfl
@[simp] theorem isK_t_int (xs : List D) : isK (.sq true xs) .int = false := rfl
@[simp] theorem isK_t_bool (xs : List D) : isK (.sq true xs) .bool = false := rfl
@[simp] theorem isK_t_str (xs : List D) : isK (.sq true xs) .str = false := rfl
@[simp] theorem isK_t_list (xs : List D) : isK (.sq true xs) .list = false := rfl
@[simp] theorem isK_t_tuple (xs : List D) : isK (.sq true xs) .tuple = true := rfl
theorem blsD_map' : ∀ bs : List Bool, blsD (bs.map D.bl) = some bs
  | [] => rfl
  | b :: bs => by rw [List.map_cons, blsD, blsD_map' bs]
@[simp] theorem allD_map {α : Type} (f : α → Bool) (xs : List α) : allD [.sq false (xs.map fun x => D.bl (f x))] = some (.bl (xs.all f)) := by
  have e : (xs.map fun x => D.bl (f x)) = (xs.map f).map D.bl := by rw [List.map_map]; rfl
  show (match blsD (xs.map fun x => D.bl (f x)) with
    | some ns => some (D.bl (ns.all id))
    | none => none) = _
  rw [e, blsD_map']
  simp
@[simp] theorem allD_nil : allD [.sq false []] = some (.bl true) := rfl
@[simp] theorem sumD_map {α : Type} (f : α → Int) (xs : List α) : sumD [.sq false (xs.map fun x => D.int (f x))] = some (.int (xs.map f).sum) := by
  have e : (xs.map fun x => D.int (f x)) = (xs.map f).map D.int := by rw [List.map_map]; rfl
  show (match intsD (xs.map fun x => D.int (f x)) with
    | some ns => some (D.int ns.sum)
    | none => none) = _
  rw [e, intsD_map]
@[simp] theorem minD_ii (i j : Int) : minD [.int i, .int j] = some (.int (if j < i then j else i)) := rfl
@[simp] theorem maxD_ii (i j : Int) : maxD [.int i, .int j] = some (.int (if j > i then j else i)) := rfl
@[simp] theorem atI_0 {α : Type} (x : α) (xs : List α) : atI (x :: xs) 0 = some x := L2.atI_nat (j := 0) rfl
@[simp] theorem atI_1 {α : Type} (x y : α) (xs : List α) : atI (x :: y :: xs) 1 = some y := L2.atI_nat (j := 1) rfl
@[simp] theorem atI_2 {α : Type} (x y z : α) (xs : List α) : atI (x :: y :: z :: xs) 2 = some z := L2.atI_nat (j := 2) rfl
theorem ixN_nat {n j : Nat} : ixN n (j : Int) = if j < n then some j else none := by
  unfold ixN
  rw [if_pos (Int.natCast_nonneg j)]
  simp
theorem atI_at {α : Type} {xs : List α} {j : Nat} : atI xs (j : Int) = xs[j]? := by
  cases h : xs[j]? with
  | none =>
    have hl := List.getElem?_eq_none_iff.mp h
    unfold atI
    rw [ixN_nat, if_neg (by omega)]
    rfl
  | some x => exact L2.atI_nat h
theorem ixN_last (n : Nat) : ixN (n + 1) (-1) = some n := by
  unfold ixN
  rw [if_neg (by decide), if_pos (by omega)]
  congr 1
  omega
theorem atI_last {α : Type} {xs : List α} {x : α} : atI (xs ++ [x]) (-1) = some x := by
  unfold atI
  rw [List.length_append, List.length_singleton, ixN_last]
  simp
theorem cmpGo_map {α : Type} {f : α → D} {p : α → Bool} {h : α → D} {g : D → Rho → Option Rho} {c : Rho → Option Bool} {fe : Rho → Option D} {ρ : Rho} : ∀ (xs : List α), (∀ x ∈ xs, ∃ ρ', g (f x) ρ = some ρ' ∧ c ρ' = some (p x) ∧ (p x = true → fe ρ' = some (h x))) → cmpGo g c fe ρ (xs.map f) = some ((xs.filter p).map h)
  | [], _ => rfl
  | x :: xs, hs => by
    obtain ⟨ρ', h1, h2, h3⟩ := hs x List.mem_cons_self
    have ih := cmpGo_map xs fun y hy => hs y (List.mem_cons_of_mem _ hy)
    rw [List.map_cons, cmpGo]
    simp only [h1, h2]
    cases hp : p x with
    | true =>
      rw [hp] at h2
      simp only [h3 hp, ih]
      rw [List.filter_cons_of_pos hp]
      rfl
    | false =>
      simp only [ih]
      rw [List.filter_cons_of_neg (by rw [hp]; exact Bool.false_ne_true)]
theorem cmpGo_mapT {α : Type} {f : α → D} {h : α → D} {g : D → Rho → Option Rho} {c : Rho → Option Bool} {fe : Rho → Option D} {ρ : Rho} (xs : List α) (hs : ∀ x ∈ xs, ∃ ρ', g (f x) ρ = some ρ' ∧ c ρ' = some true ∧ fe ρ' = some (h x)) : cmpGo g c fe ρ (xs.map f) = some (xs.map h) := by
  rw [cmpGo_map (p := fun _ => true) (h := h) xs fun x hx => let ⟨ρ', h1, h2, h3⟩ := hs x hx; ⟨ρ', h1, h2, fun _ => h3⟩, List.filter_eq_self.mpr fun _ _ => rfl]
theorem forGo_map {α β : Type} {f : α → D} {g : D → Rho → Option Rho} {fb : Rho → Option (Fl × Rho)} (I : β → Rho → Prop) (step : β → α → β) : ∀ (xs : List α) (b : β) (ρ : Rho), I b ρ → (∀ x ∈ xs, ∀ b ρ, I b ρ → ∃ ρ1 ρ2, g (f x) ρ = some ρ1 ∧ fb ρ1 = some (.nx, ρ2) ∧ I (step b x) ρ2) → ∃ ρ', forGo g fb ρ (xs.map f) = some (.nx, ρ') ∧ I (xs.foldl step b) ρ'
  | [], b, ρ, h, _ => ⟨ρ, rfl, h⟩
  | x :: xs, b, ρ, h, hs => by
    obtain ⟨ρ1, ρ2, h1, h2, h3⟩ := hs x List.mem_cons_self b ρ h
    obtain ⟨ρ', h4, h5⟩ := forGo_map I step xs (step b x) ρ2 h3 fun y hy => hs y (List.mem_cons_of_mem _ hy)
    refine ⟨ρ', ?_, h5⟩
    rw [List.map_cons, forGo]
    simp only [h1, h2, h4]
theorem forGo_get {α β : Type} {f : α → D} {g : D → Rho → Option Rho} {fb : Rho → Option (Fl × Rho)} {xs : List α} {ρ : Rho} {F : Option (Fl × Rho)} (hF : forGo g fb ρ (xs.map f) = F) (I : β → Rho → Prop) (step : β → α → β) (b : β) (h : I b ρ) (hs : ∀ x ∈ xs, ∀ b ρ, I b ρ → ∃ ρ1 ρ2, g (f x) ρ = some ρ1 ∧ fb ρ1 = some (.nx, ρ2) ∧ I (step b x) ρ2) : ∃ ρ', F = some (.nx, ρ') ∧ I (xs.foldl step b) ρ' := by
  obtain ⟨ρ', h1, h2⟩ := forGo_map I step xs b ρ h hs
  exact ⟨ρ', hF.symm.trans h1, h2⟩
theorem enuD_map {α : Type} (f : α → D) (xs : List α) : enuD (xs.map f) = xs.zipIdx.map fun p => .sq true [.int (p.2 : Nat), f p.1] := by
  unfold enuD
  refine List.ext_getElem? fun i => ?_
  rw [List.getElem?_mapIdx, List.getElem?_map, List.getElem?_map, List.getElem?_zipIdx]
  cases xs[i]? with
  | none => rfl
  | some x => simp
theorem zipD_map {α β : Type} (f : α → D) (g : β → D) : ∀ (xs : List α) (ys : List β), zipD (xs.map f) (ys.map g) = (xs.zip ys).map fun p => .sq true [f p.1, g p.2]
  | [], ys => by simp [zipD]
  | xs, [] => by simp [zipD]
  | x :: xs, y :: ys => by
    have ih := zipD_map f g xs ys
    unfold zipD at ih ⊢
    simp [ih]
section
open PySem PySem.Spec PyProof.Rows L2
theorem cutD_drop1 (xs : List D) : cutD xs (some 1) none = xs.drop 1 := by
  unfold cutD
  rw [show HT.sIx xs.length 0 (some 1) = min 1 xs.length from HT.sIx_nat xs.length 0 1, HT.sIx_none]
  cases xs with
  | nil => rfl
  | cons x r =>
    rw [show min 1 (x :: r).length = 1 by rw [List.length_cons]; omega]
    simp
end
@[simp] theorem slD_l (xs : List D) (lo hi : Option Int) : slD (.sq false xs) lo hi = some (.sq false (cutD xs lo hi)) := by simp [slD]
@[simp] theorem zipD_cons (x y : D) (xs ys : List D) : zipD (x :: xs) (y :: ys) = .sq true [x, y] :: zipD xs ys := rfl
@[simp] theorem zipD_nil (ys : List D) : zipD [] ys = [] := rfl
end DL

-- K88_F
namespace K88
open DL PySem PySem.Spec PyProof.Rows L2
/-! what each def computes, over its slots (printed by gen.py) -/
/-- _law_box -/
def b_law_box : Rho → Option (Fl × Rho) := (seq (setS 2 (valK (pur (ifV (fun ρ => boolD ((bin ltD (getB 1) (mny lenD (consA (getB 0) nilA))) ρ)) (bin ixD (getV 0) (getV 1)) (cst (.int 0))))))
    (retS (frsK (dspL (consA (bin mulD (mny absD (consA (getV 2) nilA)) (mny intC (consA (bin geD (mny absD (consA (getV 2) nilA)) (bin powD (cst (.int 10)) (cst (.int 18)))) nilA))) (consA (bin addD (bin addD (bin modD (mny intC (consA (getV 2) nilA)) (cst (.int 2305843009213693951))) (bin mulD (cst (.int 39373)) (getV 1))) (cst (.int 365477))) (consA (cst (.int 0)) nilA)))))))
def g_law_box := gG 2 3 b_law_box
/-- _law_take -/
def b_law_take : Rho → Option (Fl × Rho) := (seq (ifS (pur (fun ρ => boolD ((bin gtD (bin ixD (getB 0) (cst (.int 0))) (cst (.int 0))) ρ))) (seq (setS 5 (valK (pur (bin modD (fun ρ => flO ((mny intC (consA (bin ixD (getB 0) (cst (.int 0))) nilA)) ρ)) (getV 1)))))
    (seq (itemS 0 (pur (bin fdivD (ixB 0 (cst (.int 0))) (getV 1))) (pur (cst (.int 0))))
    (retS (valK (pur (getV 5)))))) skip)
    (seq (itemS 0 (pur (bin addD (ixB 0 (cst (.int 2))) (cst (.int 1)))) (pur (cst (.int 2))))
    (seq (setS 2 (valK (pur (bin modD (fun ρ => flO ((mny intC (consA (bin mulD (bin addD (bin ixD (getB 0) (cst (.int 1))) (bin mulD (cst (.int 48271)) (bin ixD (getB 0) (cst (.int 2))))) (bin addD (cst (.int 39373)) (bin ixD (getB 0) (cst (.int 2))))) nilA)) ρ)) (cst (.int 2147483647))))))
    (seq (setS 3 (valK (pur (bin addD (bin modD (mny intC (consA (getV 2) nilA)) (cst (.int 40009))) (cst (.int 7))))))
    (seq (setS 4 (valK (pur (bin modD (fun ρ => flO ((mny intC (consA (bin mulD (bin addD (bin addD (getB 2) (bin ixD (getB 0) (cst (.int 2)))) (bin fdivD (bin ixD (getB 0) (cst (.int 1))) (cst (.int 1000003)))) (getB 3)) nilA)) ρ)) (cst (.int 2147483629))))))
    (retS (valK (pur (bin modD (mny intC (consA (bin fdivD (bin modD (mny intC (consA (bin addD (bin mulD (getV 4) (cst (.int 48271))) (getV 2)) nilA)) (cst (.int 2147483587))) (cst (.int 64))) nilA)) (getV 1))))))))))
def g_law_take := gI 2 6 b_law_take
/-- _law_pick -/
def b_law_pick : Rho → Option (Fl × Rho) := (seq (parS 4 5 (frsK (fun ρ => sqO ((getV 1) ρ))) (frsK (dspL nilA)))
    (seq (forS (mapM rgK (pur (mny minD (consA (getV 2) (consA (fun ρ => flO ((mny lenD (consA (getB 4) nilA)) ρ)) nilA))))) (setR 3) (appS 5 (popK 4 (resK (ioK 0 g_law_take (thenM (pur (fun ρ => flO ((mny lenD (consA (getB 4) nilA)) ρ))) nilM conK))))))
    (retO 5)))
def g_law_pick := gI 3 6 b_law_pick
/-- _law_shop -/
def b_law_shop : Rho → Option (Fl × Rho) := (seq (setS 3 (valK (mapM sortD (thenM (resK (ioK 0 g_law_pick (thenM (pur (lstRg false (rg2 (cst (.int 1)) (cst (.int 12))))) (thenM (thenM (pur (cst (.int 2))) (resK (ioK 0 g_law_take (thenM (pur (bin subD (getV 2) (cst (.int 1)))) nilM conK))) addD) nilM conK) conK))) nilM conK))))
    (seq (setS 4 (frsK (dspL nilA)))
    (seq (forS (mapM rgK (thenM (pur (cst (.int 1))) (resK (ioK 0 g_law_take (thenM (pur (getV 1)) nilM conK))) addD)) (setR 5) (seq (setS 6 (valK (thenM (pur (cst (.int 1))) (resK (ioK 0 g_law_take (thenM (pur (cst (.int 8))) nilM conK))) addD)))
    (appS 4 (mapM (dspK true) (thenM (pur (getV 6)) (thenM (thenM (pur (getV 6)) (resK (ioK 0 g_law_take (thenM (pur (cst (.int 9))) nilM conK))) addD) nilM conK) conK)))))
    (frzS 4 (retS (valK (pur (dsp true (consA (mny tupleD (consA (getV 3) nilA)) (consA (mny tupleD (consA (getV 4) nilA)) nilA))))))))))
def g_law_shop := gI 3 7 b_law_shop
/-- plain_shop -/
def b_plain_shop : Rho → Option (Fl × Rho) := (retS (valK (pur (dsp true (consA (mny tupleD (consA (bin ixD (getV 0) (cst (.int 0))) nilA)) (consA (mny tupleD (consA (fun ρ => lstO ((cmp (fun ρ => sqO ((bin ixD (getV 0) (cst (.int 1))) ρ)) [1] (setR 1) yesB (mny tupleD (consA (getV 1) nilA))) ρ)) nilA)) nilA))))))
def g_plain_shop := gG 1 2 b_plain_shop
/-- with_spindle -/
def b_with_spindle : Rho → Option (Fl × Rho) := (seq (asgS (pur (mny (resO g_plain_shop) (consA (getV 0) nilA))) (sqG (consG (setR 2) (consG (setR 3) nilG))))
    (seq (ifS (pur (fun ρ => boolD ((bin inD (getB 1) (getB 2)) ρ))) stop skip)
    (retS (valK (pur (dsp true (consA (mny tupleD (consA (mny sortD (consA (bin addD (getV 2) (dsp true (consA (getV 1) nilA))) nilA)) nilA)) (consA (getV 3) nilA))))))))
def g_with_spindle := gG 2 4 b_with_spindle
/-- with_machine -/
def b_with_machine : Rho → Option (Fl × Rho) := (seq (asgS (pur (mny (resO g_plain_shop) (consA (getV 0) nilA))) (sqG (consG (setR 3) (consG (setR 4) nilG))))
    (retS (valK (pur (dsp true (consA (getV 3) (consA (bin addD (getV 4) (dsp true (consA (dsp true (consA (getV 1) (consA (getV 2) nilA))) nilA))) nilA)))))))
def g_with_machine := gG 3 5 b_with_machine
/-- _law_cells -/
def b_law_cells : Rho → Option (Fl × Rho) := (seq (setS 2 (frsK (orL (fun ρ => sqO ((slc (getV 0) noO (intO (getB 1))) ρ)) (dspL (consA (cst (.int 0)) nilA)))))
    (seq (forS (pur (mapO enuD (slc (getV 0) (intO (getB 1)) (intO (cst (.int 63)))))) (sqG (consG (setR 3) (consG (setR 4) nilG))) (seq (setS 5 (valK (pur (bin modD (mny intC (consA (getV 3) nilA)) (getV 1)))))
    (itemS 2 (pur (bin addD (ixB 2 (getB 5)) (bin mulD (getV 4) (bin addD (getV 3) (cst (.int 2)))))) (pur (getV 5)))))
    (retO 2)))
def g_law_cells := gG 2 6 b_law_cells
/-- _law_lists -/
def b_law_lists (g : List D → Option Res) : Rho → Option (Fl × Rho) := (retS (valK (pur (ifV (fun ρ => truO ((isiF2 .list .tuple (getB 0)) ρ)) (fun ρ => lstO ((cmp (fun ρ => sqO ((getV 0) ρ)) [1] (setR 1) yesB (mny (resO g) (consA (getV 1) nilA))) ρ)) (getV 0)))))
def g_law_lists : Nat → List D → Option Res
  | 0 => noG
  | n + 1 => gG 1 2 (b_law_lists (g_law_lists n))
/-- served -/
def b_served : Rho → Option (Fl × Rho) := (retS (valK (pur (mny lenD (consA (fun ρ => lstO ((cmp (fun ρ => sqO ((getV 0) ρ)) [1] (setR 1) (fun ρ => boolD ((bin isnN (getB 1) (cst .non)) ρ)) (getV 1)) ρ)) nilA)))))
def g_served := gG 1 2 b_served
/-- takes -/
def b_takes : Rho → Option (Fl × Rho) := (retS (valK (pur (chn leD leD (bin ixD (getV 0) (cst (.int 0))) (getV 1) (bin ixD (getV 0) (cst (.int 1)))))))
def g_takes := gG 2 2 b_takes
/-- greedy -/
def b_greedy : Rho → Option (Fl × Rho) := (seq (setS 2 (frsK (cmp (fun ρ => sqO ((getV 1) ρ)) [5] (setR 5) yesB (cst .non))))
    (seq (forS (pur (fun ρ => sqO ((getV 0) ρ))) (setR 3) (seq (setS 4 (valK (pur fun ρ => lstO ((cmp (mapO enuD (getV 1)) [5, 6] (sqG (consG (setR 6) (consG (setR 5) nilG))) (fun ρ => boolD ((bin isN (bin ixD (getB 2) (getB 6)) (cst .non)) ρ)) (dsp true (consA (bin ixD (getV 5) (cst (.int 1))) (consA (getV 6) nilA)))) ρ))))
    (seq (setS 4 (valK (pur fun ρ => lstO ((cmp (fun ρ => sqO ((getV 4) ρ)) [6, 7] (sqG (consG (setR 7) (consG (setR 6) nilG))) (fun ρ => truO ((mny (resO g_takes) (consA (bin ixD (getB 1) (getB 6)) (consA (getB 3) nilA))) ρ)) (dsp true (consA (getV 7) (consA (getV 6) nilA)))) ρ))))
    (ifS (pur (fun ρ => boolD ((bin gtD (mny lenD (consA (getB 4) nilA)) (cst (.int 0))) ρ))) (itemS 2 (pur (getV 3)) (pur (bin ixD (mny minD (consA (getV 4) nilA)) (cst (.int 1))))) skip))))
    (retO 2)))
def g_greedy := gG 2 8 b_greedy
/-- service -/
def b_service : Rho → Option (Fl × Rho) := (retS (valK (pur (mny tupleD (consA (mny (resO g_greedy) (consA (bin ixD (getV 0) (cst (.int 0))) (consA (bin ixD (getV 0) (cst (.int 1))) nilA))) nilA)))))
def g_service := gG 1 1 b_service
/-- most_served -/
def b_most_served : Rho → Option (Fl × Rho) := (retS (valK (pur (mny (resO g_served) (consA (mny (resO g_service) (consA (getV 0) nilA)) nilA)))))
def g_most_served := gG 1 1 b_most_served
def fu_closed : Rho → Nat := fun _ => 100
/-- closed -/
def b_closed : Rho → Option (Fl × Rho) := (seq (asgS (pur (bin ixD (getV 0) (getV 2))) (sqG (consG (setR 4) (consG (setR 5) nilG))))
    (seq (setS 3 (valK (pur (getV 4))))
    (seq (whS fu_closed (pur (fun ρ => boolD ((bin isnN (getB 3) (cst .non)) ρ))) (seq (setS 4 (valK (pur (getV 3))))
    (seq (setS 6 (valK (pur fun ρ => lstO ((cmp (zipF (getV 0) (getV 1)) [7, 8] (sqG (consG (setR 7) (consG (setR 8) nilG))) (andB (fun ρ => boolD ((bin isnN (getB 8) (cst .non)) ρ)) (fun ρ => boolD ((chn leD leD (getB 4) (getB 8) (getB 5)) ρ))) (bin ixD (getV 7) (cst (.int 0)))) ρ))))
    (setS 3 (valK (pur (kwF minK (consA (fun ρ => lstO ((cmp (fun ρ => sqO ((getV 6) ρ)) [9] (setR 9) (fun ρ => boolD ((bin ltD (getB 9) (getB 4)) ρ)) (getV 9)) ρ)) nilA) (cst .non))))))))
    (retS (valK (pur (dsp true (consA (getV 4) (consA (getV 5) nilA)))))))))
def g_closed := gG 3 10 b_closed
/-- shortages -/
def b_shortages : Rho → Option (Fl × Rho) := (seq (asgS (pur (dsp true (consA (mny (resO g_service) (consA (getV 0) nilA)) (consA (bin ixD (getV 0) (cst (.int 1))) nilA)))) (sqG (consG (setR 2) (consG (setR 3) nilG))))
    (seq (setS 1 (frsK (dspL nilA)))
    (seq (forS (pur (fun ρ => sqO ((mny sortD (consA (fun ρ => lstO ((cmp (mapO enuD (getV 2)) [6, 7] (sqG (consG (setR 6) (consG (setR 7) nilG))) (fun ρ => boolD ((bin isN (getB 7) (cst .non)) ρ)) (mny (resO g_closed) (consA (getV 3) (consA (getV 2) (consA (getV 6) nilA))))) ρ)) nilA)) ρ))) (sqG (consG (setR 4) (consG (setR 5) nilG))) (ifS (pur (andB (fun ρ => boolD ((bin gtD (mny lenD (consA (getB 1) nilA)) (cst (.int 0))) ρ)) (fun ρ => boolD ((bin leD (getB 4) (bin ixD (bin ixD (getB 1) (una negD (cst (.int 1)))) (cst (.int 1)))) ρ)))) (itemS 1 (pur (dsp true (consA (bin ixD (ixB 1 (una negD (cst (.int 1)))) (cst (.int 0))) (consA (mny maxD (consA (getV 5) (consA (bin ixD (ixB 1 (una negD (cst (.int 1)))) (cst (.int 1))) nilA))) nilA)))) (pur (una negD (cst (.int 1))))) (appS 1 (pur (dsp true (consA (getV 4) (consA (getV 5) nilA)))))))
    (retO 1))))
def g_shortages := gG 1 8 b_shortages
/-- _law_same -/
def b_law_same (g : List D → Option Res) : Rho → Option (Fl × Rho) := (seq (ifS (pur (fun ρ => truO ((isiF2 .list .tuple (getB 1)) ρ))) (seq (ifS (pur (orB (fun ρ => boolD ((bin neD (isiF .list (getB 0)) (isiF .list (getB 1))) ρ)) (fun ρ => boolD ((bin neD (isiF .tuple (getB 0)) (isiF .tuple (getB 1))) ρ)))) (retS (valK (pur (cst (.bl false))))) skip)
    (retS (valK (pur (andV (bin eqD (mny lenD (consA (getV 0) nilA)) (mny lenD (consA (getV 1) nilA))) (mny allD (consA (fun ρ => lstO ((cmp (zipF (getV 0) (getV 1)) [2, 3] (sqG (consG (setR 2) (consG (setR 3) nilG))) yesB (mny (resO g) (consA (getV 2) (consA (getV 3) nilA)))) ρ)) nilA))))))) skip)
    (seq (ifS (pur (orB (fun ρ => boolD ((bin isN (getB 1) (cst .non)) ρ)) (fun ρ => truO ((isiF2 .bool .str (getB 1)) ρ)))) (retS (valK (pur (andV (bin eqD (getV 0) (getV 1)) (andV (bin eqD (isiF .bool (getV 0)) (isiF .bool (getV 1))) (bin eqD (bin isN (getV 0) (cst .non)) (bin isN (getV 1) (cst .non)))))))) skip)
    (retS (valK (pur (andV (isiF .int (getV 0)) (andV (notV (isiF .bool (getV 0))) (bin eqD (getV 0) (getV 1)))))))))
def g_law_same : Nat → List D → Option Res
  | 0 => noG
  | n + 1 => gG 2 4 (b_law_same (g_law_same n))
/-- shortage -/
def b_shortage : Rho → Option (Fl × Rho) := (seq (setS 2 (valK (pur fun ρ => lstO ((cmp (fun ρ => sqO ((bin ixD (getV 0) (cst (.int 1))) ρ)) [3] (setR 3) (andB (fun ρ => boolD ((bin leD (bin ixD (getB 1) (cst (.int 0))) (bin ixD (getB 3) (cst (.int 0)))) ρ)) (fun ρ => boolD ((bin leD (bin ixD (getB 3) (cst (.int 1))) (bin ixD (getB 1) (cst (.int 1)))) ρ))) (getV 3)) ρ))))
    (retS (valK (pur (bin subD (mny lenD (consA (getV 2) nilA)) (mny lenD (consA (fun ρ => lstO ((cmp (fun ρ => sqO ((bin ixD (getV 0) (cst (.int 0))) ρ)) [4] (setR 4) (fun ρ => truO ((mny (resO g_takes) (consA (getB 1) (consA (getB 4) nilA))) ρ)) (getV 4)) ρ)) nilA)))))))
def g_shortage := gG 2 5 b_shortage
/-- is_number -/
def b_is_number : Rho → Option (Fl × Rho) := (retS (valK (pur (andV (isiF .int (getV 0)) (notV (isiF .bool (getV 0)))))))
def g_is_number := gG 1 1 b_is_number
/-- is_interval -/
def b_is_interval : Rho → Option (Fl × Rho) := (seq (ifS (pur (orB (notB (fun ρ => truO ((isiF .tuple (getB 0)) ρ))) (orB (fun ρ => boolD ((bin neD (mny lenD (consA (getB 0) nilA)) (cst (.int 2))) ρ)) (notB (fun ρ => truO ((mny allD (consA (fun ρ => lstO ((cmp (fun ρ => sqO ((getV 0) ρ)) [1] (setR 1) yesB (mny (resO g_is_number) (consA (getB 1) nilA))) ρ)) nilA)) ρ)))))) (retS (valK (pur (cst (.bl false))))) skip)
    (retS (valK (pur (bin leD (bin ixD (getV 0) (cst (.int 0))) (bin ixD (getV 0) (cst (.int 1))))))))
def g_is_interval := gG 1 2 b_is_interval
/-- shows_shortages -/
def b_shows_shortages : Rho → Option (Fl × Rho) := (seq (ifS (pur (orB (notB (fun ρ => truO ((isiF .list (getB 2)) ρ))) (notB (fun ρ => truO ((mny allD (consA (fun ρ => lstO ((cmp (fun ρ => sqO ((getV 2) ρ)) [3] (setR 3) yesB (mny (resO g_is_interval) (consA (getB 3) nilA))) ρ)) nilA)) ρ))))) (retS (valK (pur (cst (.bl false))))) skip)
    (seq (ifS (pur (notB (fun ρ => truO ((mny allD (consA (fun ρ => lstO ((cmp (zipF (getV 2) (slc (getV 2) (intO (cst (.int 1))) noO)) [4, 5] (sqG (consG (setR 4) (consG (setR 5) nilG))) yesB (bin ltD (bin ixD (getB 4) (cst (.int 1))) (bin ixD (getB 5) (cst (.int 0))))) ρ)) nilA)) ρ)))) (retS (valK (pur (cst (.bl false))))) skip)
    (retS (valK (pur (bin geD (mny sumD (consA (fun ρ => lstO ((cmp (fun ρ => sqO ((getV 2) ρ)) [3] (setR 3) yesB (mny (resO g_shortage) (consA (getV 0) (consA (getV 3) nilA)))) ρ)) nilA)) (getV 1)))))))
def g_shows_shortages := gG 3 6 b_shows_shortages
/-- shows_overfull -/
def b_shows_overfull : Rho → Option (Fl × Rho) := (retS (valK (pur (andV (mny (resO g_is_interval) (consA (getV 1) nilA)) (bin gtD (mny (resO g_shortage) (consA (getV 0) (consA (getV 1) nilA))) (cst (.int 0)))))))
def g_shows_overfull := gG 2 2 b_shows_overfull
/-- is_service -/
def b_is_service : Rho → Option (Fl × Rho) := (seq (ifS (pur (orB (notB (fun ρ => truO ((isiF .tuple (getB 1)) ρ))) (fun ρ => boolD ((bin neD (mny lenD (consA (getB 1) nilA)) (mny lenD (consA (bin ixD (getB 0) (cst (.int 1))) nilA))) ρ)))) (retS (valK (pur (cst (.bl false))))) skip)
    (seq (setS 2 (valK (pur fun ρ => lstO ((cmp (zipF (bin ixD (getV 0) (cst (.int 1))) (getV 1)) [3, 4] (sqG (consG (setR 3) (consG (setR 4) nilG))) (fun ρ => boolD ((bin isnN (getB 4) (cst .non)) ρ)) (dsp true (consA (getV 3) (consA (getV 4) nilA)))) ρ))))
    (seq (ifS (pur (notB (fun ρ => truO ((mny allD (consA (fun ρ => lstO ((cmp (fun ρ => sqO ((getV 2) ρ)) [3, 4] (sqG (consG (setR 3) (consG (setR 4) nilG))) yesB (andV (mny (resO g_is_number) (consA (getB 4) nilA)) (andV (bin inD (getB 4) (bin ixD (getB 0) (cst (.int 0)))) (mny (resO g_takes) (consA (getB 3) (consA (getB 4) nilA)))))) ρ)) nilA)) ρ)))) (retS (valK (pur (cst (.bl false))))) skip)
    (retS (valK (pur (bin eqD (lenSc (fun ρ => sqO ((getV 2) ρ)) (cmp (fun ρ => sqO ((getV 2) ρ)) [3, 4] (sqG (consG (setR 3) (consG (setR 4) nilG))) yesB (getB 4))) (mny lenD (consA (getV 2) nilA)))))))))
def g_is_service := gG 2 5 b_is_service
/-- shows_service -/
def b_shows_service : Rho → Option (Fl × Rho) := (retS (valK (pur (andV (mny (resO g_is_service) (consA (getV 0) (consA (getV 1) nilA))) (bin eqD (mny (resO g_served) (consA (getV 1) nilA)) (mny (resO g_most_served) (consA (getV 0) nilA)))))))
def g_shows_service := gG 2 2 b_shows_service
/-- feasible -/
def b_feasible : Rho → Option (Fl × Rho) := (retS (valK (pur (bin ninD (cst .non) (mny (resO g_greedy) (consA (getV 0) (consA (getV 1) nilA)))))))
def g_feasible := gG 2 2 b_feasible
/-- others_of -/
def b_others_of : Rho → Option (Fl × Rho) := (retS (valK (pur (fun ρ => lstO ((cmp (fun ρ => sqO ((getV 0) ρ)) [2] (setR 2) (fun ρ => boolD ((bin neD (getB 2) (getB 1)) ρ)) (getV 2)) ρ)))))
def g_others_of := gG 2 3 b_others_of
/-- first_setting -/
def b_first_setting : Rho → Option (Fl × Rho) := (seq (parS 1 2 (frsK (fun ρ => sqO ((bin ixD (getV 0) (cst (.int 0))) ρ))) (frsK (dspL nilA)))
    (seq (forS (pur (mapO enuD (bin ixD (getV 0) (cst (.int 1))))) (sqG (consG (setR 3) (consG (setR 4) nilG))) (seq (setS 5 (valK (pur (slc (bin ixD (getV 0) (cst (.int 1))) (intO (bin addD (getB 3) (cst (.int 1)))) noO))))
    (seq (setS 6 (valK (pur fun ρ => lstO ((cmp (getI 1) [7] (setR 7) (andB (fun ρ => truO ((mny (resO g_takes) (consA (getB 4) (consA (getB 7) nilA))) ρ)) (fun ρ => truO ((mny (resO g_feasible) (consA (mny (resO g_others_of) (consA (getB 1) (consA (getB 7) nilA))) (consA (getB 5) nilA))) ρ))) (getV 7)) ρ))))
    (seq (appS 2 (pur (bin ixD (getV 6) (cst (.int 0)))))
    (remS 1 (pur (bin ixD (getV 6) (cst (.int 0)))))))))
    (frzS 2 (retS (valK (pur (mny tupleD (consA (getV 2) nilA))))))))
def g_first_setting := gG 1 8 b_first_setting
/-- verdict -/
def b_verdict : Rho → Option (Fl × Rho) := (seq (ifS (pur (fun ρ => truO ((mny (resO g_feasible) (consA (bin ixD (getB 0) (cst (.int 0))) (consA (bin ixD (getB 0) (cst (.int 1))) nilA))) ρ))) (retS (valK (pur (dsp true (consA (cst (.str "setting")) (consA (mny (resO g_first_setting) (consA (getV 0) nilA)) nilA)))))) skip)
    (seq (asgS (pur (bin ixD (mny (resO g_shortages) (consA (getV 0) nilA)) (cst (.int 0)))) (sqG (consG (setR 1) (consG (setR 2) nilG))))
    (retS (valK (pur (dsp true (consA (cst (.str "overfull")) (consA (getV 1) (consA (getV 2) nilA)))))))))
def g_verdict := gG 1 3 b_verdict
/-- law -/
def b_law : Rho → Option (Fl × Rho) := (seq (setS 1 (mapM g_law_box (thenM (pur (mny (resO g_law_cells) (consA (getV 0) (consA (cst (.int 1)) nilA)))) (thenM (pur (cst (.int 0))) nilM conK) conK)))
    (seq (setS 2 (valK (resK (ioK 1 g_law_shop (thenM (pur (cst (.int 6))) (thenM (pur (cst (.int 6))) nilM conK) conK)))))
    (seq (setS 3 (valK (ifM (mapM blD (thenM (resK (ioK 1 g_law_take (thenM (pur (cst (.int 2))) nilM conK))) (pur (cst (.int 0))) eqD)) (pur (mny (resO (g_law_lists 5)) (consA (getV 2) nilA))) (pur (getV 2)))))
    (seq (asgS (pur (dsp true (consA (mny (resO g_most_served) (consA (getV 3) nilA)) (consA (mny lenD (consA (bin ixD (getV 2) (cst (.int 1))) nilA)) nilA)))) (sqG (consG (setR 11) (consG (setR 12) nilG))))
    (seq (parS 13 14 (valK (pur (mny (resO g_service) (consA (getV 3) nilA)))) (valK (pur (mny (resO g_shortages) (consA (getV 3) nilA)))))
    (seq (ifS (pur (notB (fun ρ => truO ((mny (resO (g_law_same 5)) (consA (dsp false (consA (mny (resO g_shows_service) (consA (getB 2) (consA (getB 13) nilA))) (consA (mny lenD (consA (fun ρ => lstO ((cmp (fun ρ => sqO ((getV 13) ρ)) [28] (setR 28) (fun ρ => boolD ((bin isnN (getB 28) (cst .non)) ρ)) (cst (.int 1))) ρ)) nilA)) (consA (mny (resO g_shows_shortages) (consA (getB 2) (consA (bin subD (getB 12) (getB 11)) (consA (getB 14) nilA)))) nilA)))) (consA (dsp false (consA (cst (.bl true)) (consA (getB 11) (consA (cst (.bl true)) nilA)))) nilA))) ρ)))) (retS (valK (pur (cst (.bl false))))) skip)
    (seq (ifS (pur (orB (fun ρ => boolD ((bin isnN (mny (resO g_shows_shortages) (consA (getB 2) (consA (bin addD (bin subD (getB 12) (getB 11)) (cst (.int 1))) (consA (getB 14) nilA)))) (cst (.bl false))) ρ)) (fun ρ => boolD ((bin neD (bin eqD (bin ixD (mny (resO g_verdict) (consA (getB 2) nilA)) (cst (.int 0))) (cst (.str "setting"))) (bin eqD (getB 11) (getB 12))) ρ)))) (retS (valK (pur (cst (.bl false))))) skip)
    (seq (asgS (resK (ioK 1 g_law_pick (thenM (pur (fun ρ => lstO ((cmp (rgF (rg2 (cst (.int 1)) (cst (.int 15)))) [27] (setR 27) (fun ρ => boolD ((bin ninD (getB 27) (bin ixD (getB 2) (cst (.int 0)))) ρ)) (getV 27)) ρ))) (thenM (pur (cst (.int 2))) nilM conK) conK))) (sqG (consG (setR 15) (consG (setR 16) nilG))))
    (seq (parS 17 18 (valK (pur (mny (resO g_with_spindle) (consA (getV 2) (consA (getV 15) nilA))))) (valK (pur (mny (resO g_with_spindle) (consA (getV 3) (consA (getV 16) nilA))))))
    (seq (setS 4 (valK (pur (mny (resO g_with_spindle) (consA (getV 17) (consA (getV 16) nilA))))))
    (seq (setS 5 (valK (pur (dsp false (consA (mny (resO g_most_served) (consA (getV 17) nilA)) (consA (mny (resO g_most_served) (consA (getV 18) nilA)) (consA (mny (resO g_most_served) (consA (getV 4) nilA)) nilA)))))))
    (seq (ifS (pur (orB (fun ρ => boolD ((bin neD (fun ρ => lstO ((cmp (fun ρ => sqO ((slc (getV 5) noO (intO (cst (.int 2)))) ρ)) [28] (setR 28) (fun ρ => boolD ((bin ninD (getB 28) (dsp true (consA (getB 11) (consA (bin addD (getB 11) (cst (.int 1))) nilA)))) ρ)) (cst (.int 1))) ρ)) (dsp false nilA)) ρ)) (notB (fun ρ => boolD ((chn leD leD (mny maxD (consA (slc (getB 5) noO (intO (cst (.int 2)))) nilA)) (bin ixD (getB 5) (cst (.int 2))) (bin subD (bin addD (bin ixD (getB 5) (cst (.int 0))) (bin ixD (getB 5) (cst (.int 1)))) (getB 11))) ρ))))) (retS (valK (pur (cst (.bl false))))) skip)
    (seq (parS 19 20 (valK (thenM (pur (cst (.int 1))) (resK (ioK 1 g_law_take (thenM (pur (cst (.int 9))) nilM conK))) addD)) (valK (thenM (pur (cst (.int 1))) (resK (ioK 1 g_law_take (thenM (pur (cst (.int 9))) nilM conK))) addD)))
    (seq (setS 6 (valK (resK (mapM frsM (thenM (mapM (dspK true) (thenM (pur (getV 19)) (thenM (thenM (pur (getV 19)) (resK (ioK 1 g_law_take (thenM (pur (cst (.int 5))) nilM conK))) addD) nilM conK) conK)) (thenM (mapM (dspK true) (thenM (pur (getV 20)) (thenM (thenM (pur (getV 20)) (resK (ioK 1 g_law_take (thenM (pur (cst (.int 5))) nilM conK))) addD) nilM conK) conK)) nilM conK) conK)))))
    (seq (parS 21 22 (valK (pur (mny (resO g_with_machine) (consA (getV 2) (consA (bin ixD (bin ixD (getV 6) (cst (.int 0))) (cst (.int 0))) (consA (bin ixD (bin ixD (getV 6) (cst (.int 0))) (cst (.int 1))) nilA)))))) (valK (pur (mny (resO g_with_machine) (consA (getV 2) (consA (bin ixD (bin ixD (getV 6) (cst (.int 1))) (cst (.int 0))) (consA (bin ixD (bin ixD (getV 6) (cst (.int 1))) (cst (.int 1))) nilA)))))))
    (seq (setS 7 (valK (pur (mny (resO g_with_machine) (consA (getV 21) (consA (bin ixD (bin ixD (getV 6) (cst (.int 1))) (cst (.int 0))) (consA (bin ixD (bin ixD (getV 6) (cst (.int 1))) (cst (.int 1))) nilA)))))))
    (seq (setS 8 (valK (pur (dsp false (consA (mny (resO g_most_served) (consA (getV 21) nilA)) (consA (mny (resO g_most_served) (consA (getV 22) nilA)) (consA (mny (resO g_most_served) (consA (getV 7) nilA)) nilA)))))))
    (seq (ifS (pur (orB (fun ρ => boolD ((bin neD (fun ρ => lstO ((cmp (fun ρ => sqO ((slc (getV 8) noO (intO (cst (.int 2)))) ρ)) [28] (setR 28) (fun ρ => boolD ((bin ninD (getB 28) (dsp true (consA (getB 11) (consA (bin addD (getB 11) (cst (.int 1))) nilA)))) ρ)) (cst (.int 1))) ρ)) (dsp false nilA)) ρ)) (notB (fun ρ => boolD ((chn leD leD (mny maxD (consA (slc (getB 8) noO (intO (cst (.int 2)))) nilA)) (bin ixD (getB 8) (cst (.int 2))) (bin subD (bin addD (bin ixD (getB 8) (cst (.int 0))) (bin ixD (getB 8) (cst (.int 1)))) (getB 11))) ρ))))) (retS (valK (pur (cst (.bl false))))) skip)
    (seq (setS 9 (valK (pur (mny (resO g_with_machine) (consA (getV 17) (consA (getV 15) (consA (getV 15) nilA)))))))
    (seq (ifS (pur (fun ρ => boolD ((bin neD (mny (resO g_most_served) (consA (getB 9) nilA)) (bin addD (getB 11) (cst (.int 1)))) ρ))) (retS (valK (pur (cst (.bl false))))) skip)
    (seq (setS 10 (valK (pur (bin neD (fun ρ => lstO ((cmp (fun ρ => sqO ((getV 14) ρ)) [23, 24] (sqG (consG (setR 23) (consG (setR 24) nilG))) (fun ρ => boolD ((chn leD leD (getB 23) (getB 15) (getB 24)) ρ)) (cst (.int 1))) ρ)) (dsp false nilA)))))
    (seq (ifS (pur (andB (notB (fun ρ => truO ((getB 10) ρ))) (orB (fun ρ => boolD ((bin neD (bin ixD (getB 5) (cst (.int 0))) (getB 11)) ρ)) (notB (fun ρ => truO ((mny (resO g_shows_shortages) (consA (getB 17) (consA (bin subD (getB 12) (getB 11)) (consA (getB 14) nilA)))) ρ)))))) (retS (valK (pur (cst (.bl false))))) skip)
    (seq (forS (pur (fun ρ => sqO ((getV 14) ρ))) (sqG (consG (setR 23) (consG (setR 24) nilG))) (seq (setS 25 (valK (pur (bin subD (mny lenD (consA (fun ρ => lstO ((cmp (fun ρ => sqO ((bin ixD (getV 2) (cst (.int 1))) ρ)) [28] (setR 28) (andB (fun ρ => boolD ((bin leD (getB 23) (bin ixD (getB 28) (cst (.int 0)))) ρ)) (fun ρ => boolD ((bin leD (bin ixD (getB 28) (cst (.int 1))) (getB 24)) ρ))) (cst (.int 1))) ρ)) nilA)) (mny lenD (consA (fun ρ => lstO ((cmp (fun ρ => sqO ((bin ixD (getV 2) (cst (.int 0))) ρ)) [27] (setR 27) (fun ρ => boolD ((chn leD leD (getB 23) (getB 27) (getB 24)) ρ)) (cst (.int 1))) ρ)) nilA))))))
    (seq (ifS (pur (fun ρ => boolD ((bin neD (mny (resO g_shows_overfull) (consA (getB 2) (consA (dsp true (consA (getB 23) (consA (getB 24) nilA))) nilA))) (bin gtD (getB 25) (cst (.int 0)))) ρ))) (retS (valK (pur (cst (.bl false))))) skip)
    (ifS (pur (andB (fun ρ => boolD ((bin geD (getB 23) (cst (.int 1))) ρ)) (fun ρ => boolD ((bin ltD (getB 24) (cst (.int 1000))) ρ)))) (seq (setS 26 (valK (pur (mny (resO g_with_machine) (consA (getV 2) (consA (getV 23) (consA (getV 24) nilA)))))))
    (ifS (pur (orB (fun ρ => boolD ((bin neD (mny (resO g_most_served) (consA (getB 26) nilA)) (getB 11)) ρ)) (notB (fun ρ => truO ((mny (resO g_shows_shortages) (consA (getB 26) (consA (bin addD (bin subD (getB 12) (getB 11)) (cst (.int 1))) (consA (getB 14) nilA)))) ρ))))) (retS (valK (pur (cst (.bl false))))) skip)) skip))))
    (retS (valK (pur (cst (.bl true))))))))))))))))))))))))))))
def g_law := gG 1 29 b_law
end K88

-- K88_W
namespace K88
open DL PySem PySem.Spec PyProof.Rows L2
/-! each def keeps its promise (printed by gen.py) -/
def top (i : Nat) : Stmt := PySem.Challenge.pw_spindlefit_k88_whole_services_with_spind.main.body.getD i (.Pass ⟨0, 0, 0, 0⟩)
section
variable {P : Program} {w : World} {K : PySem.W.Frag} {mg : Str → Option Value} {base : Heap}
abbrev s_law_box : Stmt := top 29
theorem sc_law_box : FnScope ["script", "k", "cell"] ["script", "k"] (defScope s_law_box) := ⟨rfl, rfl, rfl, by decide +kernel, rfl, by decide +kernel, by decide +kernel⟩
theorem kn_law_box {f : Addr} {fd : FuncData} (F : FnP K "_law_box" s_law_box f fd) (hm : mg "_law_box" = some (.ref f)) (m_abs : mg "abs" = none) (m_int : mg "int" = none) (m_len : mg "len" = none) : Known P w K mg base "_law_box" ["script", "k"] 1 (spG K g_law_box) := by
  refine .of F hm (fun _ _ _ _ _ _ us hl => match us, hl with | [_, _], _ => rfl) ?_
  refine fnp_g (k := 0) (N := ["script", "k", "cell"]) F sc_law_box (by decide) (fb := b_law_box) fun cdv A outer s H E hr => ?_
  have ok : Okx (bodyX P w K mg base ["script", "k", "cell"] "_law_box" s_law_box f cdv A outer s H E) := .of hr rfl
  exact (dss_cons (ds_set (i := 2) sc_law_box.nd rfl (by first | exact .inl rfl | exact .inr rfl) (dk_dm (dm_dp (dp_if (dt_cmp (m := true) (o_lt ⟨ok.un, ok.calm⟩) (dp_varB (pv 1)) (dp_callB c_len (by rfl) m_len (by decide +kernel) (dps_cons (dp_varB (pv 0)) dps_nil)) (nomark _)) (dp_ix o_ix (dp_var (pv 0)) (dp_var (pv 1)) (fun _ _ => rfl)) dp_int))))
    (dss_one (ds_ret (dk_df (df_lst (dps_cons (dp_bin o_mul (dp_callB c_abs (by rfl) m_abs (by decide +kernel) (dps_cons (dp_var (pv 2)) dps_nil)) (dp_callTy c_int (by rfl) m_int (by decide +kernel) (dps_cons (dp_cmp (m := false) (o_ge ⟨ok.un, ok.calm⟩) (dp_callB c_abs (by rfl) m_abs (by decide +kernel) (dps_cons (dp_var (pv 2)) dps_nil)) (dp_bin o_pow dp_int dp_int) (nomark _)) dps_nil))) (dps_cons (dp_bin o_add (dp_bin o_add (dp_bin o_mod (dp_callTy c_int (by rfl) m_int (by decide +kernel) (dps_cons (dp_var (pv 2)) dps_nil)) dp_int) (dp_bin o_mul dp_int (dp_var (pv 1)))) dp_int) (dps_cons dp_int dps_nil))))))))
abbrev s_law_take : Stmt := top 30
theorem sc_law_take : FnScope ["tin", "below", "once", "broad", "twice", "drawn"] ["tin", "below"] (defScope s_law_take) := ⟨rfl, rfl, rfl, by decide +kernel, rfl, by decide +kernel, by decide +kernel⟩
theorem kn_law_take {f : Addr} {fd : FuncData} (F : FnP K "_law_take" s_law_take f fd) (hm : mg "_law_take" = some (.ref f)) (m_int : mg "int" = none) : Known P w K mg base "_law_take" ["tin", "below"] 1 (spI K g_law_take) := by
  refine .of F hm (fun _ _ _ _ _ _ us hl => match us, hl with | [_, _], _ => rfl) ?_
  refine fnp_i (k := 0) (N := ["tin", "below", "once", "broad", "twice", "drawn"]) F sc_law_take (by decide) (fb := b_law_take) fun cdv A outer s H E hr => ?_
  have ok : Okx (bodyX P w K mg base ["tin", "below", "once", "broad", "twice", "drawn"] "_law_take" s_law_take f cdv A outer s H E) := .of hr rfl
  exact (dss_cons (ds_if (dmt_dt (dt_cmp (m := true) (o_gt ⟨ok.un, ok.calm⟩) (dp_ix o_ix (dp_varB (pv 0)) dp_int (fun _ _ => rfl)) dp_int (nomark _))) (dss_cons (ds_set (i := 5) sc_law_take.nd rfl (by first | exact .inl rfl | exact .inr rfl) (dk_dm (dm_dp (dp_bin o_mod (dp_flat (dp_callTy c_int (by rfl) m_int (by decide +kernel) (dps_cons (dp_ix o_ix (dp_varB (pv 0)) dp_int (fun _ _ => rfl)) dps_nil))) (dp_var (pv 1))))))
    (dss_cons (ds_item (pv 0) (dm_dp (dp_bin o_fdiv (dp_ixB (m := true) (pv 0) dp_int (fun _ _ => rfl)) (dp_var (pv 1)))) (dm_dp dp_int))
    (dss_one (ds_ret (dk_dm (dm_dp (dp_var (pv 5)))))))) dss_nil)
    (dss_cons (ds_item (pv 0) (dm_dp (dp_bin o_add (dp_ixB (m := true) (pv 0) dp_int (fun _ _ => rfl)) dp_int)) (dm_dp dp_int))
    (dss_cons (ds_set (i := 2) sc_law_take.nd rfl (by first | exact .inl rfl | exact .inr rfl) (dk_dm (dm_dp (dp_bin o_mod (dp_flat (dp_callTy c_int (by rfl) m_int (by decide +kernel) (dps_cons (dp_bin o_mul (dp_bin o_add (dp_ix o_ix (dp_varB (pv 0)) dp_int (fun _ _ => rfl)) (dp_bin o_mul dp_int (dp_ix o_ix (dp_varB (pv 0)) dp_int (fun _ _ => rfl)))) (dp_bin o_add dp_int (dp_ix o_ix (dp_varB (pv 0)) dp_int (fun _ _ => rfl)))) dps_nil))) dp_int))))
    (dss_cons (ds_set (i := 3) sc_law_take.nd rfl (by first | exact .inl rfl | exact .inr rfl) (dk_dm (dm_dp (dp_bin o_add (dp_bin o_mod (dp_callTy c_int (by rfl) m_int (by decide +kernel) (dps_cons (dp_var (pv 2)) dps_nil)) dp_int) dp_int))))
    (dss_cons (ds_set (i := 4) sc_law_take.nd rfl (by first | exact .inl rfl | exact .inr rfl) (dk_dm (dm_dp (dp_bin o_mod (dp_flat (dp_callTy c_int (by rfl) m_int (by decide +kernel) (dps_cons (dp_bin o_mul (dp_bin o_add (dp_bin o_add (dp_varB (pv 2)) (dp_ix o_ix (dp_varB (pv 0)) dp_int (fun _ _ => rfl))) (dp_bin o_fdiv (dp_ix o_ix (dp_varB (pv 0)) dp_int (fun _ _ => rfl)) dp_int)) (dp_varB (pv 3))) dps_nil))) dp_int))))
    (dss_one (ds_ret (dk_dm (dm_dp (dp_bin o_mod (dp_callTy c_int (by rfl) m_int (by decide +kernel) (dps_cons (dp_bin o_fdiv (dp_bin o_mod (dp_callTy c_int (by rfl) m_int (by decide +kernel) (dps_cons (dp_bin o_add (dp_bin o_mul (dp_var (pv 4)) dp_int) (dp_var (pv 2))) dps_nil)) dp_int) dp_int) dps_nil)) (dp_var (pv 1))))))))))))
abbrev s_law_pick : Stmt := top 34
theorem sc_law_pick : FnScope ["tin", "goods", "most", "lap", "left", "found"] ["tin", "goods", "most"] (defScope s_law_pick) := ⟨rfl, rfl, rfl, by decide +kernel, rfl, by decide +kernel, by decide +kernel⟩
theorem kn_law_pick {f : Addr} {fd : FuncData} (F : FnP K "_law_pick" s_law_pick f fd) (hm : mg "_law_pick" = some (.ref f)) (k_law_take : Known P w K mg base "_law_take" ["tin", "below"] 1 (spI K g_law_take)) (m_len : mg "len" = none) (m_list : mg "list" = none) (m_min : mg "min" = none) (m_range : mg "range" = none) : Known P w K mg base "_law_pick" ["tin", "goods", "most"] 2 (spI K g_law_pick) := by
  refine .of F hm (fun _ _ _ _ _ _ us hl => match us, hl with | [_, _, _], _ => rfl) ?_
  refine fnp_i (k := 1) (N := ["tin", "goods", "most", "lap", "left", "found"]) F sc_law_pick (by decide) (fb := b_law_pick) fun cdv A outer s H E hr => ?_
  have ok : Okx (bodyX P w K mg base ["tin", "goods", "most", "lap", "left", "found"] "_law_pick" s_law_pick f cdv A outer s H E) := .of hr rfl
  exact (dss_cons (ds_par (i := 4) (j := 5) ⟨ok.un, ok.calm⟩ sc_law_pick.nd rfl rfl (by decide) rfl rfl (dk_df (df_list (by rfl) m_list (dp_var (pv 1)))) (dk_df (df_lst dps_nil)) (by with_unfolding_all rfl))
    (dss_cons (ds_for ok PassesOwn.never (dim_range1 (by rfl) m_range (dm_dp (dp_callB (c_min ⟨ok.un, ok.calm⟩) (by rfl) m_min (by decide +kernel) (dps_cons (dp_var (pv 2)) (dps_cons (dp_flat (dp_callB c_len (by rfl) m_len (by decide +kernel) (dps_cons (dp_varB (pv 4)) dps_nil))) dps_nil))))) (dg_name (pg_name (i := 3) sc_law_pick.nd rfl (by first | exact .inl rfl | exact .inr rfl))) (dss_one (ds_append (pv 5) (dm_pop (pv 4) (dm_dk (dk_knI k_law_take (hr.mono (by first | decide | omega)) (by rfl) (pv 0) (dms_cons (dm_dp (dp_flat (dp_callB c_len (by rfl) m_len (by decide +kernel) (dps_cons (dp_varB (pv 4)) dps_nil)))) dms_nil)))))))
    (dss_one (ds_retO (pv 5)))))
abbrev s_law_shop : Stmt := top 35
theorem sc_law_shop : FnScope ["tin", "machines", "spindles", "sizes", "ranges", "lap", "low"] ["tin", "machines", "spindles"] (defScope s_law_shop) := ⟨rfl, rfl, rfl, by decide +kernel, rfl, by decide +kernel, by decide +kernel⟩
theorem kn_law_shop {f : Addr} {fd : FuncData} (F : FnP K "_law_shop" s_law_shop f fd) (hm : mg "_law_shop" = some (.ref f)) (k_law_pick : Known P w K mg base "_law_pick" ["tin", "goods", "most"] 2 (spI K g_law_pick)) (k_law_take : Known P w K mg base "_law_take" ["tin", "below"] 1 (spI K g_law_take)) (m_list : mg "list" = none) (m_range : mg "range" = none) (m_sorted : mg "sorted" = none) (m_tuple : mg "tuple" = none) : Known P w K mg base "_law_shop" ["tin", "machines", "spindles"] 3 (spI K g_law_shop) := by
  refine .of F hm (fun _ _ _ _ _ _ us hl => match us, hl with | [_, _, _], _ => rfl) ?_
  refine fnp_i (k := 2) (N := ["tin", "machines", "spindles", "sizes", "ranges", "lap", "low"]) F sc_law_shop (by decide) (fb := b_law_shop) fun cdv A outer s H E hr => ?_
  have ok : Okx (bodyX P w K mg base ["tin", "machines", "spindles", "sizes", "ranges", "lap", "low"] "_law_shop" s_law_shop f cdv A outer s H E) := .of hr rfl
  exact (dss_cons (ds_set (i := 3) sc_law_shop.nd rfl (by first | exact .inl rfl | exact .inr rfl) (dk_dm (dm_callB (c_sorted ⟨ok.un, ok.calm⟩) (by rfl) m_sorted (by decide +kernel) (dms_cons (dm_dk (dk_knI k_law_pick (hr.mono (by first | decide | omega)) (by rfl) (pv 0) (dms_cons (dm_dp (dp_listRg ⟨ok.un, ok.calm⟩ (by rfl) m_list (drg_2 (m := true) (by rfl) m_range dp_int dp_int))) (dms_cons (dm_bin o_add (dm_dp dp_int) (dm_dk (dk_knI k_law_take (hr.mono (by first | decide | omega)) (by rfl) (pv 0) (dms_cons (dm_dp (dp_bin o_sub (dp_var (pv 2)) dp_int)) dms_nil)))) dms_nil)))) dms_nil))))
    (dss_cons (ds_set (i := 4) sc_law_shop.nd rfl (by first | exact .inl rfl | exact .inr rfl) (dk_df (df_lst dps_nil)))
    (dss_cons (ds_for ok PassesOwn.never (dim_range1 (by rfl) m_range (dm_bin o_add (dm_dp dp_int) (dm_dk (dk_knI k_law_take (hr.mono (by first | decide | omega)) (by rfl) (pv 0) (dms_cons (dm_dp (dp_var (pv 1))) dms_nil))))) (dg_name (pg_name (i := 5) sc_law_shop.nd rfl (by first | exact .inl rfl | exact .inr rfl))) (dss_cons (ds_set (i := 6) sc_law_shop.nd rfl (by first | exact .inl rfl | exact .inr rfl) (dk_dm (dm_bin o_add (dm_dp dp_int) (dm_dk (dk_knI k_law_take (hr.mono (by first | decide | omega)) (by rfl) (pv 0) (dms_cons (dm_dp dp_int) dms_nil))))))
    (dss_one (ds_append (pv 4) (dm_tup (dms_cons (dm_dp (dp_var (pv 6))) (dms_cons (dm_bin o_add (dm_dp (dp_var (pv 6))) (dm_dk (dk_knI k_law_take (hr.mono (by first | decide | omega)) (by rfl) (pv 0) (dms_cons (dm_dp dp_int) dms_nil)))) dms_nil)))))))
    (dss_frz 4 (dss_one (ds_ret (dk_dm (dm_dp (dp_tup (dps_cons (dp_callTy c_tuple (by rfl) m_tuple (by decide +kernel) (dps_cons (dp_var (pv 3)) dps_nil)) (dps_cons (dp_callTy c_tuple (by rfl) m_tuple (by decide +kernel) (dps_cons (dp_var (pv 4)) dps_nil)) dps_nil)))))))))))
abbrev s_plain_shop : Stmt := top 6
theorem sc_plain_shop : FnScope ["shop", "part"] ["shop"] (defScope s_plain_shop) := ⟨rfl, rfl, rfl, by decide +kernel, rfl, by decide +kernel, by decide +kernel⟩
theorem kn_plain_shop {f : Addr} {fd : FuncData} (F : FnP K "plain_shop" s_plain_shop f fd) (hm : mg "plain_shop" = some (.ref f)) (m_tuple : mg "tuple" = none) : Known P w K mg base "plain_shop" ["shop"] 1 (spG K g_plain_shop) := by
  refine .of F hm (fun _ _ _ _ _ _ us hl => match us, hl with | [_], _ => rfl) ?_
  refine fnp_g (k := 0) (N := ["shop", "part"]) F sc_plain_shop (by decide) (fb := b_plain_shop) fun cdv A outer s H E hr => ?_
  have ok : Okx (bodyX P w K mg base ["shop", "part"] "plain_shop" s_plain_shop f cdv A outer s H E) := .of hr rfl
  exact (dss_one (ds_ret (dk_dm (dm_dp (dp_tup (dps_cons (dp_callTy c_tuple (by rfl) m_tuple (by decide +kernel) (dps_cons (dp_ix o_ix (dp_var (pv 0)) dp_int (fun _ _ => rfl)) dps_nil)) (dps_cons (dp_callTy c_tuple (by rfl) m_tuple (by decide +kernel) (dps_cons (dp_lc (own := [("part", 1)]) ⟨ok.un, ok.calm⟩ sc_plain_shop.nd (di_seq (dp_ix o_ix (dp_var (pv 0)) dp_int (fun _ _ => rfl))) (blkOk_by (N := ["shop", "part"]) (sc := defScope s_plain_shop) (by decide +kernel)) (fun _ _ _ _ _ => (dg_name (pg_name (i := 1) sc_plain_shop.nd rfl (by first | exact .inl rfl | exact .inr rfl)))) (fun _ _ _ _ _ => dts_nil) (fun _ _ _ _ _ => (dp_callTy c_tuple (by rfl) m_tuple (by decide +kernel) (dps_cons (dp_var (pv 1)) dps_nil))) (by decide)) dps_nil)) dps_nil)))))))
abbrev s_with_spindle : Stmt := top 21
theorem sc_with_spindle : FnScope ["shop", "size", "sizes", "ranges"] ["shop", "size"] (defScope s_with_spindle) := ⟨rfl, rfl, rfl, by decide +kernel, rfl, by decide +kernel, by decide +kernel⟩
theorem kn_with_spindle {f : Addr} {fd : FuncData} (F : FnP K "with_spindle" s_with_spindle f fd) (hm : mg "with_spindle" = some (.ref f)) (k_plain_shop : Known P w K mg base "plain_shop" ["shop"] 1 (spG K g_plain_shop)) (m_sorted : mg "sorted" = none) (m_tuple : mg "tuple" = none) : Known P w K mg base "with_spindle" ["shop", "size"] 2 (spG K g_with_spindle) := by
  refine .of F hm (fun _ _ _ _ _ _ us hl => match us, hl with | [_, _], _ => rfl) ?_
  refine fnp_g (k := 1) (N := ["shop", "size", "sizes", "ranges"]) F sc_with_spindle (by decide) (fb := b_with_spindle) fun cdv A outer s H E hr => ?_
  have ok : Okx (bodyX P w K mg base ["shop", "size", "sizes", "ranges"] "with_spindle" s_with_spindle f cdv A outer s H E) := .of hr rfl
  exact (dss_cons (ds_asg (dm_dp (dp_kn k_plain_shop (hr.mono (by first | decide | omega)) (by rfl) (dps_cons (dp_var (pv 0)) dps_nil))) (dg_tup ok.calm (dgs_cons (dg_name (pg_name (i := 2) sc_with_spindle.nd rfl (by first | exact .inl rfl | exact .inr rfl))) (dgs_cons (dg_name (pg_name (i := 3) sc_with_spindle.nd rfl (by first | exact .inl rfl | exact .inr rfl))) dgs_nil))))
    (dss_cons (ds_if (dmt_dt (dt_cmp (m := true) (o_in ⟨ok.un, ok.calm⟩) (dp_varB (pv 1)) (dp_varB (pv 2)) rfl)) dss_dead dss_nil)
    (dss_one (ds_ret (dk_dm (dm_dp (dp_tup (dps_cons (dp_callTy c_tuple (by rfl) m_tuple (by decide +kernel) (dps_cons (dp_callB (c_sorted ⟨ok.un, ok.calm⟩) (by rfl) m_sorted (by decide +kernel) (dps_cons (dp_bin o_add (dp_var (pv 2)) (dp_tup (dps_cons (dp_var (pv 1)) dps_nil))) dps_nil)) dps_nil)) (dps_cons (dp_var (pv 3)) dps_nil)))))))))
abbrev s_with_machine : Stmt := top 22
theorem sc_with_machine : FnScope ["shop", "low", "high", "sizes", "ranges"] ["shop", "low", "high"] (defScope s_with_machine) := ⟨rfl, rfl, rfl, by decide +kernel, rfl, by decide +kernel, by decide +kernel⟩
theorem kn_with_machine {f : Addr} {fd : FuncData} (F : FnP K "with_machine" s_with_machine f fd) (hm : mg "with_machine" = some (.ref f)) (k_plain_shop : Known P w K mg base "plain_shop" ["shop"] 1 (spG K g_plain_shop)) : Known P w K mg base "with_machine" ["shop", "low", "high"] 2 (spG K g_with_machine) := by
  refine .of F hm (fun _ _ _ _ _ _ us hl => match us, hl with | [_, _, _], _ => rfl) ?_
  refine fnp_g (k := 1) (N := ["shop", "low", "high", "sizes", "ranges"]) F sc_with_machine (by decide) (fb := b_with_machine) fun cdv A outer s H E hr => ?_
  have ok : Okx (bodyX P w K mg base ["shop", "low", "high", "sizes", "ranges"] "with_machine" s_with_machine f cdv A outer s H E) := .of hr rfl
  exact (dss_cons (ds_asg (dm_dp (dp_kn k_plain_shop (hr.mono (by first | decide | omega)) (by rfl) (dps_cons (dp_var (pv 0)) dps_nil))) (dg_tup ok.calm (dgs_cons (dg_name (pg_name (i := 3) sc_with_machine.nd rfl (by first | exact .inl rfl | exact .inr rfl))) (dgs_cons (dg_name (pg_name (i := 4) sc_with_machine.nd rfl (by first | exact .inl rfl | exact .inr rfl))) dgs_nil))))
    (dss_one (ds_ret (dk_dm (dm_dp (dp_tup (dps_cons (dp_var (pv 3)) (dps_cons (dp_bin o_add (dp_var (pv 4)) (dp_tup (dps_cons (dp_tup (dps_cons (dp_var (pv 1)) (dps_cons (dp_var (pv 2)) dps_nil))) dps_nil))) dps_nil))))))))
abbrev s_law_cells : Stmt := top 31
theorem sc_law_cells : FnScope ["script", "most", "cells", "k", "cell", "spot"] ["script", "most"] (defScope s_law_cells) := ⟨rfl, rfl, rfl, by decide +kernel, rfl, by decide +kernel, by decide +kernel⟩
theorem kn_law_cells {f : Addr} {fd : FuncData} (F : FnP K "_law_cells" s_law_cells f fd) (hm : mg "_law_cells" = some (.ref f)) (m_enumerate : mg "enumerate" = none) (m_int : mg "int" = none) (m_list : mg "list" = none) : Known P w K mg base "_law_cells" ["script", "most"] 1 (spG K g_law_cells) := by
  refine .of F hm (fun _ _ _ _ _ _ us hl => match us, hl with | [_, _], _ => rfl) ?_
  refine fnp_g (k := 0) (N := ["script", "most", "cells", "k", "cell", "spot"]) F sc_law_cells (by decide) (fb := b_law_cells) fun cdv A outer s H E hr => ?_
  have ok : Okx (bodyX P w K mg base ["script", "most", "cells", "k", "cell", "spot"] "_law_cells" s_law_cells f cdv A outer s H E) := .of hr rfl
  exact (dss_cons (ds_set (i := 2) sc_law_cells.nd rfl (by first | exact .inl rfl | exact .inr rfl) (dk_df (df_or (df_list (by rfl) m_list (dp_slice (dp_var (pv 0)) do_none (do_some (m := true) (dp_varB (pv 1))))) (df_one (df_lst (dps_cons dp_int dps_nil))))))
    (dss_cons (ds_for ok PassesOwn.never (dim_di (di_enum (by rfl) m_enumerate (dp_slice (dp_var (pv 0)) (do_some (m := true) (dp_varB (pv 1))) (do_some (m := true) dp_int)))) (dg_tup ok.calm (dgs_cons (dg_name (pg_name (i := 3) sc_law_cells.nd rfl (by first | exact .inl rfl | exact .inr rfl))) (dgs_cons (dg_name (pg_name (i := 4) sc_law_cells.nd rfl (by first | exact .inl rfl | exact .inr rfl))) dgs_nil))) (dss_cons (ds_set (i := 5) sc_law_cells.nd rfl (by first | exact .inl rfl | exact .inr rfl) (dk_dm (dm_dp (dp_bin o_mod (dp_callTy c_int (by rfl) m_int (by decide +kernel) (dps_cons (dp_var (pv 3)) dps_nil)) (dp_var (pv 1))))))
    (dss_one (ds_item (pv 2) (dm_dp (dp_bin o_add (dp_ixB (m := true) (pv 2) (dp_varB (pv 5)) (fun _ _ => rfl)) (dp_bin o_mul (dp_var (pv 4)) (dp_bin o_add (dp_var (pv 3)) dp_int)))) (dm_dp (dp_var (pv 5)))))))
    (dss_one (ds_retO (pv 2)))))
abbrev s_law_lists : Stmt := top 33
theorem sc_law_lists : FnScope ["matter", "own"] ["matter"] (defScope s_law_lists) := ⟨rfl, rfl, rfl, by decide +kernel, rfl, by decide +kernel, by decide +kernel⟩
theorem kn_law_lists {f : Addr} {fd : FuncData} (F : FnP K "_law_lists" s_law_lists f fd) (hm : mg "_law_lists" = some (.ref f)) (m_isinstance : mg "isinstance" = none) (m_list : mg "list" = none) (m_tuple : mg "tuple" = none) : ∀ n : Nat, Known P w K mg base "_law_lists" ["matter"] (0 + n) (spG K (g_law_lists n))
  | 0 => .of F hm (fun _ _ _ _ _ _ us hl => match us, hl with | [_], _ => rfl) fn_none
  | n + 1 => by
    have ih := kn_law_lists F hm m_isinstance m_list m_tuple n
    refine .of F hm (fun _ _ _ _ _ _ us hl => match us, hl with | [_], _ => rfl) ?_
    refine fnp_g (k := 0 + n) (N := ["matter", "own"]) F sc_law_lists (by decide) (fb := b_law_lists (g_law_lists n)) fun cdv A outer s H E hr => ?_
    have ok : Okx (bodyX P w K mg base ["matter", "own"] "_law_lists" s_law_lists f cdv A outer s H E) := .of hr rfl
    generalize hgg : g_law_lists n = g at ih ⊢
    exact (dss_one (ds_ret (dk_dm (dm_dp (dp_if (dt_val (m := true) (dp_isi2 (t := .list) (t' := .tuple) rfl rfl (by rfl) m_isinstance (by rfl) m_list (by rfl) m_tuple (dp_varB (pv 0)))) (dp_lc (own := [("own", 1)]) ⟨ok.un, ok.calm⟩ sc_law_lists.nd (di_seq (dp_var (pv 0))) (blkOk_by (N := ["matter", "own"]) (sc := defScope s_law_lists) (by decide +kernel)) (fun _ _ _ _ _ => (dg_name (pg_name (i := 1) sc_law_lists.nd rfl (by first | exact .inl rfl | exact .inr rfl)))) (fun _ _ _ _ _ => dts_nil) (fun _ _ _ _ _ => (dp_kn ih (hr.mono (by omega)) (by rfl) (dps_cons (dp_var (pv 1)) dps_nil))) (by decide)) (dp_var (pv 0)))))))
abbrev s_served : Stmt := top 12
theorem sc_served : FnScope ["row", "size"] ["row"] (defScope s_served) := ⟨rfl, rfl, rfl, by decide +kernel, rfl, by decide +kernel, by decide +kernel⟩
theorem kn_served {f : Addr} {fd : FuncData} (F : FnP K "served" s_served f fd) (hm : mg "served" = some (.ref f)) (m_len : mg "len" = none) : Known P w K mg base "served" ["row"] 1 (spG K g_served) := by
  refine .of F hm (fun _ _ _ _ _ _ us hl => match us, hl with | [_], _ => rfl) ?_
  refine fnp_g (k := 0) (N := ["row", "size"]) F sc_served (by decide) (fb := b_served) fun cdv A outer s H E hr => ?_
  have ok : Okx (bodyX P w K mg base ["row", "size"] "served" s_served f cdv A outer s H E) := .of hr rfl
  exact (dss_one (ds_ret (dk_dm (dm_dp (dp_callB c_len (by rfl) m_len (by decide +kernel) (dps_cons (dp_lc (own := [("size", 1)]) ⟨ok.un, ok.calm⟩ sc_served.nd (di_seq (dp_var (pv 0))) (blkOk_by (N := ["row", "size"]) (sc := defScope s_served) (by decide +kernel)) (fun _ _ _ _ _ => (dg_name (pg_name (i := 1) sc_served.nd rfl (by first | exact .inl rfl | exact .inr rfl)))) (fun _ _ _ _ _ => (dts_one (dt_cmp (m := true) o_isnN (dp_varB (pv 1)) dp_non (nomark _)))) (fun _ _ _ _ _ => (dp_var (pv 1))) (by decide)) dps_nil))))))
abbrev s_takes : Stmt := top 7
theorem sc_takes : FnScope ["part", "size"] ["part", "size"] (defScope s_takes) := ⟨rfl, rfl, rfl, by decide +kernel, rfl, by decide +kernel, by decide +kernel⟩
theorem kn_takes {f : Addr} {fd : FuncData} (F : FnP K "takes" s_takes f fd) (hm : mg "takes" = some (.ref f))  : Known P w K mg base "takes" ["part", "size"] 1 (spG K g_takes) := by
  refine .of F hm (fun _ _ _ _ _ _ us hl => match us, hl with | [_, _], _ => rfl) ?_
  refine fnp_g (k := 0) (N := ["part", "size"]) F sc_takes (by decide) (fb := b_takes) fun cdv A outer s H E hr => ?_
  have ok : Okx (bodyX P w K mg base ["part", "size"] "takes" s_takes f cdv A outer s H E) := .of hr rfl
  exact (dss_one (ds_ret (dk_dm (dm_dp (dp_chain (m := false) (o_le ⟨ok.un, ok.calm⟩) (o_le ⟨ok.un, ok.calm⟩) (dp_ix o_ix (dp_var (pv 0)) dp_int (fun _ _ => rfl)) (dp_var (pv 1)) (dp_ix o_ix (dp_var (pv 0)) dp_int (fun _ _ => rfl)))))))
abbrev s_greedy : Stmt := top 9
theorem sc_greedy : FnScope ["sizes", "ranges", "found", "size", "waiting", "part", "machine", "high"] ["sizes", "ranges"] (defScope s_greedy) := ⟨rfl, rfl, rfl, by decide +kernel, rfl, by decide +kernel, by decide +kernel⟩
theorem kn_greedy {f : Addr} {fd : FuncData} (F : FnP K "greedy" s_greedy f fd) (hm : mg "greedy" = some (.ref f)) (k_takes : Known P w K mg base "takes" ["part", "size"] 1 (spG K g_takes)) (m_enumerate : mg "enumerate" = none) (m_len : mg "len" = none) (m_min : mg "min" = none) : Known P w K mg base "greedy" ["sizes", "ranges"] 2 (spG K g_greedy) := by
  refine .of F hm (fun _ _ _ _ _ _ us hl => match us, hl with | [_, _], _ => rfl) ?_
  refine fnp_g (k := 1) (N := ["sizes", "ranges", "found", "size", "waiting", "part", "machine", "high"]) F sc_greedy (by decide) (fb := b_greedy) fun cdv A outer s H E hr => ?_
  have ok : Okx (bodyX P w K mg base ["sizes", "ranges", "found", "size", "waiting", "part", "machine", "high"] "greedy" s_greedy f cdv A outer s H E) := .of hr rfl
  exact (dss_cons (ds_set (i := 2) sc_greedy.nd rfl (by first | exact .inl rfl | exact .inr rfl) (dk_df (df_lc (own := [("part", 5)]) ⟨ok.un, ok.calm⟩ sc_greedy.nd (di_seq (dp_var (pv 1))) (blkOk_by (N := ["sizes", "ranges", "found", "size", "waiting", "part", "machine", "high"]) (sc := defScope s_greedy) (by decide +kernel)) (fun _ _ _ _ _ => (dg_name (pg_name (i := 5) sc_greedy.nd rfl (by first | exact .inl rfl | exact .inr rfl)))) (fun _ _ _ _ _ => dts_nil) (fun _ _ _ _ _ => dp_non) (by decide))))
    (dss_cons (ds_for ok PassesOwn.never (dim_di (di_seq (dp_var (pv 0)))) (dg_name (pg_name (i := 3) sc_greedy.nd rfl (by first | exact .inl rfl | exact .inr rfl))) (dss_cons (ds_setLcV (i := 4) (own := [("part", 5), ("machine", 6)]) ⟨ok.un, ok.calm⟩ sc_greedy.nd rfl rfl (sw_true rfl rfl rfl (by decide +kernel)) (di_enum (by rfl) m_enumerate (dp_var (pv 1))) (blkOk_by (N := ["sizes", "ranges", "found", "size", "waiting", "part", "machine", "high"]) (sc := defScope s_greedy) (by decide +kernel)) (fun _ _ _ _ _ => (dg_tup ok.calm (dgs_cons (dg_name (pg_name (i := 6) sc_greedy.nd rfl (by first | exact .inl rfl | exact .inr rfl))) (dgs_cons (dg_name (pg_name (i := 5) sc_greedy.nd rfl (by first | exact .inl rfl | exact .inr rfl))) dgs_nil)))) (fun _ _ _ _ _ => (dts_one (dt_cmp (m := true) o_isN (dp_ix o_ix (dp_varB (pv 2)) (dp_varB (pv 6)) (fun _ _ => rfl)) dp_non (nomark _)))) (fun _ _ _ _ _ => (dp_tup (dps_cons (dp_ix o_ix (dp_var (pv 5)) dp_int (fun _ _ => rfl)) (dps_cons (dp_var (pv 6)) dps_nil)))) (by decide))
    (dss_cons (ds_setLcV (i := 4) (own := [("machine", 6), ("high", 7)]) ⟨ok.un, ok.calm⟩ sc_greedy.nd rfl rfl (sw_true rfl rfl rfl (by decide +kernel)) (di_seq (dp_var (pv 4))) (blkOk_by (N := ["sizes", "ranges", "found", "size", "waiting", "part", "machine", "high"]) (sc := defScope s_greedy) (by decide +kernel)) (fun _ _ _ _ _ => (dg_tup ok.calm (dgs_cons (dg_name (pg_name (i := 7) sc_greedy.nd rfl (by first | exact .inl rfl | exact .inr rfl))) (dgs_cons (dg_name (pg_name (i := 6) sc_greedy.nd rfl (by first | exact .inl rfl | exact .inr rfl))) dgs_nil)))) (fun _ _ _ _ _ => (dts_one (dt_val (m := true) (dp_kn k_takes (hr.mono (by first | decide | omega)) (by rfl) (dps_cons (dp_ix o_ix (dp_varB (pv 1)) (dp_varB (pv 6)) (fun _ _ => rfl)) (dps_cons (dp_varB (pv 3)) dps_nil)))))) (fun _ _ _ _ _ => (dp_tup (dps_cons (dp_var (pv 7)) (dps_cons (dp_var (pv 6)) dps_nil)))) (by decide))
    (dss_one (ds_if (dmt_dt (dt_cmp (m := true) (o_gt ⟨ok.un, ok.calm⟩) (dp_callB c_len (by rfl) m_len (by decide +kernel) (dps_cons (dp_varB (pv 4)) dps_nil)) dp_int (nomark _))) (dss_one (ds_item (pv 2) (dm_dp (dp_var (pv 3))) (dm_dp (dp_ix o_ix (dp_callB (c_min ⟨ok.un, ok.calm⟩) (by rfl) m_min (by decide +kernel) (dps_cons (dp_var (pv 4)) dps_nil)) dp_int (fun _ _ => rfl))))) dss_nil)))))
    (dss_one (ds_retO (pv 2)))))
abbrev s_service : Stmt := top 11
theorem sc_service : FnScope ["shop"] ["shop"] (defScope s_service) := ⟨rfl, rfl, rfl, by decide +kernel, rfl, by decide +kernel, by decide +kernel⟩
theorem kn_service {f : Addr} {fd : FuncData} (F : FnP K "service" s_service f fd) (hm : mg "service" = some (.ref f)) (k_greedy : Known P w K mg base "greedy" ["sizes", "ranges"] 2 (spG K g_greedy)) (m_tuple : mg "tuple" = none) : Known P w K mg base "service" ["shop"] 3 (spG K g_service) := by
  refine .of F hm (fun _ _ _ _ _ _ us hl => match us, hl with | [_], _ => rfl) ?_
  refine fnp_g (k := 2) (N := ["shop"]) F sc_service (by decide) (fb := b_service) fun cdv A outer s H E hr => ?_
  have ok : Okx (bodyX P w K mg base ["shop"] "service" s_service f cdv A outer s H E) := .of hr rfl
  exact (dss_one (ds_ret (dk_dm (dm_dp (dp_callTy c_tuple (by rfl) m_tuple (by decide +kernel) (dps_cons (dp_kn k_greedy (hr.mono (by first | decide | omega)) (by rfl) (dps_cons (dp_ix o_ix (dp_var (pv 0)) dp_int (fun _ _ => rfl)) (dps_cons (dp_ix o_ix (dp_var (pv 0)) dp_int (fun _ _ => rfl)) dps_nil))) dps_nil))))))
abbrev s_most_served : Stmt := top 13
theorem sc_most_served : FnScope ["shop"] ["shop"] (defScope s_most_served) := ⟨rfl, rfl, rfl, by decide +kernel, rfl, by decide +kernel, by decide +kernel⟩
theorem kn_most_served {f : Addr} {fd : FuncData} (F : FnP K "most_served" s_most_served f fd) (hm : mg "most_served" = some (.ref f)) (k_served : Known P w K mg base "served" ["row"] 1 (spG K g_served)) (k_service : Known P w K mg base "service" ["shop"] 3 (spG K g_service)) : Known P w K mg base "most_served" ["shop"] 4 (spG K g_most_served) := by
  refine .of F hm (fun _ _ _ _ _ _ us hl => match us, hl with | [_], _ => rfl) ?_
  refine fnp_g (k := 3) (N := ["shop"]) F sc_most_served (by decide) (fb := b_most_served) fun cdv A outer s H E hr => ?_
  have ok : Okx (bodyX P w K mg base ["shop"] "most_served" s_most_served f cdv A outer s H E) := .of hr rfl
  exact (dss_one (ds_ret (dk_dm (dm_dp (dp_kn k_served (hr.mono (by first | decide | omega)) (by rfl) (dps_cons (dp_kn k_service (hr.mono (by first | decide | omega)) (by rfl) (dps_cons (dp_var (pv 0)) dps_nil)) dps_nil))))))
abbrev s_closed : Stmt := top 17
theorem sc_closed : FnScope ["ranges", "held", "machine", "lower", "low", "high", "inside", "part", "size", "end"] ["ranges", "held", "machine"] (defScope s_closed) := ⟨rfl, rfl, rfl, by decide +kernel, rfl, by decide +kernel, by decide +kernel⟩
theorem kn_closed {f : Addr} {fd : FuncData} (F : FnP K "closed" s_closed f fd) (hm : mg "closed" = some (.ref f)) (m_min : mg "min" = none) (m_zip : mg "zip" = none) : Known P w K mg base "closed" ["ranges", "held", "machine"] 1 (spG K g_closed) := by
  refine .of F hm (fun _ _ _ _ _ _ us hl => match us, hl with | [_, _, _], _ => rfl) ?_
  refine fnp_g (k := 0) (N := ["ranges", "held", "machine", "lower", "low", "high", "inside", "part", "size", "end"]) F sc_closed (by decide) (fb := b_closed) fun cdv A outer s H E hr => ?_
  have ok : Okx (bodyX P w K mg base ["ranges", "held", "machine", "lower", "low", "high", "inside", "part", "size", "end"] "closed" s_closed f cdv A outer s H E) := .of hr rfl
  exact (dss_cons (ds_asg (dm_dp (dp_ix o_ix (dp_var (pv 0)) (dp_var (pv 2)) (fun _ _ => rfl))) (dg_tup ok.calm (dgs_cons (dg_name (pg_name (i := 4) sc_closed.nd rfl (by first | exact .inl rfl | exact .inr rfl))) (dgs_cons (dg_name (pg_name (i := 5) sc_closed.nd rfl (by first | exact .inl rfl | exact .inr rfl))) dgs_nil))))
    (dss_cons (ds_set (i := 3) sc_closed.nd rfl (by first | exact .inl rfl | exact .inr rfl) (dk_dm (dm_dp (dp_var (pv 4)))))
    (dss_cons (ds_while fu_closed PassesOwn.never (dmt_dt (dt_cmp (m := true) o_isnN (dp_varB (pv 3)) dp_non (nomark _))) (dss_cons (ds_set (i := 4) sc_closed.nd rfl (by first | exact .inl rfl | exact .inr rfl) (dk_dm (dm_dp (dp_var (pv 3)))))
    (dss_cons (ds_setLcV (i := 6) (own := [("part", 7), ("size", 8)]) ⟨ok.un, ok.calm⟩ sc_closed.nd rfl rfl (sw_true rfl rfl rfl (by decide +kernel)) (di_zip (by rfl) m_zip (dp_var (pv 0)) (dp_var (pv 1))) (blkOk_by (N := ["ranges", "held", "machine", "lower", "low", "high", "inside", "part", "size", "end"]) (sc := defScope s_closed) (by decide +kernel)) (fun _ _ _ _ _ => (dg_tup ok.calm (dgs_cons (dg_name (pg_name (i := 7) sc_closed.nd rfl (by first | exact .inl rfl | exact .inr rfl))) (dgs_cons (dg_name (pg_name (i := 8) sc_closed.nd rfl (by first | exact .inl rfl | exact .inr rfl))) dgs_nil)))) (fun _ _ _ _ _ => (dts_one (DW.dt (dw_and (dt_cmp (m := true) o_isnN (dp_varB (pv 8)) dp_non (nomark _)) (dw_and1 (dt_chain (m := true) (o_le ⟨ok.un, ok.calm⟩) (o_le ⟨ok.un, ok.calm⟩) (dp_varB (pv 4)) (dp_varB (pv 8)) (dp_varB (pv 5)))))))) (fun _ _ _ _ _ => (dp_ix o_ix (dp_var (pv 7)) dp_int (fun _ _ => rfl))) (by decide))
    (dss_one (ds_set (i := 3) sc_closed.nd rfl (by first | exact .inl rfl | exact .inr rfl) (dk_dm (dm_dp (dp_callK (c_minK ⟨ok.un, ok.calm⟩) (by rfl) m_min boot_min (dps_cons (dp_lc (own := [("end", 9)]) ⟨ok.un, ok.calm⟩ sc_closed.nd (di_seq (dp_var (pv 6))) (blkOk_by (N := ["ranges", "held", "machine", "lower", "low", "high", "inside", "part", "size", "end"]) (sc := defScope s_closed) (by decide +kernel)) (fun _ _ _ _ _ => (dg_name (pg_name (i := 9) sc_closed.nd rfl (by first | exact .inl rfl | exact .inr rfl)))) (fun _ _ _ _ _ => (dts_one (dt_cmp (m := true) (o_lt ⟨ok.un, ok.calm⟩) (dp_varB (pv 9)) (dp_varB (pv 4)) (nomark _)))) (fun _ _ _ _ _ => (dp_var (pv 9))) (by decide)) dps_nil) dp_non))))))))
    (dss_one (ds_ret (dk_dm (dm_dp (dp_tup (dps_cons (dp_var (pv 4)) (dps_cons (dp_var (pv 5)) dps_nil))))))))))
abbrev s_shortages : Stmt := top 18
theorem sc_shortages : FnScope ["shop", "found", "held", "ranges", "low", "high", "machine", "size"] ["shop"] (defScope s_shortages) := ⟨rfl, rfl, rfl, by decide +kernel, rfl, by decide +kernel, by decide +kernel⟩
theorem kn_shortages {f : Addr} {fd : FuncData} (F : FnP K "shortages" s_shortages f fd) (hm : mg "shortages" = some (.ref f)) (k_closed : Known P w K mg base "closed" ["ranges", "held", "machine"] 1 (spG K g_closed)) (k_service : Known P w K mg base "service" ["shop"] 3 (spG K g_service)) (m_enumerate : mg "enumerate" = none) (m_len : mg "len" = none) (m_max : mg "max" = none) (m_sorted : mg "sorted" = none) : Known P w K mg base "shortages" ["shop"] 4 (spG K g_shortages) := by
  refine .of F hm (fun _ _ _ _ _ _ us hl => match us, hl with | [_], _ => rfl) ?_
  refine fnp_g (k := 3) (N := ["shop", "found", "held", "ranges", "low", "high", "machine", "size"]) F sc_shortages (by decide) (fb := b_shortages) fun cdv A outer s H E hr => ?_
  have ok : Okx (bodyX P w K mg base ["shop", "found", "held", "ranges", "low", "high", "machine", "size"] "shortages" s_shortages f cdv A outer s H E) := .of hr rfl
  exact (dss_cons (ds_asg (dm_dp (dp_tup (dps_cons (dp_kn k_service (hr.mono (by first | decide | omega)) (by rfl) (dps_cons (dp_var (pv 0)) dps_nil)) (dps_cons (dp_ix o_ix (dp_var (pv 0)) dp_int (fun _ _ => rfl)) dps_nil)))) (dg_tup ok.calm (dgs_cons (dg_name (pg_name (i := 2) sc_shortages.nd rfl (by first | exact .inl rfl | exact .inr rfl))) (dgs_cons (dg_name (pg_name (i := 3) sc_shortages.nd rfl (by first | exact .inl rfl | exact .inr rfl))) dgs_nil))))
    (dss_cons (ds_set (i := 1) sc_shortages.nd rfl (by first | exact .inl rfl | exact .inr rfl) (dk_df (df_lst dps_nil)))
    (dss_cons (ds_for ok PassesOwn.never (dim_di (di_seq (dp_callB (c_sorted ⟨ok.un, ok.calm⟩) (by rfl) m_sorted (by decide +kernel) (dps_cons (dp_lc (own := [("machine", 6), ("size", 7)]) ⟨ok.un, ok.calm⟩ sc_shortages.nd (di_enum (by rfl) m_enumerate (dp_var (pv 2))) (blkOk_by (N := ["shop", "found", "held", "ranges", "low", "high", "machine", "size"]) (sc := defScope s_shortages) (by decide +kernel)) (fun _ _ _ _ _ => (dg_tup ok.calm (dgs_cons (dg_name (pg_name (i := 6) sc_shortages.nd rfl (by first | exact .inl rfl | exact .inr rfl))) (dgs_cons (dg_name (pg_name (i := 7) sc_shortages.nd rfl (by first | exact .inl rfl | exact .inr rfl))) dgs_nil)))) (fun _ _ _ _ _ => (dts_one (dt_cmp (m := true) o_isN (dp_varB (pv 7)) dp_non (nomark _)))) (fun _ _ _ _ _ => (dp_kn k_closed (hr.mono (by first | decide | omega)) (by rfl) (dps_cons (dp_var (pv 3)) (dps_cons (dp_var (pv 2)) (dps_cons (dp_var (pv 6)) dps_nil))))) (by decide)) dps_nil)))) (dg_tup ok.calm (dgs_cons (dg_name (pg_name (i := 4) sc_shortages.nd rfl (by first | exact .inl rfl | exact .inr rfl))) (dgs_cons (dg_name (pg_name (i := 5) sc_shortages.nd rfl (by first | exact .inl rfl | exact .inr rfl))) dgs_nil))) (dss_one (ds_if (dmt_dt (DW.dt (dw_and (dt_cmp (m := true) (o_gt ⟨ok.un, ok.calm⟩) (dp_callB c_len (by rfl) m_len (by decide +kernel) (dps_cons (dp_varB (pv 1)) dps_nil)) dp_int (nomark _)) (dw_and1 (dt_cmp (m := true) (o_le ⟨ok.un, ok.calm⟩) (dp_varB (pv 4)) (dp_ix o_ix (dp_ix o_ix (dp_varB (pv 1)) (dp_un o_neg dp_int) (fun _ _ => rfl)) dp_int (fun _ _ => rfl)) (nomark _)))))) (dss_one (ds_item (pv 1) (dm_dp (dp_tup (dps_cons (dp_ix o_ix (dp_ixB (m := true) (pv 1) (dp_un o_neg dp_int) (fun _ _ => rfl)) dp_int (fun _ _ => rfl)) (dps_cons (dp_callB (c_max ⟨ok.un, ok.calm⟩) (by rfl) m_max (by decide +kernel) (dps_cons (dp_var (pv 5)) (dps_cons (dp_ix o_ix (dp_ixB (m := true) (pv 1) (dp_un o_neg dp_int) (fun _ _ => rfl)) dp_int (fun _ _ => rfl)) dps_nil))) dps_nil)))) (dm_dp (dp_un o_neg dp_int)))) (dss_one (ds_append (pv 1) (dm_dp (dp_tup (dps_cons (dp_var (pv 4)) (dps_cons (dp_var (pv 5)) dps_nil)))))))))
    (dss_one (ds_retO (pv 1))))))
abbrev s_law_same : Stmt := top 32
theorem sc_law_same : FnScope ["got", "goal", "mine", "own"] ["got", "goal"] (defScope s_law_same) := ⟨rfl, rfl, rfl, by decide +kernel, rfl, by decide +kernel, by decide +kernel⟩
theorem kn_law_same {f : Addr} {fd : FuncData} (F : FnP K "_law_same" s_law_same f fd) (hm : mg "_law_same" = some (.ref f)) (m_all : mg "all" = none) (m_bool : mg "bool" = none) (m_int : mg "int" = none) (m_isinstance : mg "isinstance" = none) (m_len : mg "len" = none) (m_list : mg "list" = none) (m_str : mg "str" = none) (m_tuple : mg "tuple" = none) (m_zip : mg "zip" = none) : ∀ n : Nat, Known P w K mg base "_law_same" ["got", "goal"] (0 + n) (spG K (g_law_same n))
  | 0 => .of F hm (fun _ _ _ _ _ _ us hl => match us, hl with | [_, _], _ => rfl) fn_none
  | n + 1 => by
    have ih := kn_law_same F hm m_all m_bool m_int m_isinstance m_len m_list m_str m_tuple m_zip n
    refine .of F hm (fun _ _ _ _ _ _ us hl => match us, hl with | [_, _], _ => rfl) ?_
    refine fnp_g (k := 0 + n) (N := ["got", "goal", "mine", "own"]) F sc_law_same (by decide) (fb := b_law_same (g_law_same n)) fun cdv A outer s H E hr => ?_
    have ok : Okx (bodyX P w K mg base ["got", "goal", "mine", "own"] "_law_same" s_law_same f cdv A outer s H E) := .of hr rfl
    generalize hgg : g_law_same n = g at ih ⊢
    exact (dss_cons (ds_if (dmt_dt (dt_val (m := true) (dp_isi2 (t := .list) (t' := .tuple) rfl rfl (by rfl) m_isinstance (by rfl) m_list (by rfl) m_tuple (dp_varB (pv 1))))) (dss_cons (ds_if (dmt_dt (DW.dt (dw_or (dt_cmp (m := true) (o_ne ⟨ok.un, ok.calm⟩) (dp_isi (t := .list) rfl (by rfl) m_isinstance (by rfl) m_list (dp_varB (pv 0))) (dp_isi (t := .list) rfl (by rfl) m_isinstance (by rfl) m_list (dp_varB (pv 1))) (nomark _)) (dw_or1 (dt_cmp (m := true) (o_ne ⟨ok.un, ok.calm⟩) (dp_isi (t := .tuple) rfl (by rfl) m_isinstance (by rfl) m_tuple (dp_varB (pv 0))) (dp_isi (t := .tuple) rfl (by rfl) m_isinstance (by rfl) m_tuple (dp_varB (pv 1))) (nomark _)))))) (dss_one (ds_ret (dk_dm (dm_dp dp_bl)))) dss_nil)
    (dss_one (ds_ret (dk_dm (dm_dp (dp_and (dp_cmp (m := false) (o_eq ⟨ok.un, ok.calm⟩) (dp_callB c_len (by rfl) m_len (by decide +kernel) (dps_cons (dp_var (pv 0)) dps_nil)) (dp_callB c_len (by rfl) m_len (by decide +kernel) (dps_cons (dp_var (pv 1)) dps_nil)) (nomark _)) (dp_one (dp_callB (c_all ⟨ok.un, ok.calm⟩) (by rfl) m_all (by decide +kernel) (dps_cons (dp_lc (own := [("mine", 2), ("own", 3)]) ⟨ok.un, ok.calm⟩ sc_law_same.nd (di_zip (by rfl) m_zip (dp_var (pv 0)) (dp_var (pv 1))) (blkOk_by (N := ["got", "goal", "mine", "own"]) (sc := defScope s_law_same) (by decide +kernel)) (fun _ _ _ _ _ => (dg_tup ok.calm (dgs_cons (dg_name (pg_name (i := 2) sc_law_same.nd rfl (by first | exact .inl rfl | exact .inr rfl))) (dgs_cons (dg_name (pg_name (i := 3) sc_law_same.nd rfl (by first | exact .inl rfl | exact .inr rfl))) dgs_nil)))) (fun _ _ _ _ _ => dts_nil) (fun _ _ _ _ _ => (dp_kn ih (hr.mono (by omega)) (by rfl) (dps_cons (dp_var (pv 2)) (dps_cons (dp_var (pv 3)) dps_nil)))) (by decide)) dps_nil))))))))) dss_nil)
    (dss_cons (ds_if (dmt_dt (DW.dt (dw_or (dt_cmp (m := true) o_isN (dp_varB (pv 1)) dp_non (nomark _)) (dw_or1 (dt_val (m := true) (dp_isi2 (t := .bool) (t' := .str) rfl rfl (by rfl) m_isinstance (by rfl) m_bool (by rfl) m_str (dp_varB (pv 1)))))))) (dss_one (ds_ret (dk_dm (dm_dp (dp_and (dp_cmp (m := false) (o_eq ⟨ok.un, ok.calm⟩) (dp_var (pv 0)) (dp_var (pv 1)) (nomark _)) (dp_and (dp_cmp (m := false) (o_eq ⟨ok.un, ok.calm⟩) (dp_isi (t := .bool) rfl (by rfl) m_isinstance (by rfl) m_bool (dp_var (pv 0))) (dp_isi (t := .bool) rfl (by rfl) m_isinstance (by rfl) m_bool (dp_var (pv 1))) (nomark _)) (dp_one (dp_cmp (m := false) (o_eq ⟨ok.un, ok.calm⟩) (dp_cmp (m := false) o_isN (dp_var (pv 0)) dp_non (nomark _)) (dp_cmp (m := false) o_isN (dp_var (pv 1)) dp_non (nomark _)) (nomark _))))))))) dss_nil)
    (dss_one (ds_ret (dk_dm (dm_dp (dp_and (dp_isi (t := .int) rfl (by rfl) m_isinstance (by rfl) m_int (dp_var (pv 0))) (dp_and (dp_not (dp_isi (t := .bool) rfl (by rfl) m_isinstance (by rfl) m_bool (dp_var (pv 0)))) (dp_one (dp_cmp (m := false) (o_eq ⟨ok.un, ok.calm⟩) (dp_var (pv 0)) (dp_var (pv 1)) (nomark _)))))))))))
abbrev s_shortage : Stmt := top 16
theorem sc_shortage : FnScope ["shop", "interval", "machines", "part", "size"] ["shop", "interval"] (defScope s_shortage) := ⟨rfl, rfl, rfl, by decide +kernel, rfl, by decide +kernel, by decide +kernel⟩
theorem kn_shortage {f : Addr} {fd : FuncData} (F : FnP K "shortage" s_shortage f fd) (hm : mg "shortage" = some (.ref f)) (k_takes : Known P w K mg base "takes" ["part", "size"] 1 (spG K g_takes)) (m_len : mg "len" = none) : Known P w K mg base "shortage" ["shop", "interval"] 2 (spG K g_shortage) := by
  refine .of F hm (fun _ _ _ _ _ _ us hl => match us, hl with | [_, _], _ => rfl) ?_
  refine fnp_g (k := 1) (N := ["shop", "interval", "machines", "part", "size"]) F sc_shortage (by decide) (fb := b_shortage) fun cdv A outer s H E hr => ?_
  have ok : Okx (bodyX P w K mg base ["shop", "interval", "machines", "part", "size"] "shortage" s_shortage f cdv A outer s H E) := .of hr rfl
  exact (dss_cons (ds_setLcV (i := 2) (own := [("part", 3)]) ⟨ok.un, ok.calm⟩ sc_shortage.nd rfl rfl (sw_true rfl rfl rfl (by decide +kernel)) (di_seq (dp_ix o_ix (dp_var (pv 0)) dp_int (fun _ _ => rfl))) (blkOk_by (N := ["shop", "interval", "machines", "part", "size"]) (sc := defScope s_shortage) (by decide +kernel)) (fun _ _ _ _ _ => (dg_name (pg_name (i := 3) sc_shortage.nd rfl (by first | exact .inl rfl | exact .inr rfl)))) (fun _ _ _ _ _ => (dts_one (DW.dt (dw_and (dt_cmp (m := true) (o_le ⟨ok.un, ok.calm⟩) (dp_ix o_ix (dp_varB (pv 1)) dp_int (fun _ _ => rfl)) (dp_ix o_ix (dp_varB (pv 3)) dp_int (fun _ _ => rfl)) (nomark _)) (dw_and1 (dt_cmp (m := true) (o_le ⟨ok.un, ok.calm⟩) (dp_ix o_ix (dp_varB (pv 3)) dp_int (fun _ _ => rfl)) (dp_ix o_ix (dp_varB (pv 1)) dp_int (fun _ _ => rfl)) (nomark _))))))) (fun _ _ _ _ _ => (dp_var (pv 3))) (by decide))
    (dss_one (ds_ret (dk_dm (dm_dp (dp_bin o_sub (dp_callB c_len (by rfl) m_len (by decide +kernel) (dps_cons (dp_var (pv 2)) dps_nil)) (dp_callB c_len (by rfl) m_len (by decide +kernel) (dps_cons (dp_lc (own := [("size", 4)]) ⟨ok.un, ok.calm⟩ sc_shortage.nd (di_seq (dp_ix o_ix (dp_var (pv 0)) dp_int (fun _ _ => rfl))) (blkOk_by (N := ["shop", "interval", "machines", "part", "size"]) (sc := defScope s_shortage) (by decide +kernel)) (fun _ _ _ _ _ => (dg_name (pg_name (i := 4) sc_shortage.nd rfl (by first | exact .inl rfl | exact .inr rfl)))) (fun _ _ _ _ _ => (dts_one (dt_val (m := true) (dp_kn k_takes (hr.mono (by first | decide | omega)) (by rfl) (dps_cons (dp_varB (pv 1)) (dps_cons (dp_varB (pv 4)) dps_nil)))))) (fun _ _ _ _ _ => (dp_var (pv 4))) (by decide)) dps_nil))))))))
abbrev s_is_number : Stmt := top 4
theorem sc_is_number : FnScope ["thing"] ["thing"] (defScope s_is_number) := ⟨rfl, rfl, rfl, by decide +kernel, rfl, by decide +kernel, by decide +kernel⟩
theorem kn_is_number {f : Addr} {fd : FuncData} (F : FnP K "is_number" s_is_number f fd) (hm : mg "is_number" = some (.ref f)) (m_bool : mg "bool" = none) (m_int : mg "int" = none) (m_isinstance : mg "isinstance" = none) : Known P w K mg base "is_number" ["thing"] 1 (spG K g_is_number) := by
  refine .of F hm (fun _ _ _ _ _ _ us hl => match us, hl with | [_], _ => rfl) ?_
  refine fnp_g (k := 0) (N := ["thing"]) F sc_is_number (by decide) (fb := b_is_number) fun cdv A outer s H E hr => ?_
  have ok : Okx (bodyX P w K mg base ["thing"] "is_number" s_is_number f cdv A outer s H E) := .of hr rfl
  exact (dss_one (ds_ret (dk_dm (dm_dp (dp_and (dp_isi (t := .int) rfl (by rfl) m_isinstance (by rfl) m_int (dp_var (pv 0))) (dp_one (dp_not (dp_isi (t := .bool) rfl (by rfl) m_isinstance (by rfl) m_bool (dp_var (pv 0))))))))))
abbrev s_is_interval : Stmt := top 5
theorem sc_is_interval : FnScope ["thing", "end"] ["thing"] (defScope s_is_interval) := ⟨rfl, rfl, rfl, by decide +kernel, rfl, by decide +kernel, by decide +kernel⟩
theorem kn_is_interval {f : Addr} {fd : FuncData} (F : FnP K "is_interval" s_is_interval f fd) (hm : mg "is_interval" = some (.ref f)) (k_is_number : Known P w K mg base "is_number" ["thing"] 1 (spG K g_is_number)) (c_PAIR : ∃ t, mg "PAIR" = some (.int 2 t)) (m_all : mg "all" = none) (m_isinstance : mg "isinstance" = none) (m_len : mg "len" = none) (m_tuple : mg "tuple" = none) : Known P w K mg base "is_interval" ["thing"] 2 (spG K g_is_interval) := by
  refine .of F hm (fun _ _ _ _ _ _ us hl => match us, hl with | [_], _ => rfl) ?_
  refine fnp_g (k := 1) (N := ["thing", "end"]) F sc_is_interval (by decide) (fb := b_is_interval) fun cdv A outer s H E hr => ?_
  have ok : Okx (bodyX P w K mg base ["thing", "end"] "is_interval" s_is_interval f cdv A outer s H E) := .of hr rfl
  exact (dss_cons (ds_if (dmt_dt (DW.dt (dw_or (dt_not (dt_val (m := true) (dp_isi (t := .tuple) rfl (by rfl) m_isinstance (by rfl) m_tuple (dp_varB (pv 0))))) (dw_or (dt_cmp (m := true) (o_ne ⟨ok.un, ok.calm⟩) (dp_callB c_len (by rfl) m_len (by decide +kernel) (dps_cons (dp_varB (pv 0)) dps_nil)) (dp_globI (by rfl) c_PAIR) (nomark _)) (dw_or1 (dt_not (dt_val (m := true) (dp_callB (c_all ⟨ok.un, ok.calm⟩) (by rfl) m_all (by decide +kernel) (dps_cons (dp_lc (own := [("end", 1)]) ⟨ok.un, ok.calm⟩ sc_is_interval.nd (di_seq (dp_var (pv 0))) (blkOk_by (N := ["thing", "end"]) (sc := defScope s_is_interval) (by decide +kernel)) (fun _ _ _ _ _ => (dg_name (pg_name (i := 1) sc_is_interval.nd rfl (by first | exact .inl rfl | exact .inr rfl)))) (fun _ _ _ _ _ => dts_nil) (fun _ _ _ _ _ => (dp_kn k_is_number (hr.mono (by first | decide | omega)) (by rfl) (dps_cons (dp_varB (pv 1)) dps_nil))) (by decide)) dps_nil))))))))) (dss_one (ds_ret (dk_dm (dm_dp dp_bl)))) dss_nil)
    (dss_one (ds_ret (dk_dm (dm_dp (dp_cmp (m := false) (o_le ⟨ok.un, ok.calm⟩) (dp_ix o_ix (dp_var (pv 0)) dp_int (fun _ _ => rfl)) (dp_ix o_ix (dp_var (pv 0)) dp_int (fun _ _ => rfl)) (nomark _)))))))
abbrev s_shows_shortages : Stmt := top 19
theorem sc_shows_shortages : FnScope ["shop", "many", "thing", "part", "one", "other"] ["shop", "many", "thing"] (defScope s_shows_shortages) := ⟨rfl, rfl, rfl, by decide +kernel, rfl, by decide +kernel, by decide +kernel⟩
theorem kn_shows_shortages {f : Addr} {fd : FuncData} (F : FnP K "shows_shortages" s_shows_shortages f fd) (hm : mg "shows_shortages" = some (.ref f)) (k_is_interval : Known P w K mg base "is_interval" ["thing"] 2 (spG K g_is_interval)) (k_shortage : Known P w K mg base "shortage" ["shop", "interval"] 2 (spG K g_shortage)) (m_all : mg "all" = none) (m_isinstance : mg "isinstance" = none) (m_list : mg "list" = none) (m_sum : mg "sum" = none) (m_zip : mg "zip" = none) : Known P w K mg base "shows_shortages" ["shop", "many", "thing"] 3 (spG K g_shows_shortages) := by
  refine .of F hm (fun _ _ _ _ _ _ us hl => match us, hl with | [_, _, _], _ => rfl) ?_
  refine fnp_g (k := 2) (N := ["shop", "many", "thing", "part", "one", "other"]) F sc_shows_shortages (by decide) (fb := b_shows_shortages) fun cdv A outer s H E hr => ?_
  have ok : Okx (bodyX P w K mg base ["shop", "many", "thing", "part", "one", "other"] "shows_shortages" s_shows_shortages f cdv A outer s H E) := .of hr rfl
  exact (dss_cons (ds_if (dmt_dt (DW.dt (dw_or (dt_not (dt_val (m := true) (dp_isi (t := .list) rfl (by rfl) m_isinstance (by rfl) m_list (dp_varB (pv 2))))) (dw_or1 (dt_not (dt_val (m := true) (dp_callB (c_all ⟨ok.un, ok.calm⟩) (by rfl) m_all (by decide +kernel) (dps_cons (dp_lc (own := [("part", 3)]) ⟨ok.un, ok.calm⟩ sc_shows_shortages.nd (di_seq (dp_var (pv 2))) (blkOk_by (N := ["shop", "many", "thing", "part", "one", "other"]) (sc := defScope s_shows_shortages) (by decide +kernel)) (fun _ _ _ _ _ => (dg_name (pg_name (i := 3) sc_shows_shortages.nd rfl (by first | exact .inl rfl | exact .inr rfl)))) (fun _ _ _ _ _ => dts_nil) (fun _ _ _ _ _ => (dp_kn k_is_interval (hr.mono (by first | decide | omega)) (by rfl) (dps_cons (dp_varB (pv 3)) dps_nil))) (by decide)) dps_nil)))))))) (dss_one (ds_ret (dk_dm (dm_dp dp_bl)))) dss_nil)
    (dss_cons (ds_if (dmt_dt (dt_not (dt_val (m := true) (dp_callB (c_all ⟨ok.un, ok.calm⟩) (by rfl) m_all (by decide +kernel) (dps_cons (dp_lc (own := [("one", 4), ("other", 5)]) ⟨ok.un, ok.calm⟩ sc_shows_shortages.nd (di_zip (by rfl) m_zip (dp_var (pv 2)) (dp_slice (dp_var (pv 2)) (do_some (m := true) dp_int) do_none)) (blkOk_by (N := ["shop", "many", "thing", "part", "one", "other"]) (sc := defScope s_shows_shortages) (by decide +kernel)) (fun _ _ _ _ _ => (dg_tup ok.calm (dgs_cons (dg_name (pg_name (i := 4) sc_shows_shortages.nd rfl (by first | exact .inl rfl | exact .inr rfl))) (dgs_cons (dg_name (pg_name (i := 5) sc_shows_shortages.nd rfl (by first | exact .inl rfl | exact .inr rfl))) dgs_nil)))) (fun _ _ _ _ _ => dts_nil) (fun _ _ _ _ _ => (dp_cmp (m := true) (o_lt ⟨ok.un, ok.calm⟩) (dp_ix o_ix (dp_varB (pv 4)) dp_int (fun _ _ => rfl)) (dp_ix o_ix (dp_varB (pv 5)) dp_int (fun _ _ => rfl)) (nomark _))) (by decide)) dps_nil))))) (dss_one (ds_ret (dk_dm (dm_dp dp_bl)))) dss_nil)
    (dss_one (ds_ret (dk_dm (dm_dp (dp_cmp (m := false) (o_ge ⟨ok.un, ok.calm⟩) (dp_callB (c_sum ⟨ok.un, ok.calm⟩) (by rfl) m_sum (by decide +kernel) (dps_cons (dp_lc (own := [("part", 3)]) ⟨ok.un, ok.calm⟩ sc_shows_shortages.nd (di_seq (dp_var (pv 2))) (blkOk_by (N := ["shop", "many", "thing", "part", "one", "other"]) (sc := defScope s_shows_shortages) (by decide +kernel)) (fun _ _ _ _ _ => (dg_name (pg_name (i := 3) sc_shows_shortages.nd rfl (by first | exact .inl rfl | exact .inr rfl)))) (fun _ _ _ _ _ => dts_nil) (fun _ _ _ _ _ => (dp_kn k_shortage (hr.mono (by first | decide | omega)) (by rfl) (dps_cons (dp_var (pv 0)) (dps_cons (dp_var (pv 3)) dps_nil)))) (by decide)) dps_nil)) (dp_var (pv 1)) (nomark _))))))))
abbrev s_shows_overfull : Stmt := top 27
theorem sc_shows_overfull : FnScope ["shop", "thing"] ["shop", "thing"] (defScope s_shows_overfull) := ⟨rfl, rfl, rfl, by decide +kernel, rfl, by decide +kernel, by decide +kernel⟩
theorem kn_shows_overfull {f : Addr} {fd : FuncData} (F : FnP K "shows_overfull" s_shows_overfull f fd) (hm : mg "shows_overfull" = some (.ref f)) (k_is_interval : Known P w K mg base "is_interval" ["thing"] 2 (spG K g_is_interval)) (k_shortage : Known P w K mg base "shortage" ["shop", "interval"] 2 (spG K g_shortage)) : Known P w K mg base "shows_overfull" ["shop", "thing"] 3 (spG K g_shows_overfull) := by
  refine .of F hm (fun _ _ _ _ _ _ us hl => match us, hl with | [_, _], _ => rfl) ?_
  refine fnp_g (k := 2) (N := ["shop", "thing"]) F sc_shows_overfull (by decide) (fb := b_shows_overfull) fun cdv A outer s H E hr => ?_
  have ok : Okx (bodyX P w K mg base ["shop", "thing"] "shows_overfull" s_shows_overfull f cdv A outer s H E) := .of hr rfl
  exact (dss_one (ds_ret (dk_dm (dm_dp (dp_and (dp_kn k_is_interval (hr.mono (by first | decide | omega)) (by rfl) (dps_cons (dp_var (pv 1)) dps_nil)) (dp_one (dp_cmp (m := false) (o_gt ⟨ok.un, ok.calm⟩) (dp_kn k_shortage (hr.mono (by first | decide | omega)) (by rfl) (dps_cons (dp_var (pv 0)) (dps_cons (dp_var (pv 1)) dps_nil))) dp_int (nomark _))))))))
abbrev s_is_service : Stmt := top 14
theorem sc_is_service : FnScope ["shop", "thing", "held", "part", "size"] ["shop", "thing"] (defScope s_is_service) := ⟨rfl, rfl, rfl, by decide +kernel, rfl, by decide +kernel, by decide +kernel⟩
theorem kn_is_service {f : Addr} {fd : FuncData} (F : FnP K "is_service" s_is_service f fd) (hm : mg "is_service" = some (.ref f)) (k_is_number : Known P w K mg base "is_number" ["thing"] 1 (spG K g_is_number)) (k_takes : Known P w K mg base "takes" ["part", "size"] 1 (spG K g_takes)) (m_all : mg "all" = none) (m_isinstance : mg "isinstance" = none) (m_len : mg "len" = none) (m_tuple : mg "tuple" = none) (m_zip : mg "zip" = none) : Known P w K mg base "is_service" ["shop", "thing"] 2 (spG K g_is_service) := by
  refine .of F hm (fun _ _ _ _ _ _ us hl => match us, hl with | [_, _], _ => rfl) ?_
  refine fnp_g (k := 1) (N := ["shop", "thing", "held", "part", "size"]) F sc_is_service (by decide) (fb := b_is_service) fun cdv A outer s H E hr => ?_
  have ok : Okx (bodyX P w K mg base ["shop", "thing", "held", "part", "size"] "is_service" s_is_service f cdv A outer s H E) := .of hr rfl
  exact (dss_cons (ds_if (dmt_dt (DW.dt (dw_or (dt_not (dt_val (m := true) (dp_isi (t := .tuple) rfl (by rfl) m_isinstance (by rfl) m_tuple (dp_varB (pv 1))))) (dw_or1 (dt_cmp (m := true) (o_ne ⟨ok.un, ok.calm⟩) (dp_callB c_len (by rfl) m_len (by decide +kernel) (dps_cons (dp_varB (pv 1)) dps_nil)) (dp_callB c_len (by rfl) m_len (by decide +kernel) (dps_cons (dp_ix o_ix (dp_varB (pv 0)) dp_int (fun _ _ => rfl)) dps_nil)) (nomark _)))))) (dss_one (ds_ret (dk_dm (dm_dp dp_bl)))) dss_nil)
    (dss_cons (ds_setLcV (i := 2) (own := [("part", 3), ("size", 4)]) ⟨ok.un, ok.calm⟩ sc_is_service.nd rfl rfl (sw_true rfl rfl rfl (by decide +kernel)) (di_zip (by rfl) m_zip (dp_ix o_ix (dp_var (pv 0)) dp_int (fun _ _ => rfl)) (dp_var (pv 1))) (blkOk_by (N := ["shop", "thing", "held", "part", "size"]) (sc := defScope s_is_service) (by decide +kernel)) (fun _ _ _ _ _ => (dg_tup ok.calm (dgs_cons (dg_name (pg_name (i := 3) sc_is_service.nd rfl (by first | exact .inl rfl | exact .inr rfl))) (dgs_cons (dg_name (pg_name (i := 4) sc_is_service.nd rfl (by first | exact .inl rfl | exact .inr rfl))) dgs_nil)))) (fun _ _ _ _ _ => (dts_one (dt_cmp (m := true) o_isnN (dp_varB (pv 4)) dp_non (nomark _)))) (fun _ _ _ _ _ => (dp_tup (dps_cons (dp_var (pv 3)) (dps_cons (dp_var (pv 4)) dps_nil)))) (by decide))
    (dss_cons (ds_if (dmt_dt (dt_not (dt_val (m := true) (dp_callB (c_all ⟨ok.un, ok.calm⟩) (by rfl) m_all (by decide +kernel) (dps_cons (dp_lc (own := [("part", 3), ("size", 4)]) ⟨ok.un, ok.calm⟩ sc_is_service.nd (di_seq (dp_var (pv 2))) (blkOk_by (N := ["shop", "thing", "held", "part", "size"]) (sc := defScope s_is_service) (by decide +kernel)) (fun _ _ _ _ _ => (dg_tup ok.calm (dgs_cons (dg_name (pg_name (i := 3) sc_is_service.nd rfl (by first | exact .inl rfl | exact .inr rfl))) (dgs_cons (dg_name (pg_name (i := 4) sc_is_service.nd rfl (by first | exact .inl rfl | exact .inr rfl))) dgs_nil)))) (fun _ _ _ _ _ => dts_nil) (fun _ _ _ _ _ => (dp_and (dp_kn k_is_number (hr.mono (by first | decide | omega)) (by rfl) (dps_cons (dp_varB (pv 4)) dps_nil)) (dp_and (dp_cmp (m := true) (o_in ⟨ok.un, ok.calm⟩) (dp_varB (pv 4)) (dp_ix o_ix (dp_varB (pv 0)) dp_int (fun _ _ => rfl)) rfl) (dp_one (dp_kn k_takes (hr.mono (by first | decide | omega)) (by rfl) (dps_cons (dp_varB (pv 3)) (dps_cons (dp_varB (pv 4)) dps_nil))))))) (by decide)) dps_nil))))) (dss_one (ds_ret (dk_dm (dm_dp dp_bl)))) dss_nil)
    (dss_one (ds_ret (dk_dm (dm_dp (dp_cmp (m := false) (o_eq ⟨ok.un, ok.calm⟩) (dp_lenSc (own := [("part", 3), ("size", 4)]) (m' := true) ⟨ok.un, ok.calm⟩ sc_is_service.nd (by rfl) m_len (di_seq (dp_var (pv 2))) (blkOk_by (N := ["shop", "thing", "held", "part", "size"]) (sc := defScope s_is_service) (by decide +kernel)) (fun _ _ _ _ _ => (dg_tup ok.calm (dgs_cons (dg_name (pg_name (i := 3) sc_is_service.nd rfl (by first | exact .inl rfl | exact .inr rfl))) (dgs_cons (dg_name (pg_name (i := 4) sc_is_service.nd rfl (by first | exact .inl rfl | exact .inr rfl))) dgs_nil)))) (fun _ _ _ _ _ => dts_nil) (fun _ _ _ _ _ => (dp_varB (pv 4))) (by decide)) (dp_callB c_len (by rfl) m_len (by decide +kernel) (dps_cons (dp_var (pv 2)) dps_nil)) (nomark _)))))))))
abbrev s_shows_service : Stmt := top 15
theorem sc_shows_service : FnScope ["shop", "thing"] ["shop", "thing"] (defScope s_shows_service) := ⟨rfl, rfl, rfl, by decide +kernel, rfl, by decide +kernel, by decide +kernel⟩
theorem kn_shows_service {f : Addr} {fd : FuncData} (F : FnP K "shows_service" s_shows_service f fd) (hm : mg "shows_service" = some (.ref f)) (k_is_service : Known P w K mg base "is_service" ["shop", "thing"] 2 (spG K g_is_service)) (k_most_served : Known P w K mg base "most_served" ["shop"] 4 (spG K g_most_served)) (k_served : Known P w K mg base "served" ["row"] 1 (spG K g_served)) : Known P w K mg base "shows_service" ["shop", "thing"] 5 (spG K g_shows_service) := by
  refine .of F hm (fun _ _ _ _ _ _ us hl => match us, hl with | [_, _], _ => rfl) ?_
  refine fnp_g (k := 4) (N := ["shop", "thing"]) F sc_shows_service (by decide) (fb := b_shows_service) fun cdv A outer s H E hr => ?_
  have ok : Okx (bodyX P w K mg base ["shop", "thing"] "shows_service" s_shows_service f cdv A outer s H E) := .of hr rfl
  exact (dss_one (ds_ret (dk_dm (dm_dp (dp_and (dp_kn k_is_service (hr.mono (by first | decide | omega)) (by rfl) (dps_cons (dp_var (pv 0)) (dps_cons (dp_var (pv 1)) dps_nil))) (dp_one (dp_cmp (m := false) (o_eq ⟨ok.un, ok.calm⟩) (dp_kn k_served (hr.mono (by first | decide | omega)) (by rfl) (dps_cons (dp_var (pv 1)) dps_nil)) (dp_kn k_most_served (hr.mono (by first | decide | omega)) (by rfl) (dps_cons (dp_var (pv 0)) dps_nil)) (nomark _))))))))
abbrev s_feasible : Stmt := top 10
theorem sc_feasible : FnScope ["sizes", "ranges"] ["sizes", "ranges"] (defScope s_feasible) := ⟨rfl, rfl, rfl, by decide +kernel, rfl, by decide +kernel, by decide +kernel⟩
theorem kn_feasible {f : Addr} {fd : FuncData} (F : FnP K "feasible" s_feasible f fd) (hm : mg "feasible" = some (.ref f)) (k_greedy : Known P w K mg base "greedy" ["sizes", "ranges"] 2 (spG K g_greedy)) : Known P w K mg base "feasible" ["sizes", "ranges"] 3 (spG K g_feasible) := by
  refine .of F hm (fun _ _ _ _ _ _ us hl => match us, hl with | [_, _], _ => rfl) ?_
  refine fnp_g (k := 2) (N := ["sizes", "ranges"]) F sc_feasible (by decide) (fb := b_feasible) fun cdv A outer s H E hr => ?_
  have ok : Okx (bodyX P w K mg base ["sizes", "ranges"] "feasible" s_feasible f cdv A outer s H E) := .of hr rfl
  exact (dss_one (ds_ret (dk_dm (dm_dp (dp_cmp (m := false) (o_nin ⟨ok.un, ok.calm⟩) dp_non (dp_kn k_greedy (hr.mono (by first | decide | omega)) (by rfl) (dps_cons (dp_var (pv 0)) (dps_cons (dp_var (pv 1)) dps_nil))) rfl)))))
abbrev s_others_of : Stmt := top 24
theorem sc_others_of : FnScope ["sizes", "size", "other"] ["sizes", "size"] (defScope s_others_of) := ⟨rfl, rfl, rfl, by decide +kernel, rfl, by decide +kernel, by decide +kernel⟩
theorem kn_others_of {f : Addr} {fd : FuncData} (F : FnP K "others_of" s_others_of f fd) (hm : mg "others_of" = some (.ref f))  : Known P w K mg base "others_of" ["sizes", "size"] 1 (spG K g_others_of) := by
  refine .of F hm (fun _ _ _ _ _ _ us hl => match us, hl with | [_, _], _ => rfl) ?_
  refine fnp_g (k := 0) (N := ["sizes", "size", "other"]) F sc_others_of (by decide) (fb := b_others_of) fun cdv A outer s H E hr => ?_
  have ok : Okx (bodyX P w K mg base ["sizes", "size", "other"] "others_of" s_others_of f cdv A outer s H E) := .of hr rfl
  exact (dss_one (ds_ret (dk_dm (dm_dp (dp_lc (own := [("other", 2)]) ⟨ok.un, ok.calm⟩ sc_others_of.nd (di_seq (dp_var (pv 0))) (blkOk_by (N := ["sizes", "size", "other"]) (sc := defScope s_others_of) (by decide +kernel)) (fun _ _ _ _ _ => (dg_name (pg_name (i := 2) sc_others_of.nd rfl (by first | exact .inl rfl | exact .inr rfl)))) (fun _ _ _ _ _ => (dts_one (dt_cmp (m := true) (o_ne ⟨ok.un, ok.calm⟩) (dp_varB (pv 2)) (dp_varB (pv 1)) (nomark _)))) (fun _ _ _ _ _ => (dp_var (pv 2))) (by decide))))))
abbrev s_first_setting : Stmt := top 25
theorem sc_first_setting : FnScope ["shop", "left", "found", "machine", "part", "rest", "good", "size"] ["shop"] (defScope s_first_setting) := ⟨rfl, rfl, rfl, by decide +kernel, rfl, by decide +kernel, by decide +kernel⟩
theorem kn_first_setting {f : Addr} {fd : FuncData} (F : FnP K "first_setting" s_first_setting f fd) (hm : mg "first_setting" = some (.ref f)) (k_feasible : Known P w K mg base "feasible" ["sizes", "ranges"] 3 (spG K g_feasible)) (k_others_of : Known P w K mg base "others_of" ["sizes", "size"] 1 (spG K g_others_of)) (k_takes : Known P w K mg base "takes" ["part", "size"] 1 (spG K g_takes)) (m_enumerate : mg "enumerate" = none) (m_list : mg "list" = none) (m_tuple : mg "tuple" = none) : Known P w K mg base "first_setting" ["shop"] 4 (spG K g_first_setting) := by
  refine .of F hm (fun _ _ _ _ _ _ us hl => match us, hl with | [_], _ => rfl) ?_
  refine fnp_g (k := 3) (N := ["shop", "left", "found", "machine", "part", "rest", "good", "size"]) F sc_first_setting (by decide) (fb := b_first_setting) fun cdv A outer s H E hr => ?_
  have ok : Okx (bodyX P w K mg base ["shop", "left", "found", "machine", "part", "rest", "good", "size"] "first_setting" s_first_setting f cdv A outer s H E) := .of hr rfl
  exact (dss_cons (ds_asgK2 (i := 1) (j := 2) (by decide) ⟨ok.un, ok.calm⟩ (pg_name (i := 1) sc_first_setting.nd rfl (by first | exact .inl rfl | exact .inr rfl)) (pg_name (i := 2) sc_first_setting.nd rfl (by first | exact .inl rfl | exact .inr rfl)) (dk_df (df_list (by rfl) m_list (dp_ix o_ix (dp_var (pv 0)) dp_int (fun _ _ => rfl)))) (dk_df (df_lst dps_nil)))
    (dss_cons (ds_for ok PassesOwn.never (dim_di (di_enum (by rfl) m_enumerate (dp_ix o_ix (dp_var (pv 0)) dp_int (fun _ _ => rfl)))) (dg_tup ok.calm (dgs_cons (dg_name (pg_name (i := 3) sc_first_setting.nd rfl (by first | exact .inl rfl | exact .inr rfl))) (dgs_cons (dg_name (pg_name (i := 4) sc_first_setting.nd rfl (by first | exact .inl rfl | exact .inr rfl))) dgs_nil))) (dss_cons (ds_set (i := 5) sc_first_setting.nd rfl (by first | exact .inl rfl | exact .inr rfl) (dk_dm (dm_dp (dp_slice (dp_ix o_ix (dp_var (pv 0)) dp_int (fun _ _ => rfl)) (do_some (m := true) (dp_bin o_add (dp_varB (pv 3)) dp_int)) do_none))))
    (dss_cons (ds_setLcV (i := 6) (own := [("size", 7)]) ⟨ok.un, ok.calm⟩ sc_first_setting.nd rfl rfl (sw_true rfl rfl rfl (by decide +kernel)) (di_var (pv 1)) (blkOk_by (N := ["shop", "left", "found", "machine", "part", "rest", "good", "size"]) (sc := defScope s_first_setting) (by decide +kernel)) (fun _ _ _ _ _ => (dg_name (pg_name (i := 7) sc_first_setting.nd rfl (by first | exact .inl rfl | exact .inr rfl)))) (fun _ _ _ _ _ => (dts_one (DW.dt (dw_and (dt_val (m := true) (dp_kn k_takes (hr.mono (by first | decide | omega)) (by rfl) (dps_cons (dp_varB (pv 4)) (dps_cons (dp_varB (pv 7)) dps_nil)))) (dw_and1 (dt_val (m := true) (dp_kn k_feasible (hr.mono (by first | decide | omega)) (by rfl) (dps_cons (dp_kn k_others_of (hr.mono (by first | decide | omega)) (by rfl) (dps_cons (dp_varB (pv 1)) (dps_cons (dp_varB (pv 7)) dps_nil))) (dps_cons (dp_varB (pv 5)) dps_nil))))))))) (fun _ _ _ _ _ => (dp_var (pv 7))) (by decide))
    (dss_cons (ds_append (pv 2) (dm_dp (dp_ix o_ix (dp_var (pv 6)) dp_int (fun _ _ => rfl))))
    (dss_one (ds_remove (pv 1) (dm_dp (dp_ix o_ix (dp_var (pv 6)) dp_int (fun _ _ => rfl)))))))))
    (dss_frz 2 (dss_one (ds_ret (dk_dm (dm_dp (dp_callTy c_tuple (by rfl) m_tuple (by decide +kernel) (dps_cons (dp_var (pv 2)) dps_nil)))))))))
abbrev s_verdict : Stmt := top 26
theorem sc_verdict : FnScope ["shop", "low", "high"] ["shop"] (defScope s_verdict) := ⟨rfl, rfl, rfl, by decide +kernel, rfl, by decide +kernel, by decide +kernel⟩
theorem kn_verdict {f : Addr} {fd : FuncData} (F : FnP K "verdict" s_verdict f fd) (hm : mg "verdict" = some (.ref f)) (k_feasible : Known P w K mg base "feasible" ["sizes", "ranges"] 3 (spG K g_feasible)) (k_first_setting : Known P w K mg base "first_setting" ["shop"] 4 (spG K g_first_setting)) (k_shortages : Known P w K mg base "shortages" ["shop"] 4 (spG K g_shortages)) : Known P w K mg base "verdict" ["shop"] 5 (spG K g_verdict) := by
  refine .of F hm (fun _ _ _ _ _ _ us hl => match us, hl with | [_], _ => rfl) ?_
  refine fnp_g (k := 4) (N := ["shop", "low", "high"]) F sc_verdict (by decide) (fb := b_verdict) fun cdv A outer s H E hr => ?_
  have ok : Okx (bodyX P w K mg base ["shop", "low", "high"] "verdict" s_verdict f cdv A outer s H E) := .of hr rfl
  exact (dss_cons (ds_if (dmt_dt (dt_val (m := true) (dp_kn k_feasible (hr.mono (by first | decide | omega)) (by rfl) (dps_cons (dp_ix o_ix (dp_varB (pv 0)) dp_int (fun _ _ => rfl)) (dps_cons (dp_ix o_ix (dp_varB (pv 0)) dp_int (fun _ _ => rfl)) dps_nil))))) (dss_one (ds_ret (dk_dm (dm_dp (dp_tup (dps_cons dp_str (dps_cons (dp_kn k_first_setting (hr.mono (by first | decide | omega)) (by rfl) (dps_cons (dp_var (pv 0)) dps_nil)) dps_nil))))))) dss_nil)
    (dss_cons (ds_asg (dm_dp (dp_ix o_ix (dp_kn k_shortages (hr.mono (by first | decide | omega)) (by rfl) (dps_cons (dp_var (pv 0)) dps_nil)) dp_int (fun _ _ => rfl))) (dg_tup ok.calm (dgs_cons (dg_name (pg_name (i := 1) sc_verdict.nd rfl (by first | exact .inl rfl | exact .inr rfl))) (dgs_cons (dg_name (pg_name (i := 2) sc_verdict.nd rfl (by first | exact .inl rfl | exact .inr rfl))) dgs_nil))))
    (dss_one (ds_ret (dk_dm (dm_dp (dp_tup (dps_cons dp_str (dps_cons (dp_var (pv 1)) (dps_cons (dp_var (pv 2)) dps_nil))))))))))
abbrev s_law : Stmt := top 36
theorem sc_law : FnScope ["script", "tin", "shop", "given", "both", "counts", "ranges", "together", "got", "pair", "inside", "many", "machines", "found", "told", "one", "other", "near", "far", "low", "lower", "first", "second", "start", "end", "lack", "more", "size", "own"] ["script"] (defScope s_law) := ⟨rfl, rfl, rfl, by decide +kernel, rfl, by decide +kernel, by decide +kernel⟩
theorem kn_law {f : Addr} {fd : FuncData} (F : FnP K "law" s_law f fd) (hm : mg "law" = some (.ref f)) (k_law_box : Known P w K mg base "_law_box" ["script", "k"] 1 (spG K g_law_box)) (k_law_cells : Known P w K mg base "_law_cells" ["script", "most"] 1 (spG K g_law_cells)) (k_law_lists : Known P w K mg base "_law_lists" ["matter"] 5 (spG K (g_law_lists 5))) (k_law_pick : Known P w K mg base "_law_pick" ["tin", "goods", "most"] 2 (spI K g_law_pick)) (k_law_same : Known P w K mg base "_law_same" ["got", "goal"] 5 (spG K (g_law_same 5))) (k_law_shop : Known P w K mg base "_law_shop" ["tin", "machines", "spindles"] 3 (spI K g_law_shop)) (k_law_take : Known P w K mg base "_law_take" ["tin", "below"] 1 (spI K g_law_take)) (k_most_served : Known P w K mg base "most_served" ["shop"] 4 (spG K g_most_served)) (k_service : Known P w K mg base "service" ["shop"] 3 (spG K g_service)) (k_shortages : Known P w K mg base "shortages" ["shop"] 4 (spG K g_shortages)) (k_shows_overfull : Known P w K mg base "shows_overfull" ["shop", "thing"] 3 (spG K g_shows_overfull)) (k_shows_service : Known P w K mg base "shows_service" ["shop", "thing"] 5 (spG K g_shows_service)) (k_shows_shortages : Known P w K mg base "shows_shortages" ["shop", "many", "thing"] 3 (spG K g_shows_shortages)) (k_verdict : Known P w K mg base "verdict" ["shop"] 5 (spG K g_verdict)) (k_with_machine : Known P w K mg base "with_machine" ["shop", "low", "high"] 2 (spG K g_with_machine)) (k_with_spindle : Known P w K mg base "with_spindle" ["shop", "size"] 2 (spG K g_with_spindle)) (m_len : mg "len" = none) (m_max : mg "max" = none) (m_range : mg "range" = none) : Known P w K mg base "law" ["script"] 6 (spG K g_law) := by
  refine .of F hm (fun _ _ _ _ _ _ us hl => match us, hl with | [_], _ => rfl) ?_
  refine fnp_g (k := 5) (N := ["script", "tin", "shop", "given", "both", "counts", "ranges", "together", "got", "pair", "inside", "many", "machines", "found", "told", "one", "other", "near", "far", "low", "lower", "first", "second", "start", "end", "lack", "more", "size", "own"]) F sc_law (by decide) (fb := b_law) fun cdv A outer s H E hr => ?_
  have ok : Okx (bodyX P w K mg base ["script", "tin", "shop", "given", "both", "counts", "ranges", "together", "got", "pair", "inside", "many", "machines", "found", "told", "one", "other", "near", "far", "low", "lower", "first", "second", "start", "end", "lack", "more", "size", "own"] "law" s_law f cdv A outer s H E) := .of hr rfl
  exact (dss_cons (ds_set (i := 1) sc_law.nd rfl (by first | exact .inl rfl | exact .inr rfl) (dk_kn k_law_box (hr.mono (by first | decide | omega)) (by rfl) (dms_cons (dm_dp (dp_kn k_law_cells (hr.mono (by first | decide | omega)) (by rfl) (dps_cons (dp_var (pv 0)) (dps_cons dp_int dps_nil)))) (dms_cons (dm_dp dp_int) dms_nil))))
    (dss_cons (ds_set (i := 2) sc_law.nd rfl (by first | exact .inl rfl | exact .inr rfl) (dk_dm (dm_dk (dk_knI k_law_shop (hr.mono (by first | decide | omega)) (by rfl) (pv 1) (dms_cons (dm_dp dp_int) (dms_cons (dm_dp dp_int) dms_nil))))))
    (dss_cons (ds_set (i := 3) sc_law.nd rfl (by first | exact .inl rfl | exact .inr rfl) (dk_dm (dm_if (dmt_cmp (o_eq ⟨ok.un, ok.calm⟩) (dm_dk (dk_knI k_law_take (hr.mono (by first | decide | omega)) (by rfl) (pv 1) (dms_cons (dm_dp dp_int) dms_nil))) (dm_dp dp_int) (nomark _)) (dm_dp (dp_kn k_law_lists (hr.mono (by first | decide | omega)) (by rfl) (dps_cons (dp_var (pv 2)) dps_nil))) (dm_dp (dp_var (pv 2))))))
    (dss_cons (ds_asg (dm_dp (dp_tup (dps_cons (dp_kn k_most_served (hr.mono (by first | decide | omega)) (by rfl) (dps_cons (dp_var (pv 3)) dps_nil)) (dps_cons (dp_callB c_len (by rfl) m_len (by decide +kernel) (dps_cons (dp_ix o_ix (dp_var (pv 2)) dp_int (fun _ _ => rfl)) dps_nil)) dps_nil)))) (dg_tup ok.calm (dgs_cons (dg_name (pg_name (i := 11) sc_law.nd rfl (by first | exact .inl rfl | exact .inr rfl))) (dgs_cons (dg_name (pg_name (i := 12) sc_law.nd rfl (by first | exact .inl rfl | exact .inr rfl))) dgs_nil))))
    (dss_cons (ds_par (i := 13) (j := 14) ⟨ok.un, ok.calm⟩ sc_law.nd rfl rfl (by decide) rfl rfl (dk_dm (dm_dp (dp_kn k_service (hr.mono (by first | decide | omega)) (by rfl) (dps_cons (dp_var (pv 3)) dps_nil)))) (dk_dm (dm_dp (dp_kn k_shortages (hr.mono (by first | decide | omega)) (by rfl) (dps_cons (dp_var (pv 3)) dps_nil)))) (by with_unfolding_all rfl))
    (dss_cons (ds_if (dmt_dt (dt_not (dt_val (m := true) (dp_kn k_law_same (hr.mono (by first | decide | omega)) (by rfl) (dps_cons (dp_lst (dps_cons (dp_kn k_shows_service (hr.mono (by first | decide | omega)) (by rfl) (dps_cons (dp_varB (pv 2)) (dps_cons (dp_varB (pv 13)) dps_nil))) (dps_cons (dp_callB c_len (by rfl) m_len (by decide +kernel) (dps_cons (dp_lc (own := [("own", 28)]) ⟨ok.un, ok.calm⟩ sc_law.nd (di_seq (dp_var (pv 13))) (blkOk_by (N := ["script", "tin", "shop", "given", "both", "counts", "ranges", "together", "got", "pair", "inside", "many", "machines", "found", "told", "one", "other", "near", "far", "low", "lower", "first", "second", "start", "end", "lack", "more", "size", "own"]) (sc := defScope s_law) (by decide +kernel)) (fun _ _ _ _ _ => (dg_name (pg_name (i := 28) sc_law.nd rfl (by first | exact .inl rfl | exact .inr rfl)))) (fun _ _ _ _ _ => (dts_one (dt_cmp (m := true) o_isnN (dp_varB (pv 28)) dp_non (nomark _)))) (fun _ _ _ _ _ => dp_int) (by decide)) dps_nil)) (dps_cons (dp_kn k_shows_shortages (hr.mono (by first | decide | omega)) (by rfl) (dps_cons (dp_varB (pv 2)) (dps_cons (dp_bin o_sub (dp_varB (pv 12)) (dp_varB (pv 11))) (dps_cons (dp_varB (pv 14)) dps_nil)))) dps_nil)))) (dps_cons (dp_lst (dps_cons dp_bl (dps_cons (dp_varB (pv 11)) (dps_cons dp_bl dps_nil)))) dps_nil)))))) (dss_one (ds_ret (dk_dm (dm_dp dp_bl)))) dss_nil)
    (dss_cons (ds_if (dmt_dt (DW.dt (dw_or (dt_cmp (m := true) o_isnN (dp_kn k_shows_shortages (hr.mono (by first | decide | omega)) (by rfl) (dps_cons (dp_varB (pv 2)) (dps_cons (dp_bin o_add (dp_bin o_sub (dp_varB (pv 12)) (dp_varB (pv 11))) dp_int) (dps_cons (dp_varB (pv 14)) dps_nil)))) dp_bl (nomark _)) (dw_or1 (dt_cmp (m := true) (o_ne ⟨ok.un, ok.calm⟩) (dp_cmp (m := true) (o_eq ⟨ok.un, ok.calm⟩) (dp_ix o_ix (dp_kn k_verdict (hr.mono (by first | decide | omega)) (by rfl) (dps_cons (dp_varB (pv 2)) dps_nil)) dp_int (fun _ _ => rfl)) dp_str (nomark _)) (dp_cmp (m := true) (o_eq ⟨ok.un, ok.calm⟩) (dp_varB (pv 11)) (dp_varB (pv 12)) (nomark _)) (nomark _)))))) (dss_one (ds_ret (dk_dm (dm_dp dp_bl)))) dss_nil)
    (dss_cons (ds_asg (dm_dk (dk_knI k_law_pick (hr.mono (by first | decide | omega)) (by rfl) (pv 1) (dms_cons (dm_dp (dp_lc (own := [("size", 27)]) ⟨ok.un, ok.calm⟩ sc_law.nd (di_range2 (m := true) (by rfl) m_range dp_int dp_int) (blkOk_by (N := ["script", "tin", "shop", "given", "both", "counts", "ranges", "together", "got", "pair", "inside", "many", "machines", "found", "told", "one", "other", "near", "far", "low", "lower", "first", "second", "start", "end", "lack", "more", "size", "own"]) (sc := defScope s_law) (by decide +kernel)) (fun _ _ _ _ _ => (dg_name (pg_name (i := 27) sc_law.nd rfl (by first | exact .inl rfl | exact .inr rfl)))) (fun _ _ _ _ _ => (dts_one (dt_cmp (m := true) (o_nin ⟨ok.un, ok.calm⟩) (dp_varB (pv 27)) (dp_ix o_ix (dp_varB (pv 2)) dp_int (fun _ _ => rfl)) rfl))) (fun _ _ _ _ _ => (dp_var (pv 27))) (by decide))) (dms_cons (dm_dp dp_int) dms_nil)))) (dg_tup ok.calm (dgs_cons (dg_name (pg_name (i := 15) sc_law.nd rfl (by first | exact .inl rfl | exact .inr rfl))) (dgs_cons (dg_name (pg_name (i := 16) sc_law.nd rfl (by first | exact .inl rfl | exact .inr rfl))) dgs_nil))))
    (dss_cons (ds_par (i := 17) (j := 18) ⟨ok.un, ok.calm⟩ sc_law.nd rfl rfl (by decide) rfl rfl (dk_dm (dm_dp (dp_kn k_with_spindle (hr.mono (by first | decide | omega)) (by rfl) (dps_cons (dp_var (pv 2)) (dps_cons (dp_var (pv 15)) dps_nil))))) (dk_dm (dm_dp (dp_kn k_with_spindle (hr.mono (by first | decide | omega)) (by rfl) (dps_cons (dp_var (pv 3)) (dps_cons (dp_var (pv 16)) dps_nil))))) (by with_unfolding_all rfl))
    (dss_cons (ds_set (i := 4) sc_law.nd rfl (by first | exact .inl rfl | exact .inr rfl) (dk_dm (dm_dp (dp_kn k_with_spindle (hr.mono (by first | decide | omega)) (by rfl) (dps_cons (dp_var (pv 17)) (dps_cons (dp_var (pv 16)) dps_nil))))))
    (dss_cons (ds_set (i := 5) sc_law.nd rfl (by first | exact .inl rfl | exact .inr rfl) (dk_dm (dm_dp (dp_lst (dps_cons (dp_kn k_most_served (hr.mono (by first | decide | omega)) (by rfl) (dps_cons (dp_var (pv 17)) dps_nil)) (dps_cons (dp_kn k_most_served (hr.mono (by first | decide | omega)) (by rfl) (dps_cons (dp_var (pv 18)) dps_nil)) (dps_cons (dp_kn k_most_served (hr.mono (by first | decide | omega)) (by rfl) (dps_cons (dp_var (pv 4)) dps_nil)) dps_nil)))))))
    (dss_cons (ds_if (dmt_dt (DW.dt (dw_or (dt_cmp (m := true) (o_ne ⟨ok.un, ok.calm⟩) (dp_lc (own := [("own", 28)]) ⟨ok.un, ok.calm⟩ sc_law.nd (di_seq (dp_slice (dp_var (pv 5)) do_none (do_some (m := true) dp_int))) (blkOk_by (N := ["script", "tin", "shop", "given", "both", "counts", "ranges", "together", "got", "pair", "inside", "many", "machines", "found", "told", "one", "other", "near", "far", "low", "lower", "first", "second", "start", "end", "lack", "more", "size", "own"]) (sc := defScope s_law) (by decide +kernel)) (fun _ _ _ _ _ => (dg_name (pg_name (i := 28) sc_law.nd rfl (by first | exact .inl rfl | exact .inr rfl)))) (fun _ _ _ _ _ => (dts_one (dt_cmp (m := true) (o_nin ⟨ok.un, ok.calm⟩) (dp_varB (pv 28)) (dp_tup (dps_cons (dp_varB (pv 11)) (dps_cons (dp_bin o_add (dp_varB (pv 11)) dp_int) dps_nil))) rfl))) (fun _ _ _ _ _ => dp_int) (by decide)) (dp_lst dps_nil) (nomark _)) (dw_or1 (dt_not (dt_chain (m := true) (o_le ⟨ok.un, ok.calm⟩) (o_le ⟨ok.un, ok.calm⟩) (dp_callB (c_max ⟨ok.un, ok.calm⟩) (by rfl) m_max (by decide +kernel) (dps_cons (dp_slice (dp_varB (pv 5)) do_none (do_some (m := true) dp_int)) dps_nil)) (dp_ix o_ix (dp_varB (pv 5)) dp_int (fun _ _ => rfl)) (dp_bin o_sub (dp_bin o_add (dp_ix o_ix (dp_varB (pv 5)) dp_int (fun _ _ => rfl)) (dp_ix o_ix (dp_varB (pv 5)) dp_int (fun _ _ => rfl))) (dp_varB (pv 11))))))))) (dss_one (ds_ret (dk_dm (dm_dp dp_bl)))) dss_nil)
    (dss_cons (ds_par (i := 19) (j := 20) ⟨ok.un, ok.calm⟩ sc_law.nd rfl rfl (by decide) rfl rfl (dk_dm (dm_bin o_add (dm_dp dp_int) (dm_dk (dk_knI k_law_take (hr.mono (by first | decide | omega)) (by rfl) (pv 1) (dms_cons (dm_dp dp_int) dms_nil))))) (dk_dm (dm_bin o_add (dm_dp dp_int) (dm_dk (dk_knI k_law_take (hr.mono (by first | decide | omega)) (by rfl) (pv 1) (dms_cons (dm_dp dp_int) dms_nil))))) (by with_unfolding_all rfl))
    (dss_cons (ds_set (i := 6) sc_law.nd rfl (by first | exact .inl rfl | exact .inr rfl) (dk_dm (dm_dk (dk_lst (dms_cons (dm_tup (dms_cons (dm_dp (dp_var (pv 19))) (dms_cons (dm_bin o_add (dm_dp (dp_var (pv 19))) (dm_dk (dk_knI k_law_take (hr.mono (by first | decide | omega)) (by rfl) (pv 1) (dms_cons (dm_dp dp_int) dms_nil)))) dms_nil))) (dms_cons (dm_tup (dms_cons (dm_dp (dp_var (pv 20))) (dms_cons (dm_bin o_add (dm_dp (dp_var (pv 20))) (dm_dk (dk_knI k_law_take (hr.mono (by first | decide | omega)) (by rfl) (pv 1) (dms_cons (dm_dp dp_int) dms_nil)))) dms_nil))) dms_nil))))))
    (dss_cons (ds_par (i := 21) (j := 22) ⟨ok.un, ok.calm⟩ sc_law.nd rfl rfl (by decide) rfl rfl (dk_dm (dm_dp (dp_kn k_with_machine (hr.mono (by first | decide | omega)) (by rfl) (dps_cons (dp_var (pv 2)) (dps_cons (dp_ix o_ix (dp_ix o_ix (dp_var (pv 6)) dp_int (fun _ _ => rfl)) dp_int (fun _ _ => rfl)) (dps_cons (dp_ix o_ix (dp_ix o_ix (dp_var (pv 6)) dp_int (fun _ _ => rfl)) dp_int (fun _ _ => rfl)) dps_nil)))))) (dk_dm (dm_dp (dp_kn k_with_machine (hr.mono (by first | decide | omega)) (by rfl) (dps_cons (dp_var (pv 2)) (dps_cons (dp_ix o_ix (dp_ix o_ix (dp_var (pv 6)) dp_int (fun _ _ => rfl)) dp_int (fun _ _ => rfl)) (dps_cons (dp_ix o_ix (dp_ix o_ix (dp_var (pv 6)) dp_int (fun _ _ => rfl)) dp_int (fun _ _ => rfl)) dps_nil)))))) (by with_unfolding_all rfl))
    (dss_cons (ds_set (i := 7) sc_law.nd rfl (by first | exact .inl rfl | exact .inr rfl) (dk_dm (dm_dp (dp_kn k_with_machine (hr.mono (by first | decide | omega)) (by rfl) (dps_cons (dp_var (pv 21)) (dps_cons (dp_ix o_ix (dp_ix o_ix (dp_var (pv 6)) dp_int (fun _ _ => rfl)) dp_int (fun _ _ => rfl)) (dps_cons (dp_ix o_ix (dp_ix o_ix (dp_var (pv 6)) dp_int (fun _ _ => rfl)) dp_int (fun _ _ => rfl)) dps_nil)))))))
    (dss_cons (ds_set (i := 8) sc_law.nd rfl (by first | exact .inl rfl | exact .inr rfl) (dk_dm (dm_dp (dp_lst (dps_cons (dp_kn k_most_served (hr.mono (by first | decide | omega)) (by rfl) (dps_cons (dp_var (pv 21)) dps_nil)) (dps_cons (dp_kn k_most_served (hr.mono (by first | decide | omega)) (by rfl) (dps_cons (dp_var (pv 22)) dps_nil)) (dps_cons (dp_kn k_most_served (hr.mono (by first | decide | omega)) (by rfl) (dps_cons (dp_var (pv 7)) dps_nil)) dps_nil)))))))
    (dss_cons (ds_if (dmt_dt (DW.dt (dw_or (dt_cmp (m := true) (o_ne ⟨ok.un, ok.calm⟩) (dp_lc (own := [("own", 28)]) ⟨ok.un, ok.calm⟩ sc_law.nd (di_seq (dp_slice (dp_var (pv 8)) do_none (do_some (m := true) dp_int))) (blkOk_by (N := ["script", "tin", "shop", "given", "both", "counts", "ranges", "together", "got", "pair", "inside", "many", "machines", "found", "told", "one", "other", "near", "far", "low", "lower", "first", "second", "start", "end", "lack", "more", "size", "own"]) (sc := defScope s_law) (by decide +kernel)) (fun _ _ _ _ _ => (dg_name (pg_name (i := 28) sc_law.nd rfl (by first | exact .inl rfl | exact .inr rfl)))) (fun _ _ _ _ _ => (dts_one (dt_cmp (m := true) (o_nin ⟨ok.un, ok.calm⟩) (dp_varB (pv 28)) (dp_tup (dps_cons (dp_varB (pv 11)) (dps_cons (dp_bin o_add (dp_varB (pv 11)) dp_int) dps_nil))) rfl))) (fun _ _ _ _ _ => dp_int) (by decide)) (dp_lst dps_nil) (nomark _)) (dw_or1 (dt_not (dt_chain (m := true) (o_le ⟨ok.un, ok.calm⟩) (o_le ⟨ok.un, ok.calm⟩) (dp_callB (c_max ⟨ok.un, ok.calm⟩) (by rfl) m_max (by decide +kernel) (dps_cons (dp_slice (dp_varB (pv 8)) do_none (do_some (m := true) dp_int)) dps_nil)) (dp_ix o_ix (dp_varB (pv 8)) dp_int (fun _ _ => rfl)) (dp_bin o_sub (dp_bin o_add (dp_ix o_ix (dp_varB (pv 8)) dp_int (fun _ _ => rfl)) (dp_ix o_ix (dp_varB (pv 8)) dp_int (fun _ _ => rfl))) (dp_varB (pv 11))))))))) (dss_one (ds_ret (dk_dm (dm_dp dp_bl)))) dss_nil)
    (dss_cons (ds_set (i := 9) sc_law.nd rfl (by first | exact .inl rfl | exact .inr rfl) (dk_dm (dm_dp (dp_kn k_with_machine (hr.mono (by first | decide | omega)) (by rfl) (dps_cons (dp_var (pv 17)) (dps_cons (dp_var (pv 15)) (dps_cons (dp_var (pv 15)) dps_nil)))))))
    (dss_cons (ds_if (dmt_dt (dt_cmp (m := true) (o_ne ⟨ok.un, ok.calm⟩) (dp_kn k_most_served (hr.mono (by first | decide | omega)) (by rfl) (dps_cons (dp_varB (pv 9)) dps_nil)) (dp_bin o_add (dp_varB (pv 11)) dp_int) (nomark _))) (dss_one (ds_ret (dk_dm (dm_dp dp_bl)))) dss_nil)
    (dss_cons (ds_set (i := 10) sc_law.nd rfl (by first | exact .inl rfl | exact .inr rfl) (dk_dm (dm_dp (dp_cmp (m := false) (o_ne ⟨ok.un, ok.calm⟩) (dp_lc (own := [("start", 23), ("end", 24)]) ⟨ok.un, ok.calm⟩ sc_law.nd (di_seq (dp_var (pv 14))) (blkOk_by (N := ["script", "tin", "shop", "given", "both", "counts", "ranges", "together", "got", "pair", "inside", "many", "machines", "found", "told", "one", "other", "near", "far", "low", "lower", "first", "second", "start", "end", "lack", "more", "size", "own"]) (sc := defScope s_law) (by decide +kernel)) (fun _ _ _ _ _ => (dg_tup ok.calm (dgs_cons (dg_name (pg_name (i := 23) sc_law.nd rfl (by first | exact .inl rfl | exact .inr rfl))) (dgs_cons (dg_name (pg_name (i := 24) sc_law.nd rfl (by first | exact .inl rfl | exact .inr rfl))) dgs_nil)))) (fun _ _ _ _ _ => (dts_one (dt_chain (m := true) (o_le ⟨ok.un, ok.calm⟩) (o_le ⟨ok.un, ok.calm⟩) (dp_varB (pv 23)) (dp_varB (pv 15)) (dp_varB (pv 24))))) (fun _ _ _ _ _ => dp_int) (by decide)) (dp_lst dps_nil) (nomark _)))))
    (dss_cons (ds_if (dmt_dt (DW.dt (dw_and (dt_not (dt_val (m := true) (dp_varB (pv 10)))) (dw_and1 (DW.dt (dw_or (dt_cmp (m := true) (o_ne ⟨ok.un, ok.calm⟩) (dp_ix o_ix (dp_varB (pv 5)) dp_int (fun _ _ => rfl)) (dp_varB (pv 11)) (nomark _)) (dw_or1 (dt_not (dt_val (m := true) (dp_kn k_shows_shortages (hr.mono (by first | decide | omega)) (by rfl) (dps_cons (dp_varB (pv 17)) (dps_cons (dp_bin o_sub (dp_varB (pv 12)) (dp_varB (pv 11))) (dps_cons (dp_varB (pv 14)) dps_nil))))))))))))) (dss_one (ds_ret (dk_dm (dm_dp dp_bl)))) dss_nil)
    (dss_cons (ds_for ok PassesOwn.never (dim_di (di_seq (dp_var (pv 14)))) (dg_tup ok.calm (dgs_cons (dg_name (pg_name (i := 23) sc_law.nd rfl (by first | exact .inl rfl | exact .inr rfl))) (dgs_cons (dg_name (pg_name (i := 24) sc_law.nd rfl (by first | exact .inl rfl | exact .inr rfl))) dgs_nil))) (dss_cons (ds_set (i := 25) sc_law.nd rfl (by first | exact .inl rfl | exact .inr rfl) (dk_dm (dm_dp (dp_bin o_sub (dp_callB c_len (by rfl) m_len (by decide +kernel) (dps_cons (dp_lc (own := [("own", 28)]) ⟨ok.un, ok.calm⟩ sc_law.nd (di_seq (dp_ix o_ix (dp_var (pv 2)) dp_int (fun _ _ => rfl))) (blkOk_by (N := ["script", "tin", "shop", "given", "both", "counts", "ranges", "together", "got", "pair", "inside", "many", "machines", "found", "told", "one", "other", "near", "far", "low", "lower", "first", "second", "start", "end", "lack", "more", "size", "own"]) (sc := defScope s_law) (by decide +kernel)) (fun _ _ _ _ _ => (dg_name (pg_name (i := 28) sc_law.nd rfl (by first | exact .inl rfl | exact .inr rfl)))) (fun _ _ _ _ _ => (dts_one (DW.dt (dw_and (dt_cmp (m := true) (o_le ⟨ok.un, ok.calm⟩) (dp_varB (pv 23)) (dp_ix o_ix (dp_varB (pv 28)) dp_int (fun _ _ => rfl)) (nomark _)) (dw_and1 (dt_cmp (m := true) (o_le ⟨ok.un, ok.calm⟩) (dp_ix o_ix (dp_varB (pv 28)) dp_int (fun _ _ => rfl)) (dp_varB (pv 24)) (nomark _))))))) (fun _ _ _ _ _ => dp_int) (by decide)) dps_nil)) (dp_callB c_len (by rfl) m_len (by decide +kernel) (dps_cons (dp_lc (own := [("size", 27)]) ⟨ok.un, ok.calm⟩ sc_law.nd (di_seq (dp_ix o_ix (dp_var (pv 2)) dp_int (fun _ _ => rfl))) (blkOk_by (N := ["script", "tin", "shop", "given", "both", "counts", "ranges", "together", "got", "pair", "inside", "many", "machines", "found", "told", "one", "other", "near", "far", "low", "lower", "first", "second", "start", "end", "lack", "more", "size", "own"]) (sc := defScope s_law) (by decide +kernel)) (fun _ _ _ _ _ => (dg_name (pg_name (i := 27) sc_law.nd rfl (by first | exact .inl rfl | exact .inr rfl)))) (fun _ _ _ _ _ => (dts_one (dt_chain (m := true) (o_le ⟨ok.un, ok.calm⟩) (o_le ⟨ok.un, ok.calm⟩) (dp_varB (pv 23)) (dp_varB (pv 27)) (dp_varB (pv 24))))) (fun _ _ _ _ _ => dp_int) (by decide)) dps_nil))))))
    (dss_cons (ds_if (dmt_dt (dt_cmp (m := true) (o_ne ⟨ok.un, ok.calm⟩) (dp_kn k_shows_overfull (hr.mono (by first | decide | omega)) (by rfl) (dps_cons (dp_varB (pv 2)) (dps_cons (dp_tup (dps_cons (dp_varB (pv 23)) (dps_cons (dp_varB (pv 24)) dps_nil))) dps_nil))) (dp_cmp (m := true) (o_gt ⟨ok.un, ok.calm⟩) (dp_varB (pv 25)) dp_int (nomark _)) (nomark _))) (dss_one (ds_ret (dk_dm (dm_dp dp_bl)))) dss_nil)
    (dss_one (ds_if (dmt_dt (DW.dt (dw_and (dt_cmp (m := true) (o_ge ⟨ok.un, ok.calm⟩) (dp_varB (pv 23)) dp_int (nomark _)) (dw_and1 (dt_cmp (m := true) (o_lt ⟨ok.un, ok.calm⟩) (dp_varB (pv 24)) dp_int (nomark _)))))) (dss_cons (ds_set (i := 26) sc_law.nd rfl (by first | exact .inl rfl | exact .inr rfl) (dk_dm (dm_dp (dp_kn k_with_machine (hr.mono (by first | decide | omega)) (by rfl) (dps_cons (dp_var (pv 2)) (dps_cons (dp_var (pv 23)) (dps_cons (dp_var (pv 24)) dps_nil)))))))
    (dss_one (ds_if (dmt_dt (DW.dt (dw_or (dt_cmp (m := true) (o_ne ⟨ok.un, ok.calm⟩) (dp_kn k_most_served (hr.mono (by first | decide | omega)) (by rfl) (dps_cons (dp_varB (pv 26)) dps_nil)) (dp_varB (pv 11)) (nomark _)) (dw_or1 (dt_not (dt_val (m := true) (dp_kn k_shows_shortages (hr.mono (by first | decide | omega)) (by rfl) (dps_cons (dp_varB (pv 26)) (dps_cons (dp_bin o_add (dp_bin o_sub (dp_varB (pv 12)) (dp_varB (pv 11))) dp_int) (dps_cons (dp_varB (pv 14)) dps_nil)))))))))) (dss_one (ds_ret (dk_dm (dm_dp dp_bl)))) dss_nil))) dss_nil)))))
    (dss_one (ds_ret (dk_dm (dm_dp dp_bl)))))))))))))))))))))))))))
end
end K88

-- K88_A
namespace K88
open DL
open L2 (atI ixN)
open PySem (seqIndex?)
def eI (t : Bool) (l : List Int) : D := .sq t (l.map .int)
def eP (t : Bool) (r : Int × Int) : D := .sq t [.int r.1, .int r.2]
def eR (t u : Bool) (R : List (Int × Int)) : D := .sq t (R.map (eP u))
def eS (t : Bool) (S : List Int) (R : List (Int × Int)) : D := .sq t [eI t S, eR t t R]
def eO : Option Int → D
  | none => .non
  | some i => .int i
@[simp] theorem isNon_eO (o : Option Int) : D.isNon (eO o) = o.isNone := by cases o <;> rfl
def tk (r : Int × Int) (s : Int) : Bool := decide (r.1 ≤ s) && decide (s ≤ r.2)
theorem L_takes (t : Bool) (r : Int × Int) (s : Int) : g_takes [eP t r, .int s] = some (.val (.bl (tk r s))) := by
  simp [g_takes, b_takes, eP, tk]
  by_cases h : r.1 ≤ s <;> simp [h]
/-- the machines that hold nothing: (high, machine) -/
def free (R : List (Int × Int)) (f : List (Option Int)) : List (Int × Nat) := (R.zipIdx.filter fun p => f[p.2]? == some none).map fun p => (p.1.2, p.2)
def tkAt (R : List (Int × Int)) (m : Nat) (s : Int) : Bool := match R[m]? with
  | some r => tk r s
  | none => false
/-- those that take the size -/
def cand (R : List (Int × Int)) (f : List (Option Int)) (s : Int) : List (Int × Nat) := (free R f).filter fun q => tkAt R q.2 s
def plt (a b : Int × Nat) : Bool := if a.1 = b.1 then decide (a.2 < b.2) else decide (a.1 < b.1)
def leastP (w : Int × Nat) (W : List (Int × Nat)) : Int × Nat := W.foldl (fun a y => if plt y a = true then y else a) w
def gstep (R : List (Int × Int)) (f : List (Option Int)) (s : Int) : List (Option Int) := match cand R f s with
  | [] => f
  | w :: W => f.set (leastP w W).2 (some s)
def gr (S : List Int) (R : List (Int × Int)) : List (Option Int) := S.foldl (gstep R) (R.map fun _ => none)
def eQ (q : Int × Nat) : D := .sq true [.int q.1, .int (q.2 : Int)]
@[simp] theorem sqO_eR (t u : Bool) (R : List (Int × Int)) : sqO (some (eR t u R)) = some (R.map (eP u)) := rfl
theorem lt_eQ (a b : Int × Nat) : D.lt (eQ a) (eQ b) = plt a b := by
  unfold eQ plt
  rw [lt_qq, lts_cc, lts_cc, lts_nn, beq_ii, beq_ii, lt_ii, lt_ii]
  by_cases h : a.1 = b.1
  · rw [if_pos (by simp [h]), if_pos h]
    by_cases h2 : a.2 = b.2
    · rw [if_pos (by simp [h2])]
      simp [h2]
    · rw [if_neg (by simp; omega)]
      simp
  · rw [if_neg (by simp [h]), if_neg h]
theorem least_eQ : ∀ (W : List (Int × Nat)) (w : Int × Nat), least (eQ w) (W.map eQ) = eQ (leastP w W)
  | [], w => rfl
  | y :: W, w => by
    have ih := least_eQ W (if plt y w = true then y else w)
    unfold least leastP at ih ⊢
    rw [List.map_cons, List.foldl_cons, List.foldl_cons, ← ih, lt_eQ]
    congr 1
    by_cases h : plt y w = true <;> simp [h]
theorem okAll_eQ (W : List (Int × Nat)) : okAll (W.map eQ) = true := by
  simp [okAll, eQ]
theorem ix_eQ (q : Int × Nat) : ixD (eQ q) (.int 1) = some (.int (q.2 : Int)) := by simp [eQ]
theorem minD_eQ (w : Int × Nat) (W : List (Int × Nat)) : minD [.sq false (eQ w :: W.map eQ)] = some (eQ (leastP w W)) := by
  have h := okAll_eQ (w :: W)
  rw [List.map_cons] at h
  show (if okAll (eQ w :: W.map eQ) = true then some (least (eQ w) (W.map eQ)) else none) = _
  rw [if_pos h, least_eQ]
theorem leastP_mem : ∀ (W : List (Int × Nat)) (w : Int × Nat), leastP w W ∈ w :: W
  | [], w => List.mem_cons_self
  | y :: W, w => by
    have q := leastP_mem W (if plt y w = true then y else w)
    unfold leastP at q ⊢
    rw [List.foldl_cons]
    rcases List.mem_cons.mp q with e | e
    · rw [e]
      by_cases h : plt y w = true <;> simp [h]
    · exact List.mem_cons_of_mem _ (List.mem_cons_of_mem _ e)
def gI (t t' u : Bool) (S : List Int) (R : List (Int × Int)) (f : List (Option Int)) (ρ : Rho) : Prop :=
  f.length = R.length ∧ (ρ = [.va (eI t S), .va (eR t' u R), .ow (f.map eO), .un, .un, .un, .un, .un] ∨ ∃ d e, ρ = [.va (eI t S), .va (eR t' u R), .ow (f.map eO), .va d, .va e, .un, .un, .un])
theorem gstep_len (R : List (Int × Int)) (f : List (Option Int)) (s : Int) : (gstep R f s).length = f.length := by
  unfold gstep
  split
  · rfl
  · rw [List.length_set]
theorem L_greedy (t t' u : Bool) (S : List Int) (R : List (Int × Int)) : g_greedy [eI t S, eR t' u R] = some (.frs ((gr S R).map eO)) := by
  simp [g_greedy, b_greedy, eI, eR]
  rw [cmpGo_mapT (f := eP u) (h := fun _ => D.non) R (fun x _ => ⟨_, by simp; rfl, rfl, rfl⟩)]
  simp
  generalize hF : forGo _ _ _ _ = F
  obtain ⟨ρ', rfl, hl, hI⟩ := forGo_get hF (gI t t' u S R) (gstep R) (R.map fun _ => none) ⟨by simp, .inl (by simp [eI, eR, eO, Function.comp_def])⟩ (by
    intro s hs f ρ ⟨hl, hI⟩
    have hlen : ∀ p ∈ R.zipIdx, p.2 < f.length := fun p hp => by
      have := List.mem_zipIdx hp
      omega
    have c1 : ∀ d3 d4, cmpGo (sqG (consG (setR 6) (consG (setR 5) nilG))) (fun ρ => boolD (bin isN (bin ixD (getB 2) (getB 6)) (cst D.non) ρ)) (dsp true (consA (bin ixD (getV 5) (cst (D.int 1))) (consA (getV 6) nilA)))
        [.va (eI t S), .va (eR t' u R), .ow (f.map eO), d3, d4, .un, .un, .un] (R.zipIdx.map fun p => .sq true [.int (p.2 : Nat), eP u p.1]) = some ((free R f).map eQ) := fun d3 d4 => by
      rw [cmpGo_map (f := fun p => D.sq true [.int (p.2 : Nat), eP u p.1]) (p := fun p => f[p.2]? == some none) (h := fun p => D.sq true [.int p.1.2, .int (p.2 : Nat)]) R.zipIdx fun p hp => ⟨[.va (eI t S), .va (eR t' u R), .ow (f.map eO), d3, d4, .va (eP u p.1), .va (.int (p.2 : Nat)), .un], by simp, ?_, fun _ => by simp [eP]⟩]
      · simp [free, eQ, Function.comp_def]
      · have hp' := hlen p hp
        simp [atI_at, List.getElem?_eq_getElem hp']
    have hq : ∀ q ∈ free R f, q.2 < R.length := fun q hq => by
      obtain ⟨p, hp, rfl⟩ := List.mem_map.mp hq
      have := List.mem_zipIdx (List.mem_filter.mp hp).1
      omega
    have c2 : ∀ d4, cmpGo (sqG (consG (setR 7) (consG (setR 6) nilG))) (fun ρ => truO (mny (resO g_takes) (consA (bin ixD (getB 1) (getB 6)) (consA (getB 3) nilA)) ρ)) (dsp true (consA (getV 7) (consA (getV 6) nilA)))
        [.va (eI t S), .va (eR t' u R), .ow (f.map eO), .va (.int s), d4, .un, .un, .un] ((free R f).map eQ) = some ((cand R f s).map eQ) := fun d4 => by
      rw [cmpGo_map (f := eQ) (p := fun q => tkAt R q.2 s) (h := eQ) (free R f) fun q hq' => ⟨[.va (eI t S), .va (eR t' u R), .ow (f.map eO), .va (.int s), d4, .un, .va (.int (q.2 : Nat)), .va (.int q.1)], by simp [eQ], ?_, fun _ => by simp [eQ]⟩]
      · rfl
      · have hp' := hq q hq'
        simp [eR, atI_at, List.getElem?_eq_getElem hp', L_takes, tkAt]
    have fin : ∀ ρ1, (ρ1 = [.va (eI t S), .va (eR t' u R), .ow (f.map eO), .va (.int s), .un, .un, .un, .un] ∨ ∃ e, ρ1 = [.va (eI t S), .va (eR t' u R), .ow (f.map eO), .va (.int s), .va e, .un, .un, .un]) → ∃ ρ2, (seq
        (setS 4 (valK (pur fun ρ => lstO (cmp (mapO enuD (getV 1)) [5, 6] (sqG (consG (setR 6) (consG (setR 5) nilG))) (fun ρ => boolD (bin isN (bin ixD (getB 2) (getB 6)) (cst D.non) ρ)) (dsp true (consA (bin ixD (getV 5) (cst (D.int 1))) (consA (getV 6) nilA))) ρ))))
        (seq (setS 4 (valK (pur fun ρ => lstO (cmp (fun ρ => sqO (getV 4 ρ)) [6, 7] (sqG (consG (setR 7) (consG (setR 6) nilG))) (fun ρ => truO (mny (resO g_takes) (consA (bin ixD (getB 1) (getB 6)) (consA (getB 3) nilA)) ρ)) (dsp true (consA (getV 7) (consA (getV 6) nilA))) ρ))))
          (ifS (pur fun ρ => boolD (bin gtD (mny lenD (consA (getB 4) nilA)) (cst (D.int 0)) ρ)) (itemS 2 (pur (getV 3)) (pur (bin ixD (mny minD (consA (getV 4) nilA)) (cst (D.int 1))))) skip))) ρ1 = some (.nx, ρ2) ∧ gI t t' u S R (gstep R f s) ρ2 := fun ρ1 h => by
      have hc0 : ∀ q ∈ cand R f s, q.2 < f.length := fun q h => by
        rw [hl]
        exact hq q (List.mem_filter.mp h).1
      rcases h with rfl | ⟨e, rfl⟩ <;> simp only [enuD_map, seq_ev, setS_ev, valK_ev, pur_ev, cmp_ev, mapO_ev] <;> simp [enuD_map, c1, c2] <;> cases hc : cand R f s with
      | nil => simp [gI, gstep, hc, hl]
      | cons w W =>
        have hm : (leastP w W).2 < f.length := hc0 _ (by rw [hc]; exact leastP_mem W w)
        have hm' : (leastP w W).2 < R.length := by rw [← hl]; exact hm
        simp [minD_eQ, hm', ixN_nat, hm, ix_eQ, gI, gstep, hc, hl, List.map_set, eO]
    rcases hI with rfl | ⟨d, e, rfl⟩
    · obtain ⟨ρ2, h1, h2⟩ := fin _ (.inl rfl)
      exact ⟨_, ρ2, by simp, h1, h2⟩
    · obtain ⟨ρ2, h1, h2⟩ := fin _ (.inr ⟨e, rfl⟩)
      exact ⟨_, ρ2, by simp, h1, h2⟩)
  rcases hI with rfl | ⟨d, e, rfl⟩ <;> simp [gr]
end K88

-- K88_B
namespace K88
open DL
open L2 (atI ixN)
open PySem (seqIndex?)
theorem ix0_eS (t : Bool) (S : List Int) (R : List (Int × Int)) : ixD (eS t S R) (.int 0) = some (eI t S) := by simp [eS]
theorem ix1_eS (t : Bool) (S : List Int) (R : List (Int × Int)) : ixD (eS t S R) (.int 1) = some (eR t t R) := by simp [eS]
theorem ix0_eP (t : Bool) (r : Int × Int) : ixD (eP t r) (.int 0) = some (.int r.1) := by simp [eP]
theorem ix1_eP (t : Bool) (r : Int × Int) : ixD (eP t r) (.int 1) = some (.int r.2) := by simp [eP]
def cnt (l : List (Option Int)) : Nat := (l.filter Option.isSome).length
theorem L_service (t : Bool) (S : List Int) (R : List (Int × Int)) : g_service [eS t S R] = some (.val (.sq true ((gr S R).map eO))) := by
  simp [g_service, b_service, ix0_eS, ix1_eS, L_greedy]
theorem L_served (t : Bool) (l : List (Option Int)) : g_served [.sq t (l.map eO)] = some (.val (.int (cnt l))) := by
  simp [g_served, b_served]
  rw [cmpGo_map (f := eO) (p := Option.isSome) (h := eO) l fun o _ => ⟨[.va (.sq t (l.map eO)), .va (eO o)], by simp, by cases o <;> simp, fun _ => by simp⟩]
  simp [cnt]
theorem L_most (t : Bool) (S : List Int) (R : List (Int × Int)) : g_most_served [eS t S R] = some (.val (.int (cnt (gr S R)))) := by
  simp [g_most_served, b_most_served, L_service, L_served]
theorem any_eO (l : List (Option Int)) : (l.map eO).any (fun y => D.beq y .non) = l.any Option.isNone := by
  rw [List.any_map]
  congr 1
  funext o
  cases o <;> simp [eO]
theorem L_feasible (t t' u : Bool) (S : List Int) (R : List (Int × Int)) : g_feasible [eI t S, eR t' u R] = some (.val (.bl (!(gr S R).any Option.isNone))) := by
  simp [g_feasible, b_feasible, L_greedy, any_eO]
  rw [show (fun y => D.beq y D.non) ∘ eO = Option.isNone from by funext o; cases o <;> simp [eO]]
theorem L_others (t : Bool) (S : List Int) (s : Int) : g_others_of [eI t S, .int s] = some (.val (eI false (S.filter fun o => o != s))) := by
  simp [g_others_of, b_others_of, eI]
  rw [cmpGo_map (f := D.int) (p := fun o => o != s) (h := D.int) S fun o _ => ⟨[.va (.sq t (S.map .int)), .va (.int s), .va (.int o)], by simp, by simp [bne], fun _ => by simp⟩]
  simp
theorem L_isnum (i : Int) : g_is_number [.int i] = some (.val (.bl true)) := by
  simp [g_is_number, b_is_number]
theorem L_isint (r : Int × Int) : g_is_interval [eP true r] = some (.val (.bl (decide (r.1 ≤ r.2)))) := by
  simp [g_is_interval, b_is_interval, eP]
  rw [show [D.int r.1, D.int r.2] = [r.1, r.2].map D.int from rfl, cmpGo_mapT (f := D.int) (h := fun _ => D.bl true) [r.1, r.2] fun o _ => ⟨[.va (.sq true [.int r.1, .int r.2]), .va (.int o)], by simp, rfl, by simp [L_isnum]⟩]
  simp [show allD [.sq false [.bl true, .bl true]] = some (.bl true) from rfl]
def inside (I r : Int × Int) : Bool := decide (I.1 ≤ r.1) && decide (r.2 ≤ I.2)
def mIn (R : List (Int × Int)) (I : Int × Int) : Nat := (R.filter (inside I)).length
def sIn (S : List Int) (I : Int × Int) : Nat := (S.filter (tk I)).length
def short (S : List Int) (R : List (Int × Int)) (I : Int × Int) : Int := (mIn R I : Int) - (sIn S I : Int)
theorem L_shortage (t : Bool) (S : List Int) (R : List (Int × Int)) (I : Int × Int) : g_shortage [eS t S R, eP true I] = some (.val (.int (short S R I))) := by
  simp [g_shortage, b_shortage, ix0_eS, ix1_eS]
  rw [cmpGo_map (f := eP t) (p := inside I) (h := eP t) R fun r _ => ⟨[.va (eS t S R), .va (eP true I), .un, .va (eP t r), .un], by simp, by simp [ix0_eP, ix1_eP, inside]; by_cases h : I.1 ≤ r.1 <;> simp [h], fun _ => by simp⟩]
  simp [ix0_eS, eI]
  rw [cmpGo_map (f := D.int) (p := tk I) (h := D.int) S fun s _ => ⟨[.va (eS t S R), .va (eP true I), .va (.sq false ((R.filter (inside I)).map (eP t))), .un, .va (.int s)], by simp, by simp [L_takes], fun _ => by simp⟩]
  simp [short, mIn, sIn]
theorem L_plain (t : Bool) (S : List Int) (R : List (Int × Int)) : g_plain_shop [eS t S R] = some (.val (eS true S R)) := by
  simp [g_plain_shop, b_plain_shop, ix0_eS, ix1_eS]
  rw [cmpGo_mapT (f := eP t) (h := eP true) R fun r _ => ⟨[.va (eS t S R), .va (eP t r)], by simp, rfl, by simp [eP]⟩]
  simp [eI, eS, eR]
theorem L_machine (t : Bool) (S : List Int) (R : List (Int × Int)) (a b : Int) (h : R.length < 1000) : g_with_machine [eS t S R, .int a, .int b] = some (.val (eS true S (R ++ [(a, b)]))) := by
  have h' : R.length + 1 ≤ 16777216 := by omega
  simp [g_with_machine, b_with_machine, L_plain]
  simp [eS, eR, eP, h']
theorem all_eP (F : List (Int × Int)) (h : ∀ I ∈ F, I.1 ≤ I.2) : (F.all fun I => decide (I.1 ≤ I.2)) = true := by
  rw [List.all_eq_true]
  intro I hI
  exact decide_eq_true (h I hI)
/-- told one behind the other -/
def apart (F : List (Int × Int)) : Bool := (F.zip F.tail).all fun p => decide (p.1.2 < p.2.1)
def shortSum (S : List Int) (R F : List (Int × Int)) : Int := (F.map (short S R)).sum
theorem L_shows (t : Bool) (S : List Int) (R F : List (Int × Int)) (k : Int) (h : ∀ I ∈ F, I.1 ≤ I.2) (ha : apart F = true) : g_shows_shortages [eS t S R, .int k, .sq false (F.map (eP true))] = some (.val (.bl (decide (k ≤ shortSum S R F)))) := by
  simp [g_shows_shortages, b_shows_shortages]
  rw [cmpGo_mapT (f := eP true) (h := fun I => D.bl (decide (I.1 ≤ I.2))) F fun I _ => ⟨[.va (eS t S R), .va (.int k), .va (.sq false (F.map (eP true))), .va (eP true I), .un, .un], by simp, rfl, by simp [L_isint]⟩]
  simp [all_eP F h, cutD_drop1]
  rw [← List.map_tail, zipD_map]
  rw [cmpGo_mapT (f := fun p : (Int × Int) × (Int × Int) => D.sq true [eP true p.1, eP true p.2]) (h := fun p => D.bl (decide (p.1.2 < p.2.1))) (F.zip F.tail) fun p _ => ⟨[.va (eS t S R), .va (.int k), .va (.sq false (F.map (eP true))), .un, .va (eP true p.1), .va (eP true p.2)], by simp, rfl, by simp [ix0_eP, ix1_eP]⟩]
  unfold apart at ha
  simp only [lstO_s, allD_map, ha]
  simp
  rw [cmpGo_mapT (f := eP true) (h := fun I => D.int (short S R I)) F fun I _ => ⟨[.va (eS t S R), .va (.int k), .va (.sq false (F.map (eP true))), .va (eP true I), .un, .un], by simp, rfl, by simp [L_shortage]⟩]
  simp only [shortSum]
  simp
  exact decide_eq_decide.mpr Iff.rfl
theorem L_overfull (t : Bool) (S : List Int) (R : List (Int × Int)) (I : Int × Int) (h : I.1 ≤ I.2) : g_shows_overfull [eS t S R, eP true I] = some (.val (.bl (decide (0 < short S R I)))) := by
  simp [g_shows_overfull, b_shows_overfull, L_isint, h, L_shortage]
/-- a service: each machine that holds one takes it, it is a size of the shop, no two hold one -/
structure Ok (S : List Int) (R : List (Int × Int)) (f : List (Option Int)) : Prop where
  len : f.length = R.length
  fit : ∀ (m : Nat) (s : Int), f[m]? = some (some s) → s ∈ S ∧ tkAt R m s = true
  inj : ∀ (m n : Nat) (s : Int), f[m]? = some (some s) → f[n]? = some (some s) → m = n
/-- the pairs (range, size) of a service -/
def heldP (L : List ((Int × Int) × Option Int)) : List ((Int × Int) × Int) := L.filterMap fun p => p.2.map fun s => (p.1, s)
theorem heldP_map (t : Bool) : ∀ L : List ((Int × Int) × Option Int), ((L.filter fun p => p.2.isSome).map fun p => D.sq true [eP t p.1, eO p.2]) = (heldP L).map fun q => D.sq true [eP t q.1, .int q.2]
  | [] => rfl
  | (r, none) :: L => by
    have ih := heldP_map t L
    unfold heldP at ih ⊢
    simp [ih]
  | (r, some s) :: L => by
    show D.sq true [eP t r, eO (some s)] :: ((L.filter fun p => p.2.isSome).map fun p => D.sq true [eP t p.1, eO p.2]) = D.sq true [eP t r, .int s] :: (heldP L).map fun q => D.sq true [eP t q.1, .int q.2]
    rw [heldP_map t L]
    rfl
theorem heldP_snd : ∀ (R : List (Int × Int)) (f : List (Option Int)), f.length = R.length → (heldP (R.zip f)).map (·.2) = f.filterMap id
  | [], [], _ => rfl
  | r :: R, none :: f, h => by
    have ih := heldP_snd R f (by simpa using h)
    unfold heldP at ih ⊢
    simpa using ih
  | r :: R, some s :: f, h => by
    have ih := heldP_snd R f (by simpa using h)
    unfold heldP at ih ⊢
    simpa using ih
  | [], _ :: _, h => by cases h
  | _ :: _, [], h => by cases h
theorem heldP_mem {R : List (Int × Int)} {f : List (Option Int)} {q : (Int × Int) × Int} (h : q ∈ heldP (R.zip f)) : ∃ m : Nat, R[m]? = some q.1 ∧ f[m]? = some (some q.2) := by
  unfold heldP at h
  obtain ⟨⟨r, o⟩, h1, h2⟩ := List.mem_filterMap.mp h
  cases o with
  | none => cases h2
  | some s =>
    cases h2
    obtain ⟨m, hm⟩ := List.mem_iff_getElem?.mp h1
    obtain ⟨e1, e2⟩ := List.getElem?_zip_eq_some.mp hm
    exact ⟨m, e1, e2⟩
theorem fm_mem {f : List (Option Int)} {s : Int} : s ∈ f.filterMap id ↔ ∃ m : Nat, f[m]? = some (some s) := by
  rw [List.mem_filterMap]
  constructor
  · rintro ⟨o, h1, h2⟩
    cases h2
    exact List.mem_iff_getElem?.mp h1
  · rintro ⟨m, hm⟩
    exact ⟨some s, List.mem_iff_getElem?.mpr ⟨m, hm⟩, rfl⟩
theorem fm_nodup : ∀ (f : List (Option Int)), (∀ (m n : Nat) (s : Int), f[m]? = some (some s) → f[n]? = some (some s) → m = n) → (f.filterMap id).Nodup
  | [], _ => List.nodup_nil
  | none :: f, h => by
    have ih := fm_nodup f fun m n s h1 h2 => by
      have := h (m + 1) (n + 1) s (by simpa using h1) (by simpa using h2)
      omega
    simpa using ih
  | some s :: f, h => by
    have ih := fm_nodup f fun m n s h1 h2 => by
      have := h (m + 1) (n + 1) s (by simpa using h1) (by simpa using h2)
      omega
    show (s :: f.filterMap id).Nodup
    rw [List.nodup_cons]
    refine ⟨fun hs => ?_, ih⟩
    obtain ⟨m, hm⟩ := fm_mem.mp hs
    have := h 0 (m + 1) s rfl (by simpa using hm)
    omega
theorem cntR_nodup : ∀ (l : List Int), l.Nodup → cntR l = l.length
  | [], _ => rfl
  | c :: r, h => by
    rw [List.nodup_cons] at h
    rw [cntR, if_neg h.1, cntR_nodup r h.2]
    rfl
theorem intsO_map' : ∀ ns : List Int, intsO (ns.map D.int) = some ns
  | [] => rfl
  | n :: ns => by rw [List.map_cons, intsO, intsO_map' ns]
theorem any_int (S : List Int) (s : Int) : (S.any ((fun y => D.beq y (.int s)) ∘ D.int)) = decide (s ∈ S) := by
  rw [Bool.eq_iff_iff, List.any_eq_true, decide_eq_true_iff]
  constructor
  · rintro ⟨x, h1, h2⟩
    have : x = s := by simpa using h2
    rw [← this]
    exact h1
  · exact fun h => ⟨s, h, by simp⟩
theorem L_isserv (t : Bool) (S : List Int) (R : List (Int × Int)) (f : List (Option Int)) (o : Ok S R f) (hR : R.length < 1000) : g_is_service [eS t S R, .sq true (f.map eO)] = some (.val (.bl true)) := by
  have hl := o.len
  simp [g_is_service, b_is_service, ix1_eS, eR, hl, zipD_map]
  rw [cmpGo_map (f := fun p : (Int × Int) × Option Int => D.sq true [eP t p.1, eO p.2]) (p := fun p => p.2.isSome) (h := fun p => D.sq true [eP t p.1, eO p.2]) (R.zip f) fun p _ => ⟨[.va (eS t S R), .va (.sq true (f.map eO)), .un, .va (eP t p.1), .va (eO p.2)], by simp, by cases p.2 <;> simp, fun _ => by simp⟩]
  rw [heldP_map]
  have hlen : (heldP (R.zip f)).length ≤ 1000 := by
    have h1 : (heldP (R.zip f)).length ≤ (R.zip f).length := List.length_filterMap_le _ _
    rw [List.length_zip] at h1
    omega
  have hnd : ((heldP (R.zip f)).map (·.2)).Nodup := by
    rw [heldP_snd R f hl]
    exact fm_nodup f o.inj
  generalize hL : heldP (R.zip f) = L at hlen hnd ⊢
  have hnd' : ((L.map (·.2)).reverse).Nodup := List.pairwise_reverse.mpr (hnd.imp fun h => h.symm)
  have hmem : ∀ q ∈ L, q.2 ∈ S ∧ tk q.1 q.2 = true := fun q hq => by
    rw [← hL] at hq
    obtain ⟨m, h1, h2⟩ := heldP_mem hq
    obtain ⟨h3, h4⟩ := o.fit m q.2 h2
    unfold tkAt at h4
    rw [h1] at h4
    exact ⟨h3, h4⟩
  simp
  rw [cmpGo_mapT (f := fun q : (Int × Int) × Int => D.sq true [eP t q.1, .int q.2]) (h := fun q => D.bl true) L fun q hq => ⟨[.va (eS t S R), .va (.sq true (f.map eO)), .va (.sq false (L.map fun q => D.sq true [eP t q.1, .int q.2])), .va (eP t q.1), .va (.int q.2)], by simp, rfl, by
    obtain ⟨h1, h2⟩ := hmem q hq
    simp [L_isnum, ix0_eS, eI, L_takes, h2, any_int, h1]⟩]
  simp only [lstO_s, allD_map (fun _ => true)]
  simp [show (L.all fun _ => true) = true from List.all_eq_true.mpr fun _ _ => rfl]
  rw [cmpGo_mapT (f := fun q : (Int × Int) × Int => D.sq true [eP t q.1, .int q.2]) (h := fun q => D.int q.2) L fun q hq => ⟨[.va (eS t S R), .va (.sq true (f.map eO)), .va (.sq false (L.map fun q => D.sq true [eP t q.1, .int q.2])), .va (eP t q.1), .va (.int q.2)], by simp, rfl, by simp⟩]
  rw [show (L.map fun q => D.int q.2) = (L.map (·.2)).map D.int by rw [List.map_map]; rfl]
  simp only [intsO_map', cntR_nodup _ hnd']
  simp [show L.length < 4000 by omega]
end K88

-- K88_C
namespace K88
open DL
open L2 (atI ixN)
open PySem (seqIndex?)
theorem L_showserv (t : Bool) (S : List Int) (R : List (Int × Int)) (f : List (Option Int)) (o : Ok S R f) (hR : R.length < 1000) (hc : cnt f = cnt (gr S R)) : g_shows_service [eS t S R, .sq true (f.map eO)] = some (.val (.bl true)) := by
  simp [g_shows_service, b_shows_service, L_isserv t S R f o hR, L_served, L_most, hc]
def sortI (l : List Int) : List Int := l.mergeSort fun a b => decide (a ≤ b)
theorem okAll_int (l : List Int) : okAll (l.map D.int) = true := by simp [okAll]
theorem okSort_int (l : List Int) : okSort (l.map D.int) = true := by
  unfold okSort
  rw [okAll_int]
  simp [isTup]
theorem sortD_int (t : Bool) (l : List Int) : sortD [.sq t (l.map D.int)] = some (.sq false ((sortI l).map D.int)) := by
  show (if okSort (l.map D.int) = true then some (D.sq false (sortL (l.map D.int))) else none) = _
  rw [if_pos (okSort_int l)]
  congr 2
  unfold sortL sortI
  rw [List.map_mergeSort]
  intro a _ b _
  simp [leB]
  by_cases h : a ≤ b
  · simp [h, Int.not_lt.mpr h]
  · simp [h, Int.not_le.mp h]
theorem L_spindle (t : Bool) (S : List Int) (R : List (Int × Int)) (a : Int) (h : a ∉ S) (hS : S.length < 1000) : g_with_spindle [eS t S R, .int a] = some (.val (eS true (sortI (S ++ [a])) R)) := by
  have h1 : S.length + 1 ≤ 16777216 := by omega
  have hs : sortD [.sq true (S.map D.int ++ [D.int a])] = some (.sq false ((sortI (S ++ [a])).map D.int)) := by
    have := sortD_int true (S ++ [a])
    rw [List.map_append] at this
    exact this
  simp [g_with_spindle, b_with_spindle, L_plain]
  simp [eS, eI, any_int, h, h1, hs]
/-! ### closed -/
def heldIn (p : (Int × Int) × Option Int) (low high : Int) : Bool := match p.2 with
  | some s => decide (low ≤ s) && decide (s ≤ high)
  | none => false
/-- the lows of machines that hold a size in [low, high] -/
def lows (R : List (Int × Int)) (f : List (Option Int)) (low high : Int) : List Int := ((R.zip f).filter fun p => heldIn p low high).map fun p => p.1.1
theorem filter_lt {α : Type} {p q : α → Bool} : ∀ {R : List α}, (∀ y, p y = true → q y = true) → ∀ {r : α}, r ∈ R → p r = false → q r = true → (R.filter p).length < (R.filter q).length
  | [], _, r, h, _, _ => by cases h
  | y :: R, hpq, r, h, h1, h2 => by
    have hle : ∀ R : List α, (R.filter p).length ≤ (R.filter q).length := fun R => by
      induction R with
      | nil => exact Nat.le_refl _
      | cons z R ih =>
        by_cases hz : p z = true
        · rw [List.filter_cons_of_pos hz, List.filter_cons_of_pos (hpq z hz)]
          exact Nat.succ_le_succ ih
        · rw [List.filter_cons_of_neg hz]
          by_cases hz2 : q z = true
          · rw [List.filter_cons_of_pos hz2]
            exact Nat.le_succ_of_le ih
          · rw [List.filter_cons_of_neg hz2]
            exact ih
    rcases List.mem_cons.mp h with rfl | h
    · rw [List.filter_cons_of_neg (by rw [h1]; exact Bool.false_ne_true), List.filter_cons_of_pos h2]
      exact Nat.lt_succ_of_le (hle R)
    · have ih := filter_lt hpq h h1 h2
      by_cases hz : p y = true
      · rw [List.filter_cons_of_pos hz, List.filter_cons_of_pos (hpq y hz)]
        exact Nat.succ_lt_succ ih
      · rw [List.filter_cons_of_neg hz]
        by_cases hz2 : q y = true
        · rw [List.filter_cons_of_pos hz2]
          exact Nat.lt_succ_of_lt ih
        · rw [List.filter_cons_of_neg hz2]
          exact ih
inductive Clo (R : List (Int × Int)) (f : List (Option Int)) (high : Int) : Int → Int → Prop
  | stop (low : Int) : (∀ l ∈ lows R f low high, low ≤ l) → Clo R f high low low
  | step (low l fin : Int) : l ∈ lows R f low high → l < low → Clo R f high l fin → Clo R f high low fin
theorem minK_int (l : List Int) : (l = [] ∧ minK [.sq false (l.map D.int)] [.non] = some .non) ∨ ∃ x ∈ l, minK [.sq false (l.map D.int)] [.non] = some (.int x) := by
  cases l with
  | nil => exact .inl ⟨rfl, rfl⟩
  | cons x xs =>
    right
    have h : minK [.sq false ((x :: xs).map D.int)] [.non] = some (least (.int x) (xs.map D.int)) := by
      show (if okAll ((x :: xs).map D.int) = true then some (least (.int x) (xs.map D.int)) else none) = _
      rw [if_pos (okAll_int _)]
    have hm := least_mem (xs.map D.int) (.int x)
    rw [show (D.int x :: xs.map D.int) = (x :: xs).map D.int from rfl] at hm
    obtain ⟨y, h1, h2⟩ := List.mem_map.mp hm
    exact ⟨y, h1, by rw [h, h2]⟩
def ccond : Rho → Option (Bool × Rho) := pur fun ρ => boolD (bin isnN (getB 3) (cst D.non) ρ)
def cbody : Rho → Option (Fl × Rho) := seq (setS 4 (valK (pur (getV 3))))
  (seq (setS 6 (valK (pur fun ρ => lstO (cmp (zipF (getV 0) (getV 1)) [7, 8] (sqG (consG (setR 7) (consG (setR 8) nilG))) (andB (fun ρ => boolD (bin isnN (getB 8) (cst D.non) ρ)) fun ρ => boolD (chn leD leD (getB 4) (getB 8) (getB 5) ρ)) (bin ixD (getV 7) (cst (D.int 0))) ρ))))
    (setS 3 (valK (pur (kwF minK (consA (fun ρ => lstO (cmp (fun ρ => sqO (getV 6 ρ)) [9] (setR 9) (fun ρ => boolD (bin ltD (getB 9) (getB 4) ρ)) (getV 9) ρ)) nilA) (cst D.non))))))
def cst0 (t u t2 : Bool) (R : List (Int × Int)) (f : List (Option Int)) (m : D) (x low : D) (high : Int) (s6 : Sl) : Rho := [.va (.sq t (R.map (eP u))), .va (.sq t2 (f.map eO)), .va m, .va x, .va low, .va (.int high), s6, .un, .un, .un]
theorem cbody_run (t u t2 : Bool) (R : List (Int × Int)) (f : List (Option Int)) (m low : D) (lower high : Int) (s6 : Sl) (h6 : s6 = .un ∨ ∃ d, s6 = .va d) :
    ∃ x d6, cbody (cst0 t u t2 R f m (.int lower) low high s6) = some (.nx, cst0 t u t2 R f m x (.int lower) high (.va d6)) ∧ ((x = .non ∧ ∀ l ∈ lows R f lower high, lower ≤ l) ∨ ∃ l, x = .int l ∧ l ∈ lows R f lower high ∧ l < lower) := by
  have c1 : ∀ s6, cmpGo (sqG (consG (setR 7) (consG (setR 8) nilG))) (andB (fun ρ => boolD (bin isnN (getB 8) (cst D.non) ρ)) fun ρ => boolD (chn leD leD (getB 4) (getB 8) (getB 5) ρ)) (bin ixD (getV 7) (cst (D.int 0)))
      [.va (.sq t (R.map (eP u))), .va (.sq t2 (f.map eO)), .va m, .va (.int lower), .va (.int lower), .va (.int high), s6, .un, .un, .un] ((R.zip f).map fun p => .sq true [eP u p.1, eO p.2]) = some ((lows R f lower high).map D.int) := fun s6 => by
    rw [cmpGo_map (f := fun p : (Int × Int) × Option Int => D.sq true [eP u p.1, eO p.2]) (p := fun p => heldIn p lower high) (h := fun p => D.int p.1.1) (R.zip f) fun p _ => ⟨[.va (.sq t (R.map (eP u))), .va (.sq t2 (f.map eO)), .va m, .va (.int lower), .va (.int lower), .va (.int high), s6, .va (eP u p.1), .va (eO p.2), .un], by simp, ?_, fun _ => by simp [eP]⟩]
    · simp [lows, Function.comp_def]
    · cases hp : p.2 with
      | none => simp [heldIn, hp, eO]
      | some s =>
        simp [heldIn, hp, eO]
        by_cases h : lower ≤ s <;> simp [h]
  have c2 : ∀ L : List Int, cmpGo (setR 9) (fun ρ => boolD (bin ltD (getB 9) (getB 4) ρ)) (getV 9)
      [.va (.sq t (R.map (eP u))), .va (.sq t2 (f.map eO)), .va m, .va (.int lower), .va (.int lower), .va (.int high), .va (.sq false (L.map D.int)), .un, .un, .un] (L.map D.int) = some ((L.filter fun l => decide (l < lower)).map D.int) := fun L => by
    rw [cmpGo_map (f := D.int) (p := fun l => decide (l < lower)) (h := D.int) L fun l _ => ⟨[.va (.sq t (R.map (eP u))), .va (.sq t2 (f.map eO)), .va m, .va (.int lower), .va (.int lower), .va (.int high), .va (.sq false (L.map D.int)), .un, .un, .va (.int l)], by simp, by simp, fun _ => by simp⟩]
  rcases minK_int ((lows R f lower high).filter fun l => decide (l < lower)) with ⟨h1, h2⟩ | ⟨x, h1, h2⟩
  · refine ⟨.non, .sq false ((lows R f lower high).map D.int), ?_, .inl ⟨rfl, fun l hl => ?_⟩⟩
    · rcases h6 with rfl | ⟨d, rfl⟩ <;> simp [cbody, cst0, zipD_map, c1, c2, h2]
    · have := List.filter_eq_nil_iff.mp h1 l hl
      simpa using this
  · rw [List.mem_filter] at h1
    refine ⟨.int x, .sq false ((lows R f lower high).map D.int), ?_, .inr ⟨x, rfl, h1.1, by simpa using h1.2⟩⟩
    rcases h6 with rfl | ⟨d, rfl⟩ <;> simp [cbody, cst0, zipD_map, c1, c2, h2]
theorem lows_mem {R : List (Int × Int)} {f : List (Option Int)} {low high l : Int} (h : l ∈ lows R f low high) : ∃ (m : Nat) (r : Int × Int) (s : Int), R[m]? = some r ∧ f[m]? = some (some s) ∧ low ≤ s ∧ s ≤ high ∧ r.1 = l := by
  obtain ⟨⟨r, o⟩, h1, h2⟩ := List.mem_map.mp h
  obtain ⟨h3, h4⟩ := List.mem_filter.mp h1
  obtain ⟨m, hm⟩ := List.mem_iff_getElem?.mp h3
  obtain ⟨e1, e2⟩ := List.getElem?_zip_eq_some.mp hm
  cases o with
  | none => cases h4
  | some s =>
    have h5 : low ≤ s ∧ s ≤ high := by simpa [heldIn] using h4
    exact ⟨m, r, s, e1, e2, h5.1, h5.2, h2⟩
theorem cloop (t u t2 : Bool) (R : List (Int × Int)) (f : List (Option Int)) (m : D) (high : Int) : ∀ (n : Nat) (lower : Int) (low : D) (s6 : Sl), (R.filter fun r => decide (r.1 < lower)).length + 2 ≤ n → (s6 = .un ∨ ∃ d, s6 = .va d) →
    ∃ fin d6, whGo ccond cbody n (cst0 t u t2 R f m (.int lower) low high s6) = some (.nx, cst0 t u t2 R f m .non (.int fin) high (.va d6)) ∧ Clo R f high lower fin
  | 0, _, _, _, h, _ => by omega
  | 1, _, _, _, h, _ => by omega
  | n + 2, lower, low, s6, h, h6 => by
    obtain ⟨x, d6, hb, hx⟩ := cbody_run t u t2 R f m low lower high s6 h6
    have hc : ccond (cst0 t u t2 R f m (.int lower) low high s6) = some (true, cst0 t u t2 R f m (.int lower) low high s6) := by simp [ccond, cst0]
    rcases hx with ⟨rfl, h1⟩ | ⟨l, rfl, h1, h2⟩
    · refine ⟨lower, d6, ?_, .stop lower h1⟩
      have hc2 : ccond (cst0 t u t2 R f m .non (.int lower) high (.va d6)) = some (false, cst0 t u t2 R f m .non (.int lower) high (.va d6)) := by simp [ccond, cst0]
      rw [whGo]
      simp only [hc, hb]
      rw [whGo]
      simp only [hc2]
    · have hlt : (R.filter fun r => decide (r.1 < l)).length < (R.filter fun r => decide (r.1 < lower)).length := by
        obtain ⟨k, r, s, e1, _, _, _, e2⟩ := lows_mem h1
        have hr : r ∈ R := List.mem_iff_getElem?.mpr ⟨k, e1⟩
        refine filter_lt (fun y hy => ?_) hr (by simp [e2]) (by simp [e2, h2])
        have : y.1 < l := by simpa using hy
        simp
        omega
      obtain ⟨fin, d, h3, h4⟩ := cloop t u t2 R f m high (n + 1) l (.int lower) (.va d6) (by omega) (.inr ⟨d6, rfl⟩)
      refine ⟨fin, d, ?_, .step lower l fin h1 h2 h4⟩
      rw [whGo]
      simp only [hc, hb, h3]
theorem L_closed (t u t2 : Bool) (R : List (Int × Int)) (f : List (Option Int)) (m : Nat) (r : Int × Int) (hm : R[m]? = some r) (hl : f.length = R.length) (hR : R.length < 90) : ∃ fin, g_closed [eR t u R, .sq t2 (f.map eO), .int (m : Int)] = some (.val (eP true (fin, r.2))) ∧ Clo R f r.2 r.1 fin := by
  have hb : (R.filter fun q => decide (q.1 < r.1)).length ≤ R.length := List.length_filter_le _ _
  obtain ⟨fin, d6, h1, h2⟩ := cloop t u t2 R f (.int (m : Int)) r.2 100 r.1 (.int r.1) .un (by omega) (.inl rfl)
  refine ⟨fin, ?_, h2⟩
  simp [g_closed, b_closed, eR, atI_at, hm]
  simp [eP]
  unfold cst0 at h1
  have e : ∀ ρ, fu_closed ρ = 100 := fun _ => rfl
  rw [e]
  have h1' := h1
  unfold ccond cbody at h1'
  rw [h1']
  simp
end K88

-- K88_D
namespace K88
open DL
open L2 (atI ixN)
open PySem (seqIndex?)
def pleb (a b : Int × Int) : Bool := if b.1 = a.1 then decide (a.2 ≤ b.2) else decide (a.1 ≤ b.1)
def sortP (L : List (Int × Int)) : List (Int × Int) := L.mergeSort pleb
theorem leB_eP (a b : Int × Int) : leB (eP true a) (eP true b) = pleb a b := by
  unfold leB eP pleb
  rw [lt_qq, lts_cc, lts_cc, lts_nn, beq_ii, beq_ii, lt_ii, lt_ii]
  by_cases h : b.1 = a.1
  · rw [if_pos (by simp [h]), if_pos h]
    by_cases h2 : b.2 = a.2
    · rw [if_pos (by simp [h2])]
      simp [h2]
    · rw [if_neg (by simp [h2])]
      by_cases h3 : a.2 ≤ b.2
      · simp [h3, Int.not_lt.mpr h3]
      · simp [h3, Int.not_le.mp h3]
  · rw [if_neg (by simp [h]), if_neg h]
    by_cases h3 : a.1 ≤ b.1
    · simp [h3, Int.not_lt.mpr h3]
    · simp [h3, Int.not_le.mp h3]
theorem okAll_eP (L : List (Int × Int)) : okAll (L.map (eP true)) = true := by simp [okAll, eP]
theorem okSort_eP (L : List (Int × Int)) : okSort (L.map (eP true)) = true := by
  unfold okSort
  rw [okAll_eP]
  simp [tupNE, eP]
theorem sortD_eP (t : Bool) (L : List (Int × Int)) : sortD [.sq t (L.map (eP true))] = some (.sq false ((sortP L).map (eP true))) := by
  show (if okSort (L.map (eP true)) = true then some (D.sq false (sortL (L.map (eP true)))) else none) = _
  rw [if_pos (okSort_eP L)]
  congr 2
  unfold sortL sortP
  rw [List.map_mergeSort]
  intro a _ b _
  exact (leB_eP a b).symm
/-- one more interval, joined with the last where it begins within it -/
def mstep (F : List (Int × Int)) (I : Int × Int) : List (Int × Int) := match F.getLast? with
  | some l => if I.1 ≤ l.2 then F.dropLast ++ [(l.1, if l.2 > I.2 then l.2 else I.2)] else F ++ [I]
  | none => [I]
def mrg (L : List (Int × Int)) : List (Int × Int) := L.foldl mstep []
def shI (A B C : D) (n : Nat) (F : List (Int × Int)) (ρ : Rho) : Prop := F.length ≤ n ∧ (ρ = [.va A, .ow (F.map (eP true)), .va B, .va C, .un, .un, .un, .un] ∨ ∃ d e, ρ = [.va A, .ow (F.map (eP true)), .va B, .va C, .va d, .va e, .un, .un])
theorem gr_len (S : List Int) (R : List (Int × Int)) : (gr S R).length = R.length := by
  unfold gr
  have : ∀ (S : List Int) (f : List (Option Int)), (S.foldl (gstep R) f).length = f.length := by
    intro S
    induction S with
    | nil => intro f; rfl
    | cons s S ih =>
      intro f
      rw [List.foldl_cons, ih, gstep_len]
  rw [this, List.length_map]
theorem mstep_len (F : List (Int × Int)) (I : Int × Int) : (mstep F I).length ≤ F.length + 1 := by
  unfold mstep
  split
  · split
    · rw [List.length_append, List.length_dropLast, List.length_singleton]
      omega
    · rw [List.length_append, List.length_singleton]
      omega
  · simp
def mbody : Rho → Option (Fl × Rho) := ifS (pur (andB (fun ρ => boolD (bin gtD (mny lenD (consA (getB 1) nilA)) (cst (D.int 0)) ρ)) (fun ρ => boolD (bin leD (getB 4) (bin ixD (bin ixD (getB 1) (una negD (cst (D.int 1)))) (cst (D.int 1))) ρ))))
  (itemS 1 (pur (dsp true (consA (bin ixD (ixB 1 (una negD (cst (D.int 1)))) (cst (D.int 0))) (consA (mny maxD (consA (getV 5) (consA (bin ixD (ixB 1 (una negD (cst (D.int 1)))) (cst (D.int 1))) nilA))) nilA)))) (pur (una negD (cst (D.int 1)))))
  (appS 1 (pur (dsp true (consA (getV 4) (consA (getV 5) nilA)))))
theorem mbody_run (A B C : D) (F : List (Int × Int)) (I : Int × Int) (hF : F.length < 1000) : mbody [.va A, .ow (F.map (eP true)), .va B, .va C, .va (.int I.1), .va (.int I.2), .un, .un] = some (.nx, [.va A, .ow ((mstep F I).map (eP true)), .va B, .va C, .va (.int I.1), .va (.int I.2), .un, .un]) := by
  rcases List.eq_nil_or_concat F with rfl | ⟨G, l, rfl⟩
  · simp [mbody, mstep, eP]
  · rw [List.concat_eq_append] at hF ⊢
    have h1 : atI (List.map (eP true) G ++ [eP true l]) (-1) = some (eP true l) := atI_last
    have hm : mstep (G ++ [l]) I = if I.1 ≤ l.2 then G ++ [(l.1, if l.2 > I.2 then l.2 else I.2)] else G ++ [l] ++ [I] := by
      unfold mstep
      rw [List.getLast?_concat]
      simp
    rw [hm]
    have h2 : ixN (G.length + 1) (-1) = some G.length := ixN_last _
    have h3 : G.length + 1 < 16777216 := by
      rw [List.length_append, List.length_singleton] at hF
      omega
    by_cases h : I.1 ≤ l.2
    · simp [mbody, h1, ix0_eP, ix1_eP, h, h2]
      simp [eP]
    · simp [mbody, h1, ix0_eP, ix1_eP, h, h2, h3]
      simp [eP]
theorem L_shortages (t : Bool) (S : List Int) (R : List (Int × Int)) (hR : R.length < 90) : ∃ L : List (Int × Int), g_shortages [eS t S R] = some (.frs ((mrg (sortP L)).map (eP true))) ∧
    (∀ I ∈ L, ∃ (m : Nat) (r : Int × Int), R[m]? = some r ∧ (gr S R)[m]? = some none ∧ I.2 = r.2 ∧ Clo R (gr S R) r.2 r.1 I.1) ∧
    (∀ (m : Nat) (r : Int × Int), R[m]? = some r → (gr S R)[m]? = some none → ∃ I ∈ L, I.2 = r.2 ∧ Clo R (gr S R) r.2 r.1 I.1) := by
  have hlen := gr_len S R
  generalize hf : gr S R = f at hlen ⊢
  have hex : ∀ m : Nat, ∃ I : Int × Int, ∀ r, R[m]? = some r → g_closed [eR t t R, .sq true (f.map eO), .int (m : Int)] = some (.val (eP true I)) ∧ I.2 = r.2 ∧ Clo R f r.2 r.1 I.1 := fun m => by
    cases hr : R[m]? with
    | none => exact ⟨(0, 0), fun r h => by cases h⟩
    | some r =>
      obtain ⟨fin, h1, h2⟩ := L_closed t t true R f m r hr hlen hR
      exact ⟨(fin, r.2), fun r' h => by cases h; exact ⟨h1, rfl, h2⟩⟩
  have hcl := fun m => Classical.choose_spec (hex m)
  have hcl' : ∃ cl : Nat → Int × Int, ∀ (m : Nat) (r : Int × Int), R[m]? = some r → g_closed [eR t t R, .sq true (f.map eO), .int (m : Int)] = some (.val (eP true (cl m))) ∧ (cl m).2 = r.2 ∧ Clo R f r.2 r.1 (cl m).1 := ⟨fun m => Classical.choose (hex m), hcl⟩
  obtain ⟨cl, hc⟩ := hcl'
  have hz : ∀ p ∈ f.zipIdx, ∃ r, R[p.2]? = some r ∧ f[p.2]? = some p.1 := fun p hp => by
    obtain ⟨h1, h2, h3⟩ := List.mem_zipIdx hp
    have hl : p.2 < R.length := by omega
    refine ⟨R[p.2], List.getElem?_eq_getElem hl, ?_⟩
    rw [List.getElem?_eq_getElem (by omega)]
    simp [h3]
  refine ⟨(f.zipIdx.filter fun p => p.1.isNone).map fun p => cl p.2, ?_, fun I hI => ?_, fun m r hm hn => ?_⟩
  · simp [g_shortages, b_shortages, L_service, ix1_eS, hf]
    rw [enuD_map, cmpGo_map (f := fun p : Option Int × Nat => D.sq true [.int (p.2 : Nat), eO p.1]) (p := fun p => p.1.isNone) (h := fun p => eP true (cl p.2)) f.zipIdx fun p hp => ⟨[.va (eS t S R), .ow [], .va (.sq true (f.map eO)), .va (eR t t R), .un, .un, .va (.int (p.2 : Nat)), .va (eO p.1)], by simp, by simp, fun _ => by
      obtain ⟨r, h4, _⟩ := hz p hp
      simp [(hc p.2 r h4).1]⟩]
    rw [show ((f.zipIdx.filter fun p => p.1.isNone).map fun p => eP true (cl p.2)) = (((f.zipIdx.filter fun p => p.1.isNone).map fun p => cl p.2)).map (eP true) by rw [List.map_map]; rfl]
    have hbound : ((f.zipIdx.filter fun p => p.1.isNone).map fun p => cl p.2).length ≤ R.length := by
      rw [List.length_map]
      refine Nat.le_trans (List.length_filter_le _ _) ?_
      rw [List.length_zipIdx, hlen]
      exact Nat.le_refl _
    generalize ((f.zipIdx.filter fun p => p.1.isNone).map fun p => cl p.2) = L at hbound ⊢
    have hb2 : (sortP L).length ≤ R.length := by
      unfold sortP
      rw [List.length_mergeSort]
      exact hbound
    simp only [lstO_s, sortD_eP, sqO_s]
    generalize sortP L = Q at hb2
    have loop : ∀ (Q F : List (Int × Int)) (ρ : Rho), F.length + Q.length ≤ R.length → shI (eS t S R) (.sq true (f.map eO)) (eR t t R) 1000 F ρ → ∃ ρ', forGo (sqG (consG (setR 4) (consG (setR 5) nilG))) mbody ρ (Q.map (eP true)) = some (.nx, ρ') ∧ shI (eS t S R) (.sq true (f.map eO)) (eR t t R) 1000 (Q.foldl mstep F) ρ' := by
      intro Q
      induction Q with
      | nil => exact fun F ρ _ h => ⟨ρ, rfl, h⟩
      | cons I Q ih =>
        intro F ρ hl h
        rw [List.length_cons] at hl
        have hm := mstep_len F I
        have hr := mbody_run (eS t S R) (.sq true (f.map eO)) (eR t t R) F I (by omega)
        have hg : sqG (consG (setR 4) (consG (setR 5) nilG)) (eP true I) ρ = some [.va (eS t S R), .ow (F.map (eP true)), .va (.sq true (f.map eO)), .va (eR t t R), .va (.int I.1), .va (.int I.2), .un, .un] := by
          rcases h.2 with rfl | ⟨d, e, rfl⟩ <;> simp [eP]
        obtain ⟨ρ', h1, h2⟩ := ih (mstep F I) _ (by omega) ⟨by omega, .inr ⟨_, _, rfl⟩⟩
        refine ⟨ρ', ?_, h2⟩
        rw [List.map_cons, forGo]
        simp only [hg, hr]
        exact h1
    obtain ⟨ρ', h1, h2⟩ := loop Q [] _ (by simpa using hb2) ⟨by simp, .inl rfl⟩
    unfold mbody at h1
    simp only [List.map_nil] at h1
    simp only [h1]
    rcases h2.2 with rfl | ⟨d, e, rfl⟩ <;> simp [mrg]
  · obtain ⟨p, h1, rfl⟩ := List.mem_map.mp hI
    obtain ⟨h2, h3⟩ := List.mem_filter.mp h1
    obtain ⟨r, h4, h5⟩ := hz p h2
    obtain ⟨_, h6, h7⟩ := hc p.2 r h4
    refine ⟨p.2, r, h4, ?_, h6, h7⟩
    rw [h5]
    cases hp : p.1 with
    | none => rfl
    | some s => rw [hp] at h3; cases h3
  · obtain ⟨_, h6, h7⟩ := hc m r hm
    refine ⟨cl m, List.mem_map.mpr ⟨(none, m), List.mem_filter.mpr ⟨?_, rfl⟩, rfl⟩, h6, h7⟩
    rw [List.mem_iff_getElem?]
    exact ⟨m, by rw [List.getElem?_zipIdx, hn]; simp⟩
end K88

-- K88_N
namespace K88
/-! the mathematics: greedy serves the most -/
theorem leastP_le : ∀ (W : List (Int × Nat)) (w q : Int × Nat), q ∈ w :: W → (leastP w W).1 ≤ q.1
  | [], w, q, h => by
    rcases List.mem_cons.mp h with rfl | h
    · exact Int.le_refl _
    · cases h
  | y :: W, w, q, h => by
    have key : ∀ q, q ∈ (if plt y w = true then y else w) :: W → (leastP (if plt y w = true then y else w) W).1 ≤ q.1 := fun q hq => leastP_le W _ q hq
    have e : leastP w (y :: W) = leastP (if plt y w = true then y else w) W := rfl
    rw [e]
    have h0 := key _ List.mem_cons_self
    have hw : (if plt y w = true then y else w).1 ≤ w.1 ∧ (if plt y w = true then y else w).1 ≤ y.1 := by
      by_cases hp : plt y w = true
      · rw [if_pos hp]
        unfold plt at hp
        split at hp
        · exact ⟨by omega, Int.le_refl _⟩
        · have := of_decide_eq_true hp
          exact ⟨by omega, Int.le_refl _⟩
      · rw [if_neg hp]
        unfold plt at hp
        split at hp
        · exact ⟨Int.le_refl _, by omega⟩
        · have : ¬ y.1 < w.1 := fun z => hp (decide_eq_true z)
          exact ⟨Int.le_refl _, by omega⟩
    rcases List.mem_cons.mp h with rfl | h
    · omega
    · rcases List.mem_cons.mp h with rfl | h
      · omega
      · exact key q (List.mem_cons_of_mem _ h)
theorem free_mem {R : List (Int × Int)} {f : List (Option Int)} {q : Int × Nat} : q ∈ free R f ↔ ∃ r, R[q.2]? = some r ∧ f[q.2]? = some none ∧ q.1 = r.2 := by
  unfold free
  rw [List.mem_map]
  constructor
  · rintro ⟨p, h1, rfl⟩
    obtain ⟨h2, h3⟩ := List.mem_filter.mp h1
    obtain ⟨e1, e2, e3⟩ := List.mem_zipIdx h2
    refine ⟨p.1, ?_, by simpa using h3, rfl⟩
    rw [List.getElem?_eq_getElem (by omega)]
    simp [e3]
  · rintro ⟨r, h1, h2, h3⟩
    refine ⟨(r, q.2), List.mem_filter.mpr ⟨?_, by simpa using h2⟩, by rw [← h3]⟩
    rw [List.mem_iff_getElem?]
    exact ⟨q.2, by rw [List.getElem?_zipIdx, h1]; simp⟩
theorem cand_mem {R : List (Int × Int)} {f : List (Option Int)} {s : Int} {q : Int × Nat} : q ∈ cand R f s ↔ ∃ r, R[q.2]? = some r ∧ f[q.2]? = some none ∧ q.1 = r.2 ∧ tk r s = true := by
  unfold cand
  rw [List.mem_filter, free_mem]
  constructor
  · rintro ⟨⟨r, h1, h2, h3⟩, h4⟩
    unfold tkAt at h4
    rw [h1] at h4
    exact ⟨r, h1, h2, h3, h4⟩
  · rintro ⟨r, h1, h2, h3, h4⟩
    exact ⟨⟨r, h1, h2, h3⟩, by unfold tkAt; rw [h1]; exact h4⟩
/-- a step: nobody can, or one with the least high gets it -/
theorem gstep_spec (R : List (Int × Int)) (f : List (Option Int)) (s : Int) : (gstep R f s = f ∧ ∀ (m : Nat) (r : Int × Int), R[m]? = some r → f[m]? = some none → tk r s = false) ∨
    ∃ (m : Nat) (r : Int × Int), R[m]? = some r ∧ f[m]? = some none ∧ tk r s = true ∧ gstep R f s = f.set m (some s) ∧ ∀ (k : Nat) (q : Int × Int), R[k]? = some q → f[k]? = some none → tk q s = true → r.2 ≤ q.2 := by
  unfold gstep
  cases hc : cand R f s with
  | nil =>
    refine .inl ⟨rfl, fun m r h1 h2 => ?_⟩
    cases h : tk r s with
    | false => rfl
    | true =>
      have : (r.2, m) ∈ cand R f s := cand_mem.mpr ⟨r, h1, h2, rfl, h⟩
      rw [hc] at this
      cases this
  | cons w W =>
    right
    have hm : leastP w W ∈ cand R f s := by rw [hc]; exact leastP_mem W w
    obtain ⟨r, h1, h2, h3, h4⟩ := cand_mem.mp hm
    refine ⟨(leastP w W).2, r, h1, h2, h4, rfl, fun k q k1 k2 k3 => ?_⟩
    have : (q.2, k) ∈ cand R f s := cand_mem.mpr ⟨q, k1, k2, rfl, k3⟩
    rw [hc] at this
    have := leastP_le W w _ this
    rw [← h3]
    exact this
/-- what greedy keeps: P the sizes seen so far -/
structure Gd (R : List (Int × Int)) (P : List Int) (f : List (Option Int)) : Prop where
  ok : Ok P R f
  low : ∀ (m : Nat) (r : Int × Int) (s : Int), R[m]? = some r → s ∈ P → tk r s = true → (f[m]? = some none ∨ ∃ t, f[m]? = some (some t) ∧ s < t) → ∃ (k : Nat) (q : Int × Int), R[k]? = some q ∧ f[k]? = some (some s) ∧ q.2 ≤ r.2
theorem Gd.step {R : List (Int × Int)} {P : List Int} {f : List (Option Int)} {s : Int} (g : Gd R P f) (hs : ∀ x ∈ P, x < s) : Gd R (P ++ [s]) (gstep R f s) := by
  have hsP : s ∉ P := fun h => by have := hs s h; omega
  have hle : ∀ {x}, x ∈ P ++ [s] → x ≤ s := fun {x} hx => by
    rcases List.mem_append.mp hx with h | h
    · have := hs x h; omega
    · have : x = s := by simpa using h
      omega
  rcases gstep_spec R f s with ⟨e, h1⟩ | ⟨m0, r0, a1, a2, a3, e, a4⟩
  · rw [e]
    refine ⟨⟨g.ok.len, fun m x h => ?_, g.ok.inj⟩, fun m r x hr hx ht hm => ?_⟩
    · obtain ⟨b1, b2⟩ := g.ok.fit m x h
      exact ⟨List.mem_append_left _ b1, b2⟩
    · rcases List.mem_append.mp hx with hx | hx
      · exact g.low m r x hr hx ht hm
      · have : x = s := by simpa using hx
        subst this
        rcases hm with hm | ⟨t, hm, hlt⟩
        · have := h1 m r hr hm
          rw [ht] at this
          cases this
        · have := hs t (g.ok.fit m t hm).1
          omega
  · rw [e]
    have hlt : m0 < f.length := (List.getElem?_eq_some_iff.mp a2).1
    have self : (f.set m0 (some s))[m0]? = some (some s) := List.getElem?_set_self hlt
    have oth : ∀ {k : Nat}, k ≠ m0 → (f.set m0 (some s))[k]? = f[k]? := fun hk => List.getElem?_set_ne (Ne.symm hk)
    refine ⟨⟨by rw [List.length_set]; exact g.ok.len, fun m x h => ?_, fun m k x h1 h2 => ?_⟩, fun m r x hr hx ht hm => ?_⟩
    · by_cases hk : m = m0
      · subst hk
        rw [self] at h
        cases h
        exact ⟨by simp, by unfold tkAt; rw [a1]; exact a3⟩
      · rw [oth hk] at h
        obtain ⟨b1, b2⟩ := g.ok.fit m x h
        exact ⟨List.mem_append_left _ b1, b2⟩
    · by_cases hk : m = m0
      · subst hk
        rw [self] at h1
        cases h1
        by_cases hk2 : k = m
        · exact hk2.symm
        · rw [oth hk2] at h2
          exact (hsP (g.ok.fit k s h2).1).elim
      · rw [oth hk] at h1
        by_cases hk2 : k = m0
        · subst hk2
          rw [self] at h2
          cases h2
          exact (hsP (g.ok.fit m s h1).1).elim
        · rw [oth hk2] at h2
          exact g.ok.inj m k x h1 h2
    · have old : x ∈ P → (f[m]? = some none ∨ ∃ t, f[m]? = some (some t) ∧ x < t) → ∃ (k : Nat) (q : Int × Int), R[k]? = some q ∧ (f.set m0 (some s))[k]? = some (some x) ∧ q.2 ≤ r.2 := fun hx hm => by
        obtain ⟨k, q, c1, c2, c3⟩ := g.low m r x hr hx ht hm
        refine ⟨k, q, c1, ?_, c3⟩
        rw [oth fun z => ?_]
        · exact c2
        · subst z
          rw [a2] at c2
          cases c2
      have hfm : f[m]? = some none ∨ ∃ t, f[m]? = some (some t) ∧ x < t ∨ m = m0 := by
        by_cases hk : m = m0
        · subst hk
          exact .inl a2
        · rw [oth hk] at hm
          rcases hm with hm | ⟨t, h1, h2⟩
          · exact .inl hm
          · exact .inr ⟨t, .inl ⟨h1, h2⟩⟩
      have hfm' : f[m]? = some none ∨ ∃ t, f[m]? = some (some t) ∧ x < t := by
        by_cases hk : m = m0
        · subst hk
          exact .inl a2
        · rw [oth hk] at hm
          exact hm
      rcases List.mem_append.mp hx with hx' | hx'
      · exact old hx' hfm'
      · have : x = s := by simpa using hx'
        subst this
        rcases hfm' with h | ⟨t, h1, h2⟩
        · exact ⟨m0, r0, a1, self, a4 m r hr h ht⟩
        · have := hs t (g.ok.fit m t h1).1
          omega
theorem gd_gr {R : List (Int × Int)} : ∀ (S P : List Int) (f : List (Option Int)), Gd R P f → (P ++ S).Pairwise (· < ·) → Gd R (P ++ S) (S.foldl (gstep R) f)
  | [], P, f, g, _ => by rw [List.append_nil]; exact g
  | s :: S, P, f, g, h => by
    have hs : ∀ x ∈ P, x < s := fun x hx => (List.pairwise_append.mp h).2.2 x hx s List.mem_cons_self
    have := gd_gr S (P ++ [s]) (gstep R f s) (g.step hs) (by rw [List.append_assoc]; exact h)
    rw [List.append_assoc] at this
    exact this
theorem greedy_gd {S : List Int} {R : List (Int × Int)} (h : S.Pairwise (· < ·)) : Gd R S (gr S R) := by
  have := gd_gr (R := R) S [] (R.map fun _ => none) ⟨⟨by simp, fun m s h => ?_, fun m n s h => ?_⟩, fun m r s _ hs => by cases hs⟩ h
  · exact this
  · rw [List.getElem?_map] at h
    cases z : R[m]? with
    | none => rw [z] at h; cases h
    | some r => rw [z] at h; cases h
  · rw [List.getElem?_map] at h
    cases z : R[m]? with
    | none => rw [z] at h; cases h
    | some r => rw [z] at h; cases h
theorem tk_iff {r : Int × Int} {s : Int} : tk r s = true ↔ r.1 ≤ s ∧ s ≤ r.2 := by simp [tk]
theorem in_iff {I r : Int × Int} : inside I r = true ↔ I.1 ≤ r.1 ∧ r.2 ≤ I.2 := by simp [inside]
/-- every size in I is held by a machine inside I -/
def Full (S : List Int) (R : List (Int × Int)) (f : List (Option Int)) (I : Int × Int) : Prop := ∀ s ∈ S, tk I s = true → ∃ (k : Nat) (q : Int × Int), R[k]? = some q ∧ f[k]? = some (some s) ∧ inside I q = true
theorem lows_of {R : List (Int × Int)} {f : List (Option Int)} {low high : Int} {k : Nat} {q : Int × Int} {s : Int} (h1 : R[k]? = some q) (h2 : f[k]? = some (some s)) (h3 : low ≤ s) (h4 : s ≤ high) : q.1 ∈ lows R f low high := by
  unfold lows
  refine List.mem_map.mpr ⟨(q, some s), List.mem_filter.mpr ⟨?_, by simp [heldIn, h3, h4]⟩, rfl⟩
  rw [List.mem_iff_getElem?]
  exact ⟨k, List.getElem?_zip_eq_some.mpr ⟨h1, h2⟩⟩
theorem clo_full {S : List Int} {R : List (Int × Int)} {f : List (Option Int)} (g : Gd R S f) {high low fin : Int} (c : Clo R f high low fin) :
    (∀ s ∈ S, low ≤ s → s ≤ high → ∃ (k : Nat) (q : Int × Int), R[k]? = some q ∧ f[k]? = some (some s) ∧ q.2 ≤ high) → fin ≤ low ∧ Full S R f (fin, high) := by
  induction c with
  | stop low h =>
    refine fun H => ⟨Int.le_refl _, fun s hs ht => ?_⟩
    obtain ⟨h1, h2⟩ := tk_iff.mp ht
    obtain ⟨k, q, e1, e2, e3⟩ := H s hs h1 h2
    exact ⟨k, q, e1, e2, in_iff.mpr ⟨h _ (lows_of e1 e2 h1 h2), e3⟩⟩
  | step low l fin h hl c ih =>
    intro H
    obtain ⟨p, rp, t, e1, e2, e3, e4, e5⟩ := lows_mem h
    obtain ⟨b1, b2⟩ := g.ok.fit p t e2
    have hrp : rp.2 ≤ high := by
      obtain ⟨k, q, d1, d2, d3⟩ := H t b1 e3 e4
      have : k = p := g.ok.inj k p t d2 e2
      subst this
      rw [e1] at d1
      cases d1
      exact d3
    obtain ⟨i1, i2⟩ := ih fun s hs h1 h2 => by
      by_cases hsl : low ≤ s
      · exact H s hs hsl h2
      · have ht : tk rp s = true := by
          unfold tkAt at b2
          rw [e1] at b2
          have := tk_iff.mp b2
          exact tk_iff.mpr ⟨by omega, by omega⟩
        obtain ⟨k, q, d1, d2, d3⟩ := g.low p rp s e1 hs ht (.inr ⟨t, e2, by omega⟩)
        exact ⟨k, q, d1, d2, by omega⟩
    exact ⟨by omega, i2⟩
end K88

-- K88_O
namespace K88
/-! intervals joined; counting -/
structure Mg (S : List Int) (R : List (Int × Int)) (f : List (Option Int)) (L F : List (Int × Int)) (b : Int) : Prop where
  good : ∀ J ∈ F, J.1 ≤ J.2 ∧ Full S R f J
  apart : F.Pairwise fun a b => a.2 < b.1
  cover : ∀ I ∈ L, ∃ J ∈ F, J.1 ≤ I.1 ∧ I.2 ≤ J.2
  low : ∀ J ∈ F, J.1 ≤ b
theorem full_join {S : List Int} {R : List (Int × Int)} {f : List (Option Int)} {l I : Int × Int} (h1 : Full S R f l) (h2 : Full S R f I) (a : l.1 ≤ I.1) (b : I.1 ≤ l.2) : Full S R f (l.1, if l.2 > I.2 then l.2 else I.2) := by
  intro s hs ht
  obtain ⟨t1, t2⟩ := tk_iff.mp ht
  have t2' : s ≤ if l.2 > I.2 then l.2 else I.2 := t2
  have t1' : l.1 ≤ s := t1
  have m1 : l.2 ≤ if l.2 > I.2 then l.2 else I.2 := by split <;> omega
  have m2 : I.2 ≤ if l.2 > I.2 then l.2 else I.2 := by split <;> omega
  by_cases h : s ≤ l.2
  · obtain ⟨k, q, e1, e2, e3⟩ := h1 s hs (tk_iff.mpr ⟨t1', h⟩)
    obtain ⟨e4, e5⟩ := in_iff.mp e3
    exact ⟨k, q, e1, e2, in_iff.mpr ⟨e4, Int.le_trans e5 m1⟩⟩
  · have hs2 : s ≤ I.2 := by
      split at t2'
      · omega
      · exact t2'
    obtain ⟨k, q, e1, e2, e3⟩ := h2 s hs (tk_iff.mpr ⟨by omega, hs2⟩)
    obtain ⟨e4, e5⟩ := in_iff.mp e3
    exact ⟨k, q, e1, e2, in_iff.mpr ⟨Int.le_trans a e4, Int.le_trans e5 m2⟩⟩
theorem Mg.step {S : List Int} {R : List (Int × Int)} {f : List (Option Int)} {L F : List (Int × Int)} {b : Int} {I : Int × Int} (g : Mg S R f L F b) (hb : b ≤ I.1) (hI : I.1 ≤ I.2) (hf : Full S R f I) : Mg S R f (L ++ [I]) (mstep F I) I.1 := by
  rcases List.eq_nil_or_concat F with rfl | ⟨G, l, rfl⟩
  · have e : mstep [] I = [I] := rfl
    rw [e]
    refine ⟨fun J hJ => ?_, by simp, fun X hX => ?_, fun J hJ => ?_⟩
    · have : J = I := by simpa using hJ
      subst this
      exact ⟨hI, hf⟩
    · rcases List.mem_append.mp hX with h | h
      · obtain ⟨J, hJ, _⟩ := g.cover X h
        cases hJ
      · have : X = I := by simpa using h
        subst this
        exact ⟨X, by simp, Int.le_refl _, Int.le_refl _⟩
    · have : J = I := by simpa using hJ
      subst this
      exact Int.le_refl _
  · rw [List.concat_eq_append] at g ⊢
    have hm : mstep (G ++ [l]) I = if I.1 ≤ l.2 then G ++ [(l.1, if l.2 > I.2 then l.2 else I.2)] else G ++ [l] ++ [I] := by
      unfold mstep
      rw [List.getLast?_concat]
      simp
    have hl : l ∈ G ++ [l] := by simp
    have hlb := g.low l hl
    have hG : ∀ J ∈ G, J ∈ G ++ [l] := fun J h => List.mem_append_left _ h
    have hap := List.pairwise_append.mp g.apart
    rw [hm]
    by_cases h : I.1 ≤ l.2
    · rw [if_pos h]
      have m1 : l.2 ≤ if l.2 > I.2 then l.2 else I.2 := by split <;> omega
      have m2 : I.2 ≤ if l.2 > I.2 then l.2 else I.2 := by split <;> omega
      refine ⟨fun J hJ => ?_, ?_, fun X hX => ?_, fun J hJ => ?_⟩
      · rcases List.mem_append.mp hJ with h' | h'
        · exact g.good J (hG J h')
        · have : J = (l.1, if l.2 > I.2 then l.2 else I.2) := by simpa using h'
          subst this
          obtain ⟨a1, a2⟩ := g.good l hl
          exact ⟨Int.le_trans a1 m1, full_join a2 hf (by omega) h⟩
      · refine List.pairwise_append.mpr ⟨hap.1, by simp, fun a ha c hc => ?_⟩
        have : c = (l.1, if l.2 > I.2 then l.2 else I.2) := by simpa using hc
        subst this
        exact hap.2.2 a ha l (by simp)
      · rcases List.mem_append.mp hX with h' | h'
        · obtain ⟨J, hJ, j1, j2⟩ := g.cover X h'
          rcases List.mem_append.mp hJ with h2 | h2
          · exact ⟨J, List.mem_append_left _ h2, j1, j2⟩
          · have : J = l := by simpa using h2
            subst this
            exact ⟨_, List.mem_append_right _ (List.mem_singleton.mpr rfl), j1, Int.le_trans j2 m1⟩
        · have : X = I := by simpa using h'
          subst this
          exact ⟨_, List.mem_append_right _ (List.mem_singleton.mpr rfl), by show l.1 ≤ X.1; omega, m2⟩
      · rcases List.mem_append.mp hJ with h' | h'
        · have := g.low J (hG J h')
          omega
        · have : J = (l.1, if l.2 > I.2 then l.2 else I.2) := by simpa using h'
          subst this
          show l.1 ≤ I.1
          omega
    · rw [if_neg h]
      refine ⟨fun J hJ => ?_, ?_, fun X hX => ?_, fun J hJ => ?_⟩
      · rcases List.mem_append.mp hJ with h' | h'
        · exact g.good J h'
        · have : J = I := by simpa using h'
          subst this
          exact ⟨hI, hf⟩
      · refine List.pairwise_append.mpr ⟨g.apart, by simp, fun a ha c hc => ?_⟩
        have : c = I := by simpa using hc
        subst this
        rcases List.mem_append.mp ha with h' | h'
        · have h1 := hap.2.2 a h' l (by simp)
          have h2 := (g.good l hl).1
          omega
        · have : a = l := by simpa using h'
          subst this
          omega
      · rcases List.mem_append.mp hX with h' | h'
        · obtain ⟨J, hJ, j1, j2⟩ := g.cover X h'
          exact ⟨J, List.mem_append_left _ hJ, j1, j2⟩
        · have : X = I := by simpa using h'
          subst this
          exact ⟨X, List.mem_append_right _ (List.mem_singleton.mpr rfl), Int.le_refl _, Int.le_refl _⟩
      · rcases List.mem_append.mp hJ with h' | h'
        · have := g.low J h'
          omega
        · have : J = I := by simpa using h'
          subst this
          exact Int.le_refl _
theorem mg_fold {S : List Int} {R : List (Int × Int)} {f : List (Option Int)} : ∀ (Q L F : List (Int × Int)) (b : Int), Mg S R f L F b → (∀ I ∈ Q, b ≤ I.1 ∧ I.1 ≤ I.2 ∧ Full S R f I) → Q.Pairwise (fun a b => a.1 ≤ b.1) → ∃ b', Mg S R f (L ++ Q) (Q.foldl mstep F) b'
  | [], L, F, b, g, _, _ => ⟨b, by rw [List.append_nil]; exact g⟩
  | I :: Q, L, F, b, g, h, p => by
    obtain ⟨h1, h2, h3⟩ := h I List.mem_cons_self
    rw [List.pairwise_cons] at p
    obtain ⟨b', g'⟩ := mg_fold Q (L ++ [I]) (mstep F I) I.1 (g.step h1 h2 h3) (fun J hJ => ⟨p.1 J hJ, (h J (List.mem_cons_of_mem _ hJ)).2⟩) p.2
    exact ⟨b', by rw [List.append_assoc] at g'; exact g'⟩
theorem sortP_pw (L : List (Int × Int)) : (sortP L).Pairwise fun a b => a.1 ≤ b.1 := by
  have h := List.pairwise_mergeSort (le := pleb) (fun a b c h1 h2 => by
    unfold pleb at *
    split at h1 <;> split at h2 <;> split <;> simp_all <;> omega) (fun a b => by
    unfold pleb
    split <;> split <;> simp_all <;> omega) L
  refine h.imp fun {a b} hab => ?_
  unfold pleb at hab
  split at hab
  · omega
  · exact of_decide_eq_true hab
/-- what the told intervals are -/
structure Told (S : List Int) (R : List (Int × Int)) (f : List (Option Int)) (F : List (Int × Int)) : Prop where
  good : ∀ J ∈ F, J.1 ≤ J.2 ∧ Full S R f J
  apart : F.Pairwise fun a b => a.2 < b.1
  cover : ∀ (m : Nat) (r : Int × Int), R[m]? = some r → f[m]? = some none → ∃ J ∈ F, inside J r = true
theorem told_of {S : List Int} {R : List (Int × Int)} {L : List (Int × Int)} (hS : S.Pairwise (· < ·)) (hR : ∀ r ∈ R, r.1 ≤ r.2)
    (h1 : ∀ I ∈ L, ∃ (m : Nat) (r : Int × Int), R[m]? = some r ∧ (gr S R)[m]? = some none ∧ I.2 = r.2 ∧ Clo R (gr S R) r.2 r.1 I.1)
    (h2 : ∀ (m : Nat) (r : Int × Int), R[m]? = some r → (gr S R)[m]? = some none → ∃ I ∈ L, I.2 = r.2 ∧ Clo R (gr S R) r.2 r.1 I.1) : Told S R (gr S R) (mrg (sortP L)) := by
  have g := greedy_gd (R := R) hS
  have hI : ∀ I ∈ L, I.1 ≤ I.2 ∧ Full S R (gr S R) I := fun I hI => by
    obtain ⟨m, r, e1, e2, e3, e4⟩ := h1 I hI
    have hr := hR r (List.mem_iff_getElem?.mpr ⟨m, e1⟩)
    obtain ⟨c1, c2⟩ := clo_full g e4 fun s hs a b => by
      obtain ⟨k, q, d1, d2, d3⟩ := g.low m r s e1 hs (tk_iff.mpr ⟨a, b⟩) (.inl e2)
      exact ⟨k, q, d1, d2, d3⟩
    rw [← e3] at c2
    exact ⟨by omega, c2⟩
  have hmem : ∀ I, I ∈ sortP L ↔ I ∈ L := fun I => (List.mergeSort_perm L pleb).mem_iff
  have hp := sortP_pw L
  have hb : ∃ b : Int, ∀ I ∈ sortP L, b ≤ I.1 := by
    cases hq : sortP L with
    | nil => exact ⟨0, fun I h => by cases h⟩
    | cons X Q =>
      rw [hq, List.pairwise_cons] at hp
      refine ⟨X.1, fun I h => ?_⟩
      rcases List.mem_cons.mp h with rfl | h
      · exact Int.le_refl _
      · exact hp.1 I h
  obtain ⟨b, hb⟩ := hb
  obtain ⟨b', m⟩ := mg_fold (sortP L) [] [] b ⟨fun J h => (by cases h), .nil, fun I h => (by cases h), fun J h => (by cases h)⟩ (fun I h => ⟨hb I h, hI I ((hmem I).mp h)⟩) hp
  rw [List.nil_append] at m
  refine ⟨m.good, m.apart, fun k r e1 e2 => ?_⟩
  obtain ⟨I, i1, i2, i3⟩ := h2 k r e1 e2
  obtain ⟨J, j1, j2, j3⟩ := m.cover I ((hmem I).mpr i1)
  have hr := hR r (List.mem_iff_getElem?.mpr ⟨k, e1⟩)
  obtain ⟨c1, _⟩ := clo_full g i3 fun s hs a b => by
    obtain ⟨k, q, d1, d2, d3⟩ := g.low k r s e1 hs (tk_iff.mpr ⟨a, b⟩) (.inl e2)
    exact ⟨k, q, d1, d2, d3⟩
  exact ⟨J, j1, in_iff.mpr ⟨by omega, by omega⟩⟩
/-! ### counting -/
theorem card_le {α β : Type} [DecidableEq β] (Rel : α → β → Prop) : ∀ (l : List α) (k : List β), l.Nodup → (∀ x ∈ l, ∃ y ∈ k, Rel x y) → (∀ x x' y, Rel x y → Rel x' y → x = x') → l.length ≤ k.length
  | [], k, _, _, _ => Nat.zero_le _
  | x :: l, k, hn, h, hu => by
    rw [List.nodup_cons] at hn
    obtain ⟨y, hy, hr⟩ := h x List.mem_cons_self
    have ih := card_le Rel l (k.erase y) hn.2 (fun z hz => by
      obtain ⟨w, hw, hwr⟩ := h z (List.mem_cons_of_mem _ hz)
      refine ⟨w, ?_, hwr⟩
      rw [List.mem_erase_of_ne]
      · exact hw
      · rintro rfl
        have := hu x z w hr hwr
        subst this
        exact hn.1 hz) hu
    have hl := List.length_erase_of_mem hy
    have : 0 < k.length := List.length_pos_of_mem hy
    rw [List.length_cons]
    omega
/-- how many machines below n -/
def ct (n : Nat) (p : Nat → Bool) : Nat := ((List.range n).filter p).length
theorem ct_add (n : Nat) (p q : Nat → Bool) : ct n p = ct n (fun m => p m && q m) + ct n (fun m => p m && !q m) := by
  unfold ct
  induction (List.range n) with
  | nil => rfl
  | cons x l ih =>
    cases hp : p x <;> cases hq : q x <;> simp [List.filter_cons, hp, hq] <;> omega
theorem ct_mono {n : Nat} {p q : Nat → Bool} (h : ∀ m, m < n → p m = true → q m = true) : ct n p ≤ ct n q := by
  refine card_le (fun x y => x = y) _ _ ?_ (fun x hx => ?_) (fun x x' y a b => a.trans b.symm)
  · exact List.nodup_range.filter _
  · obtain ⟨h1, h2⟩ := List.mem_filter.mp hx
    exact ⟨x, List.mem_filter.mpr ⟨h1, h x (List.mem_range.mp h1) h2⟩, rfl⟩
theorem ct_congr {n : Nat} {p q : Nat → Bool} (h : ∀ m, m < n → p m = q m) : ct n p = ct n q := by
  refine Nat.le_antisymm (ct_mono fun m hm hp => ?_) (ct_mono fun m hm hp => ?_)
  · rw [← h m hm]; exact hp
  · rw [h m hm]; exact hp
theorem ct_true (n : Nat) : ct n (fun _ => true) = n := by
  unfold ct
  rw [List.filter_eq_self.mpr fun _ _ => rfl, List.length_range]
/-- p of what stands at m -/
def at_ {α : Type} (R : List α) (p : α → Bool) (m : Nat) : Bool := match R[m]? with
  | some r => p r
  | none => false
theorem ct_succ (n : Nat) (p : Nat → Bool) : ct (n + 1) p = (if p 0 = true then 1 else 0) + ct n (fun m => p (m + 1)) := by
  unfold ct
  rw [List.range_succ_eq_map, List.filter_cons]
  have e : ((List.map Nat.succ (List.range n)).filter p).length = ((List.range n).filter fun m => p (m + 1)).length := by
    rw [List.filter_map, List.length_map]
    rfl
  split
  · rw [List.length_cons, e]
    omega
  · rw [e]
    omega
theorem filter_ct {α : Type} (p : α → Bool) : ∀ R : List α, (R.filter p).length = ct R.length (at_ R p)
  | [] => rfl
  | r :: R => by
    have ih := filter_ct p R
    rw [List.length_cons, ct_succ, List.filter_cons]
    have e : ct R.length (fun m => at_ (r :: R) p (m + 1)) = ct R.length (at_ R p) := ct_congr fun m _ => by simp [at_]
    rw [e, ← ih]
    have e0 : at_ (r :: R) p 0 = p r := rfl
    rw [e0]
    split
    · rw [List.length_cons]
      omega
    · omega
theorem cnt_ct (f : List (Option Int)) : cnt f = ct f.length (at_ f Option.isSome) := filter_ct _ _
/-- machines that hold nothing -/
def un (f : List (Option Int)) (m : Nat) : Bool := at_ f Option.isNone m
theorem un_iff {f : List (Option Int)} {m : Nat} : un f m = true ↔ f[m]? = some none := by
  unfold un at_
  cases h : f[m]? with
  | none => simp
  | some o => cases o <;> simp
theorem cnt_un (f : List (Option Int)) : cnt f + ct f.length (un f) = f.length := by
  rw [cnt_ct]
  have h := ct_add f.length (fun _ => true) (at_ f Option.isSome)
  rw [ct_true] at h
  have e1 : ct f.length (fun m => true && at_ f Option.isSome m) = ct f.length (at_ f Option.isSome) := ct_congr fun m _ => by simp
  have e2 : ct f.length (fun m => true && !at_ f Option.isSome m) = ct f.length (un f) := ct_congr fun m hm => by
    unfold un at_
    rw [List.getElem?_eq_getElem hm]
    cases f[m] <;> simp
  rw [e1, e2] at h
  omega
/-- served machines among A hold sizes that A takes -/
theorem served_le {S : List Int} {R : List (Int × Int)} {f : List (Option Int)} (o : Ok S R f) (A : Nat → Bool) (N : Int → Bool) (h : ∀ (m : Nat) (s : Int), A m = true → f[m]? = some (some s) → N s = true) : ct f.length (fun m => A m && !un f m) ≤ (S.filter N).length := by
  unfold ct
  refine card_le (fun m s => f[m]? = some (some s)) _ _ (List.nodup_range.filter _) (fun m hm => ?_) (fun m m' s a b => o.inj m m' s a b)
  obtain ⟨h1, h2⟩ := List.mem_filter.mp hm
  rw [Bool.and_eq_true] at h2
  have hl := List.mem_range.mp h1
  have hs : ∃ s, f[m]? = some (some s) := by
    rw [List.getElem?_eq_getElem hl]
    cases z : f[m] with
    | some s => exact ⟨s, rfl⟩
    | none =>
      have : un f m = true := un_iff.mpr (by rw [List.getElem?_eq_getElem hl, z])
      rw [this] at h2
      cases h2.2
  obtain ⟨s, hs⟩ := hs
  exact ⟨s, List.mem_filter.mpr ⟨(o.fit m s hs).1, h m s h2.1 hs⟩, hs⟩
theorem sizes_le {S : List Int} {f : List (Option Int)} (hS : S.Nodup) (A : Nat → Bool) (N : Int → Bool) (h : ∀ s ∈ S, N s = true → ∃ m : Nat, f[m]? = some (some s) ∧ A m = true) : (S.filter N).length ≤ ct f.length (fun m => A m && !un f m) := by
  unfold ct
  refine card_le (fun s m => f[m]? = some (some s)) _ _ (hS.filter _) (fun s hs => ?_) (fun s s' m a b => by rw [a] at b; cases b; rfl)
  obtain ⟨h1, h2⟩ := List.mem_filter.mp hs
  obtain ⟨m, h3, h4⟩ := h s h1 h2
  refine ⟨m, List.mem_filter.mpr ⟨List.mem_range.mpr (List.getElem?_eq_some_iff.mp h3).1, ?_⟩, h3⟩
  have : un f m = false := by
    cases z : un f m with
    | false => rfl
    | true =>
      rw [un_iff, h3] at z
      cases z
  simp [h4, this]
end K88

-- K88_P
namespace K88
/-! duality -/
theorem sum_le {α : Type} (n : Nat) (q : α → Nat → Bool) : ∀ (F : List α) (P : Nat → Bool), F.Pairwise (fun a b => ∀ m, m < n → q a m = true → q b m = false) → ((F.map fun J => (ct n (fun m => q J m && P m) : Int)).sum) ≤ (ct n P : Int)
  | [], P, _ => by simp
  | J :: F, P, h => by
    rw [List.pairwise_cons] at h
    have ih := sum_le n q F (fun m => P m && !q J m) h.2
    have e : (F.map fun K => (ct n (fun m => q K m && (P m && !q J m)) : Int)) = F.map fun K => (ct n (fun m => q K m && P m) : Int) := by
      refine List.map_congr_left fun K hK => ?_
      congr 1
      refine ct_congr fun m hm => ?_
      cases hq : q K m with
      | false => simp
      | true =>
        have : q J m = false := by
          cases hj : q J m with
          | false => rfl
          | true =>
            have := h.1 K hK m hm hj
            rw [hq] at this
            cases this
        simp [this]
    rw [e] at ih
    rw [List.map_cons, List.sum_cons]
    have hc := ct_add n P (q J)
    have e2 : ct n (fun m => q J m && P m) = ct n (fun m => P m && q J m) := ct_congr fun m _ => Bool.and_comm _ _
    omega
theorem le_sum {α : Type} (n : Nat) (q : α → Nat → Bool) : ∀ (F : List α) (P : Nat → Bool), (∀ m, m < n → P m = true → ∃ J ∈ F, q J m = true) → (ct n P : Int) ≤ ((F.map fun J => (ct n (fun m => q J m && P m) : Int)).sum)
  | [], P, h => by
    have : ct n P = 0 := by
      unfold ct
      rw [List.length_eq_zero_iff, List.filter_eq_nil_iff]
      intro m hm hp
      obtain ⟨J, hJ, _⟩ := h m (List.mem_range.mp hm) hp
      cases hJ
    simp [this]
  | J :: F, P, h => by
    have ih := le_sum n q F (fun m => P m && !q J m) fun m hm hp => by
      rw [Bool.and_eq_true] at hp
      obtain ⟨K, hK, hq⟩ := h m hm hp.1
      rcases List.mem_cons.mp hK with rfl | hK
      · rw [hq] at hp
        cases hp.2
      · exact ⟨K, hK, hq⟩
    have hmono : ((F.map fun K => (ct n (fun m => q K m && (P m && !q J m)) : Int)).sum) ≤ ((F.map fun K => (ct n (fun m => q K m && P m) : Int)).sum) := by
      clear ih h
      induction F with
      | nil => exact Int.le_refl _
      | cons K F ih =>
        rw [List.map_cons, List.sum_cons, List.map_cons, List.sum_cons]
        have : ct n (fun m => q K m && (P m && !q J m)) ≤ ct n (fun m => q K m && P m) := ct_mono fun m _ h => by
          rw [Bool.and_eq_true, Bool.and_eq_true] at h
          simp [h.1, h.2.1]
        omega
    rw [List.map_cons, List.sum_cons]
    have hc := ct_add n P (q J)
    have e2 : ct n (fun m => q J m && P m) = ct n (fun m => P m && q J m) := ct_congr fun m _ => Bool.and_comm _ _
    omega
theorem insAt {R : List (Int × Int)} {J : Int × Int} {m : Nat} : at_ R (inside J) m = true ↔ ∃ r, R[m]? = some r ∧ inside J r = true := by
  unfold at_
  cases h : R[m]? with
  | none => simp
  | some r => simp
theorem tk_of_in {J r : Int × Int} {s : Int} (h : inside J r = true) (ht : tk r s = true) : tk J s = true := by
  obtain ⟨a, b⟩ := in_iff.mp h
  obtain ⟨c, d⟩ := tk_iff.mp ht
  exact tk_iff.mpr ⟨by omega, by omega⟩
theorem tkAt_of {R : List (Int × Int)} {m : Nat} {s : Int} (h : tkAt R m s = true) : ∃ r, R[m]? = some r ∧ tk r s = true := by
  unfold tkAt at h
  cases hr : R[m]? with
  | none => rw [hr] at h; cases h
  | some r => rw [hr] at h; exact ⟨r, rfl, h⟩
theorem short_le {S : List Int} {R : List (Int × Int)} {f : List (Option Int)} (o : Ok S R f) (J : Int × Int) : short S R J ≤ (ct f.length (fun m => at_ R (inside J) m && un f m) : Int) := by
  have h1 := served_le o (at_ R (inside J)) (tk J) fun m s hm hs => by
    obtain ⟨r, e1, e2⟩ := insAt.mp hm
    obtain ⟨r', e3, e4⟩ := tkAt_of (o.fit m s hs).2
    rw [e1] at e3
    cases e3
    exact tk_of_in e2 e4
  have h2 := ct_add f.length (at_ R (inside J)) (un f)
  unfold short mIn sIn
  rw [filter_ct, ← o.len]
  omega
theorem in_excl {R : List (Int × Int)} (hR : ∀ r ∈ R, r.1 ≤ r.2) {F : List (Int × Int)} (h : F.Pairwise fun a b => a.2 < b.1) (n : Nat) : F.Pairwise (fun a b => ∀ m, m < n → at_ R (inside a) m = true → at_ R (inside b) m = false) :=
  h.imp fun {a b} hab m _ ha => by
    cases hb : at_ R (inside b) m with
    | false => rfl
    | true =>
      obtain ⟨r, e1, e2⟩ := insAt.mp ha
      obtain ⟨r', e3, e4⟩ := insAt.mp hb
      rw [e1] at e3
      cases e3
      have := hR r (List.mem_iff_getElem?.mpr ⟨m, e1⟩)
      have a1 := in_iff.mp e2
      have a2 := in_iff.mp e4
      omega
theorem sum_mono {α : Type} {g h : α → Int} : ∀ (F : List α), (∀ J ∈ F, g J ≤ h J) → (F.map g).sum ≤ (F.map h).sum
  | [], _ => Int.le_refl _
  | J :: F, k => by
    rw [List.map_cons, List.sum_cons, List.map_cons, List.sum_cons]
    have := k J List.mem_cons_self
    have := sum_mono F fun K hK => k K (List.mem_cons_of_mem _ hK)
    omega
/-- no service serves more than the shortages leave -/
theorem weak {S : List Int} {R F : List (Int × Int)} {f : List (Option Int)} (o : Ok S R f) (hR : ∀ r ∈ R, r.1 ≤ r.2) (h : F.Pairwise fun a b => a.2 < b.1) : shortSum S R F + (cnt f : Int) ≤ (R.length : Int) := by
  have h1 : shortSum S R F ≤ (F.map fun J => (ct f.length (fun m => at_ R (inside J) m && un f m) : Int)).sum := sum_mono F fun J _ => short_le o J
  have h2 := sum_le f.length (fun J m => at_ R (inside J) m) F (un f) (in_excl hR h _)
  have h3 := cnt_un f
  have h4 := o.len
  omega
theorem strong {S : List Int} {R F : List (Int × Int)} {f : List (Option Int)} (o : Ok S R f) (hS : S.Nodup) (t : Told S R f F) : (R.length : Int) ≤ shortSum S R F + (cnt f : Int) := by
  have h1 : (F.map fun J => (ct f.length (fun m => at_ R (inside J) m && un f m) : Int)).sum ≤ shortSum S R F := sum_mono F fun J hJ => by
    have h1 := sizes_le (f := f) hS (at_ R (inside J)) (tk J) fun s hs ht => by
      obtain ⟨k, q, e1, e2, e3⟩ := (t.good J hJ).2 s hs ht
      exact ⟨k, e2, insAt.mpr ⟨q, e1, e3⟩⟩
    have h2 := ct_add f.length (at_ R (inside J)) (un f)
    unfold short mIn sIn
    rw [filter_ct, ← o.len]
    omega
  have h2 := le_sum f.length (fun J m => at_ R (inside J) m) F (un f) fun m hm hu => by
    have hu' := un_iff.mp hu
    have hl : m < R.length := by rw [← o.len]; exact hm
    obtain ⟨J, hJ, h3⟩ := t.cover m R[m] (List.getElem?_eq_getElem hl) hu'
    exact ⟨J, hJ, insAt.mpr ⟨_, List.getElem?_eq_getElem hl, h3⟩⟩
  have h3 := cnt_un f
  have h4 := o.len
  omega
/-! ### sets of machines -/
def Nb (R : List (Int × Int)) (A : Nat → Bool) (s : Int) : Bool := (List.range R.length).any fun m => A m && tkAt R m s
theorem nb_iff {R : List (Int × Int)} {A : Nat → Bool} {s : Int} : Nb R A s = true ↔ ∃ m, m < R.length ∧ A m = true ∧ tkAt R m s = true := by
  unfold Nb
  rw [List.any_eq_true]
  constructor
  · rintro ⟨m, h1, h2⟩
    rw [Bool.and_eq_true] at h2
    exact ⟨m, List.mem_range.mp h1, h2.1, h2.2⟩
  · rintro ⟨m, h1, h2, h3⟩
    exact ⟨m, List.mem_range.mpr h1, by rw [h2, h3]; rfl⟩
def df (S : List Int) (R : List (Int × Int)) (A : Nat → Bool) : Int := (ct R.length A : Int) - ((S.filter (Nb R A)).length : Int)
theorem d1 {S : List Int} {R : List (Int × Int)} {f : List (Option Int)} (o : Ok S R f) (A : Nat → Bool) : df S R A + (cnt f : Int) ≤ (R.length : Int) := by
  have h1 := served_le o A (Nb R A) fun m s hm hs => nb_iff.mpr ⟨m, by rw [← o.len]; exact (List.getElem?_eq_some_iff.mp hs).1, hm, (o.fit m s hs).2⟩
  have h2 := ct_add f.length A (un f)
  have h3 : ct f.length (fun m => A m && un f m) ≤ ct f.length (un f) := ct_mono fun m _ h => by
    rw [Bool.and_eq_true] at h
    exact h.2
  have h4 := cnt_un f
  unfold df
  rw [← o.len]
  omega
theorem d2 {S : List Int} {R F : List (Int × Int)} {f : List (Option Int)} (o : Ok S R f) (hS : S.Nodup) (t : Told S R f F) : ∃ A : Nat → Bool, (R.length : Int) ≤ df S R A + (cnt f : Int) := by
  refine ⟨fun m => F.any fun J => at_ R (inside J) m, ?_⟩
  have h1 := sizes_le (f := f) hS (fun m => F.any fun J => at_ R (inside J) m) (Nb R fun m => F.any fun J => at_ R (inside J) m) fun s hs hn => by
    obtain ⟨m, _, h2, h3⟩ := nb_iff.mp hn
    obtain ⟨J, hJ, h4⟩ := List.any_eq_true.mp h2
    obtain ⟨r, e1, e2⟩ := insAt.mp h4
    obtain ⟨r', e3, e4⟩ := tkAt_of h3
    rw [e1] at e3
    cases e3
    obtain ⟨k, q, a1, a2, a3⟩ := (t.good J hJ).2 s hs (tk_of_in e2 e4)
    exact ⟨k, a2, List.any_eq_true.mpr ⟨J, hJ, insAt.mpr ⟨q, a1, a3⟩⟩⟩
  have h2 := ct_add f.length (fun m => F.any fun J => at_ R (inside J) m) (un f)
  have h3 : ct f.length (un f) ≤ ct f.length (fun m => (F.any fun J => at_ R (inside J) m) && un f m) := ct_mono fun m hm hu => by
    have hl : m < R.length := by rw [← o.len]; exact hm
    obtain ⟨J, hJ, h3⟩ := t.cover m R[m] (List.getElem?_eq_getElem hl) (un_iff.mp hu)
    rw [hu, Bool.and_true]
    exact List.any_eq_true.mpr ⟨J, hJ, insAt.mpr ⟨_, List.getElem?_eq_getElem hl, h3⟩⟩
  have h4 := cnt_un f
  unfold df
  rw [← o.len]
  omega
/-! ### the most that are served -/
def nu (S : List Int) (R : List (Int × Int)) : Nat := cnt (gr S R)
/-- shops as they are drawn -/
structure Shop (S : List Int) (R : List (Int × Int)) : Prop where
  s : S.Pairwise (· < ·)
  r : ∀ r ∈ R, r.1 ≤ r.2
theorem Shop.nd {S : List Int} {R : List (Int × Int)} (h : Shop S R) : S.Nodup := h.s.imp fun h => by omega
theorem told_ex {S : List Int} {R : List (Int × Int)} (h : Shop S R) (hR : R.length < 90) : ∃ F, Told S R (gr S R) F := by
  obtain ⟨L, _, h1, h2⟩ := L_shortages true S R hR
  exact ⟨_, told_of h.s h.r h1 h2⟩
theorem ok_gr {S : List Int} {R : List (Int × Int)} (h : Shop S R) : Ok S R (gr S R) := (greedy_gd h.s).ok
theorem best {S : List Int} {R : List (Int × Int)} (h : Shop S R) (hR : R.length < 90) : ∃ A : Nat → Bool, df S R A + (nu S R : Int) = (R.length : Int) ∧ True := by
  obtain ⟨F, t⟩ := told_ex h hR
  obtain ⟨A, hA⟩ := d2 (ok_gr h) h.nd t
  have := d1 (ok_gr h) A
  exact ⟨A, by unfold nu; omega, trivial⟩
theorem df_le {S : List Int} {R : List (Int × Int)} (h : Shop S R) (A : Nat → Bool) : df S R A + (nu S R : Int) ≤ (R.length : Int) := d1 (ok_gr h) A
theorem nu_le {S : List Int} {R : List (Int × Int)} {f : List (Option Int)} (h : Shop S R) (hR : R.length < 90) (o : Ok S R f) : cnt f ≤ nu S R := by
  obtain ⟨A, hA, _⟩ := best h hR
  have := d1 o A
  omega
end K88

-- K88_Q
namespace K88
/-! one more, two more -/
theorem filt4 {α : Type} {p q u v : α → Bool} (h1 : ∀ s, p s = true → u s = true ∧ v s = true) (h2 : ∀ s, q s = true → u s = true ∨ v s = true) : ∀ S : List α, (S.filter p).length + (S.filter q).length ≤ (S.filter u).length + (S.filter v).length
  | [] => Nat.le_refl _
  | s :: S => by
    have ih := filt4 h1 h2 S
    have a1 := h1 s
    have a2 := h2 s
    cases hp : p s <;> cases hq : q s <;> cases hu : u s <;> cases hv : v s <;> simp_all <;> omega
theorem filt_le {α : Type} {p q : α → Bool} (h : ∀ s, p s = true → q s = true) (S : List α) : (S.filter p).length ≤ (S.filter q).length := by
  have := filt4 (p := p) (q := p) (u := q) (v := q) (fun s hs => ⟨h s hs, h s hs⟩) (fun s hs => .inl (h s hs)) S
  omega
def b2n (b : Bool) : Nat := if b = true then 1 else 0
theorem filt_app {α : Type} (p : α → Bool) (S : List α) (a : α) : ((S ++ [a]).filter p).length = (S.filter p).length + b2n (p a) := by
  rw [List.filter_append, List.length_append]
  unfold b2n
  cases h : p a <;> simp [h]
theorem filt_sort (p : Int → Bool) (S : List Int) : ((sortI S).filter p).length = (S.filter p).length := ((List.mergeSort_perm S _).filter p).length_eq
theorem sortI_pw (S : List Int) (h : S.Nodup) : (sortI S).Pairwise (· < ·) := by
  have h1 := List.pairwise_mergeSort (le := fun a b : Int => decide (a ≤ b)) (fun a b c h1 h2 => by simp at *; omega) (fun a b => by simp; omega) S
  have h2 : (sortI S).Nodup := (List.mergeSort_perm S _).nodup_iff.mpr h
  refine (h1.and h2).imp fun {a b} ⟨x, y⟩ => ?_
  have := of_decide_eq_true x
  omega
theorem Shop.spindle {S : List Int} {R : List (Int × Int)} (h : Shop S R) {a : Int} (ha : a ∉ S) : Shop (sortI (S ++ [a])) R := by
  refine ⟨sortI_pw _ ?_, h.r⟩
  rw [List.nodup_append]
  refine ⟨h.nd, by simp, fun x hx y hy => ?_⟩
  have : y = a := by simpa using hy
  subst this
  rintro rfl
  exact ha hx
theorem Shop.machine {S : List Int} {R : List (Int × Int)} (h : Shop S R) {x : Int × Int} (hx : x.1 ≤ x.2) : Shop S (R ++ [x]) := by
  refine ⟨h.s, fun r hr => ?_⟩
  rcases List.mem_append.mp hr with h' | h'
  · exact h.r r h'
  · have : r = x := by simpa using h'
    rw [this]
    exact hx
theorem df_sort (S : List Int) (R : List (Int × Int)) (A : Nat → Bool) (a : Int) : df (sortI (S ++ [a])) R A = df S R A - b2n (Nb R A a) := by
  unfold df
  rw [filt_sort, filt_app]
  omega
theorem b2n_le (b : Bool) : b2n b ≤ 1 := by unfold b2n; split <;> omega
theorem m1 {S : List Int} {R : List (Int × Int)} (h : Shop S R) (hR : R.length < 90) {a : Int} (ha : a ∉ S) : nu S R ≤ nu (sortI (S ++ [a])) R ∧ nu (sortI (S ++ [a])) R ≤ nu S R + 1 := by
  have h' := h.spindle ha
  constructor
  · obtain ⟨A, hA, _⟩ := best h' hR
    have h1 := df_le h A
    rw [df_sort] at hA
    have := b2n_le (Nb R A a)
    omega
  · obtain ⟨A, hA, _⟩ := best h hR
    have h1 := df_le h' A
    rw [df_sort] at h1
    have := b2n_le (Nb R A a)
    omega
theorem ct_or (n : Nat) (A B : Nat → Bool) : ct n A + ct n B = ct n (fun m => A m && B m) + ct n (fun m => A m || B m) := by
  unfold ct
  induction (List.range n) with
  | nil => rfl
  | cons x l ih => cases hA : A x <;> cases hB : B x <;> simp [List.filter_cons, hA, hB] <;> omega
theorem nb_and {R : List (Int × Int)} {A B : Nat → Bool} {s : Int} (h : Nb R (fun m => A m && B m) s = true) : Nb R A s = true ∧ Nb R B s = true := by
  obtain ⟨m, h1, h2, h3⟩ := nb_iff.mp h
  rw [Bool.and_eq_true] at h2
  exact ⟨nb_iff.mpr ⟨m, h1, h2.1, h3⟩, nb_iff.mpr ⟨m, h1, h2.2, h3⟩⟩
theorem nb_or {R : List (Int × Int)} {A B : Nat → Bool} {s : Int} (h : Nb R (fun m => A m || B m) s = true) : Nb R A s = true ∨ Nb R B s = true := by
  obtain ⟨m, h1, h2, h3⟩ := nb_iff.mp h
  rw [Bool.or_eq_true] at h2
  rcases h2 with h2 | h2
  · exact .inl (nb_iff.mpr ⟨m, h1, h2, h3⟩)
  · exact .inr (nb_iff.mpr ⟨m, h1, h2, h3⟩)
theorem b2n_mono {a b : Bool} (h : a = true → b = true) : b2n a ≤ b2n b := by
  unfold b2n
  cases a with
  | false => simp
  | true => simp [h rfl]
theorem m2 {S : List Int} {R : List (Int × Int)} (h : Shop S R) (hR : R.length < 90) {a b : Int} (ha : a ∉ S) (hb : b ∉ S) (hab : b ∉ sortI (S ++ [a])) : nu (sortI (sortI (S ++ [a]) ++ [b])) R + nu S R ≤ nu (sortI (S ++ [a])) R + nu (sortI (S ++ [b])) R := by
  have sa := h.spindle ha
  have sb := h.spindle hb
  have sab := sa.spindle hab
  obtain ⟨A, hA, _⟩ := best sa hR
  obtain ⟨B, hB, _⟩ := best sb hR
  have h1 := df_le sab (fun m => A m && B m)
  have h2 := df_le h (fun m => A m || B m)
  rw [df_sort] at hA hB
  rw [df_sort, df_sort] at h1
  have e1 := b2n_mono (fun z => (nb_and (R := R) (A := A) (B := B) (s := a) z).1)
  have e2 := b2n_mono (fun z => (nb_and (R := R) (A := A) (B := B) (s := b) z).2)
  have e3 := filt4 (p := Nb R fun m => A m && B m) (q := Nb R fun m => A m || B m) (u := Nb R A) (v := Nb R B) (fun s => nb_and) (fun s => nb_or) S
  have e4 := ct_or R.length A B
  unfold df at *
  omega
/-! machines -/
theorem ct_last (n : Nat) (p : Nat → Bool) : ct (n + 1) p = ct n p + b2n (p n) := by
  unfold ct
  rw [List.range_succ, filt_app]
theorem tkAt_old {R : List (Int × Int)} {x : Int × Int} {m : Nat} (hm : m < R.length) (s : Int) : tkAt (R ++ [x]) m s = tkAt R m s := by
  unfold tkAt
  rw [List.getElem?_append_left hm]
theorem tkAt_new {R : List (Int × Int)} {x : Int × Int} (s : Int) : tkAt (R ++ [x]) R.length s = tk x s := by
  unfold tkAt
  simp
theorem nb_last (R : List (Int × Int)) (x : Int × Int) (A : Nat → Bool) (s : Int) : Nb (R ++ [x]) A s = (Nb R A s || (A R.length && tk x s)) := by
  unfold Nb
  rw [List.length_append, List.length_singleton, List.range_succ, List.any_append]
  congr 1
  · rw [Bool.eq_iff_iff, List.any_eq_true, List.any_eq_true]
    constructor
    · rintro ⟨m, h1, h2⟩
      rw [tkAt_old (List.mem_range.mp h1)] at h2
      exact ⟨m, h1, h2⟩
    · rintro ⟨m, h1, h2⟩
      refine ⟨m, h1, ?_⟩
      rw [tkAt_old (List.mem_range.mp h1)]
      exact h2
  · simp [tkAt_new]
theorem df_new (S : List Int) (R : List (Int × Int)) (x : Int × Int) (A : Nat → Bool) : df S R A ≤ df S (R ++ [x]) (fun m => if m < R.length then A m else false) ∧ df S (R ++ [x]) A ≤ df S R A + 1 := by
  unfold df
  rw [List.length_append, List.length_singleton, ct_last, ct_last]
  constructor
  · have e1 : ct R.length (fun m => if m < R.length then A m else false) = ct R.length A := ct_congr fun m hm => by simp [hm]
    have e2 : (S.filter (Nb (R ++ [x]) fun m => if m < R.length then A m else false)).length ≤ (S.filter (Nb R A)).length := filt_le (fun s hs => by
      rw [nb_last] at hs
      simp at hs
      obtain ⟨m, h1, h2, h3⟩ := nb_iff.mp hs
      simp [h1] at h2
      exact nb_iff.mpr ⟨m, h1, h2, h3⟩) S
    omega
  · have e1 : (S.filter (Nb R A)).length ≤ (S.filter (Nb (R ++ [x]) A)).length := filt_le (fun s hs => by
      rw [nb_last, hs]
      rfl) S
    have := b2n_le (A R.length)
    omega
theorem m3 {S : List Int} {R : List (Int × Int)} (h : Shop S R) (hR : R.length < 80) {x : Int × Int} (hx : x.1 ≤ x.2) : nu S R ≤ nu S (R ++ [x]) ∧ nu S (R ++ [x]) ≤ nu S R + 1 := by
  have h' := h.machine hx
  have hl : (R ++ [x]).length = R.length + 1 := by simp
  constructor
  · obtain ⟨A, hA, _⟩ := best h' (by omega)
    have h1 := df_le h A
    have := (df_new S R x A).2
    omega
  · obtain ⟨A, hA, _⟩ := best h (by omega)
    have h1 := df_le h' (fun m => if m < R.length then A m else false)
    have := (df_new S R x A).1
    omega
theorem m4 {S : List Int} {R : List (Int × Int)} (h : Shop S R) (hR : R.length < 80) {x y : Int × Int} (hx : x.1 ≤ x.2) (hy : y.1 ≤ y.2) : nu S ((R ++ [x]) ++ [y]) + nu S R ≤ nu S (R ++ [x]) + nu S (R ++ [y]) := by
  have sx := h.machine hx
  have sy := h.machine hy
  have sxy := sx.machine hy
  have lx : (R ++ [x]).length = R.length + 1 := by simp
  have ly : (R ++ [y]).length = R.length + 1 := by simp
  have lxy : ((R ++ [x]) ++ [y]).length = R.length + 2 := by simp
  obtain ⟨A, hA, _⟩ := best sx (by omega)
  obtain ⟨B, hB, _⟩ := best sy (by omega)
  let D : Nat → Bool := fun m => if m < R.length then A m || B m else if m = R.length then A R.length else B R.length
  have h1 := df_le sxy D
  have h2 := df_le h (fun m => A m && B m)
  have d1 : D R.length = A R.length := by simp [D]
  have d2 : D (R.length + 1) = B R.length := by
    simp [D]
    intro h
    omega
  have e1 : ct R.length D = ct R.length (fun m => A m || B m) := ct_congr fun m hm => by simp [D, hm]
  have e4 := ct_or R.length A B
  have nbD : ∀ s, Nb R D s = true → Nb R A s = true ∨ Nb R B s = true := fun s hs => by
    obtain ⟨m, h1, h2, h3⟩ := nb_iff.mp hs
    have : (A m || B m) = true := by simpa [D, h1] using h2
    exact nb_or (nb_iff.mpr ⟨m, h1, this, h3⟩)
  have e3 := filt4 (p := Nb R fun m => A m && B m) (q := Nb ((R ++ [x]) ++ [y]) D) (u := Nb (R ++ [x]) A) (v := Nb (R ++ [y]) B) (fun s hs => by
    obtain ⟨a1, a2⟩ := nb_and hs
    rw [nb_last, nb_last, a1, a2]
    exact ⟨rfl, rfl⟩) (fun s hs => by
    rw [nb_last, nb_last, lx, d1, d2] at hs
    rw [nb_last, nb_last]
    rw [Bool.or_eq_true, Bool.or_eq_true] at hs
    rcases hs with (hs | hs) | hs
    · rcases nbD s hs with z | z
      · left; rw [z]; rfl
      · right; rw [z]; rfl
    · left; rw [hs]; simp
    · right; rw [hs]; simp) S
  unfold df at *
  rw [lxy] at h1
  rw [lx] at hA
  rw [ly] at hB
  rw [ct_last, ct_last, d2, d1, e1] at h1
  rw [ct_last] at hA hB
  omega
/-! a machine for one new size alone -/
theorem m5 {S : List Int} {R : List (Int × Int)} (h : Shop S R) (hR : R.length < 80) {a : Int} (ha : a ∉ S) : nu (sortI (S ++ [a])) (R ++ [(a, a)]) = nu S R + 1 := by
  have sa := h.spindle ha
  have sx := sa.machine (x := (a, a)) (Int.le_refl _)
  have lx : (R ++ [(a, a)]).length = R.length + 1 := by simp
  have tka : ∀ s ∈ S, tk (a, a) s = false := fun s hs => by
    cases z : tk (a, a) s with
    | false => rfl
    | true =>
      obtain ⟨h1, h2⟩ := tk_iff.mp z
      have h1' : a ≤ s := h1
      have h2' : s ≤ a := h2
      have : s = a := by omega
      rw [this] at hs
      exact (ha hs).elim
  have filtS : ∀ A, (S.filter (Nb (R ++ [(a, a)]) A)).length = (S.filter (Nb R A)).length := fun A => by
    congr 1
    refine List.filter_congr fun s hs => ?_
    rw [nb_last, tka s hs]
    simp
  have tkaa : tk (a, a) a = true := by simp [tk]
  refine Nat.le_antisymm ?_ ?_
  · obtain ⟨A, hA, _⟩ := best h (by omega)
    have h1 := df_le sx (fun m => if m < R.length then A m else true)
    rw [df_sort] at h1
    unfold df at *
    rw [lx, ct_last, filtS] at h1
    have e1 : ct R.length (fun m => if m < R.length then A m else true) = ct R.length A := ct_congr fun m hm => by simp [hm]
    have e2 : (S.filter (Nb R fun m => if m < R.length then A m else true)).length ≤ (S.filter (Nb R A)).length := filt_le (fun s hs => by
      obtain ⟨m, g1, g2, g3⟩ := nb_iff.mp hs
      simp [g1] at g2
      exact nb_iff.mpr ⟨m, g1, g2, g3⟩) S
    have := b2n_le (Nb (R ++ [(a, a)]) (fun m => if m < R.length then A m else true) a)
    have e3 : b2n (if R.length < R.length then A R.length else true) = 1 := by simp [b2n]
    omega
  · obtain ⟨A, hA, _⟩ := best sx (by omega)
    have h1 := df_le h A
    rw [df_sort] at hA
    unfold df at *
    rw [lx, ct_last, filtS] at hA
    have e2 : b2n (A R.length) ≤ b2n (Nb (R ++ [(a, a)]) A a) := b2n_mono fun z => by
      rw [nb_last, z, tkaa]
      simp
    omega
theorem sIn_app (S : List Int) (a : Int) (I : Int × Int) : sIn (sortI (S ++ [a])) I = sIn S I + b2n (tk I a) := by
  unfold sIn
  rw [filt_sort, filt_app]
theorem mIn_app (R : List (Int × Int)) (x I : Int × Int) : mIn (R ++ [x]) I = mIn R I + b2n (inside I x) := by
  unfold mIn
  rw [filt_app]
theorem shortSum_out (S : List Int) (R : List (Int × Int)) (a : Int) : ∀ F : List (Int × Int), (∀ I ∈ F, tk I a = false) → shortSum (sortI (S ++ [a])) R F = shortSum S R F := fun F h => by
  unfold shortSum
  congr 1
  refine List.map_congr_left fun I hI => ?_
  unfold short
  rw [sIn_app, h I hI]
  simp [b2n]
/-- a spindle beside the told intervals does not help -/
theorem m6 {S : List Int} {R F : List (Int × Int)} (h : Shop S R) (hR : R.length < 90) {a : Int} (ha : a ∉ S) (t : Told S R (gr S R) F) (ho : ∀ I ∈ F, tk I a = false) : nu (sortI (S ++ [a])) R = nu S R := by
  have h1 := strong (ok_gr h) h.nd t
  have h2 := weak (F := F) (ok_gr (h.spindle ha)) h.r t.apart
  rw [shortSum_out S R a F ho] at h2
  have := (m1 h hR ha).1
  unfold nu at *
  omega
theorem shortSum_in (S : List Int) (R : List (Int × Int)) {x : Int × Int} (hx : x.1 ≤ x.2) : ∀ F : List (Int × Int), F.Pairwise (fun a b => a.2 < b.1) → (∀ J ∈ F, J.1 ≤ J.2) → x ∈ F → shortSum S (R ++ [x]) F = shortSum S R F + 1
  | [], _, _, h => by cases h
  | J :: F, hp, hg, h => by
    rw [List.pairwise_cons] at hp
    have out : ∀ F : List (Int × Int), (∀ K ∈ F, inside K x = false) → shortSum S (R ++ [x]) F = shortSum S R F := fun F ho => by
      unfold shortSum
      congr 1
      refine List.map_congr_left fun K hK => ?_
      unfold short
      rw [mIn_app, ho K hK]
      simp [b2n]
    have e : ∀ R', shortSum S R' (J :: F) = short S R' J + shortSum S R' F := fun R' => by simp [shortSum]
    rw [e, e]
    rcases List.mem_cons.mp h with rfl | h
    · rw [out F fun K hK => by
        cases z : inside K x with
        | false => rfl
        | true =>
          have := in_iff.mp z
          have := hp.1 K hK
          omega]
      unfold short
      rw [mIn_app]
      have : b2n (inside x x) = 1 := by simp [b2n, inside]
      omega
    · have ih := shortSum_in S R hx F hp.2 (fun K hK => hg K (List.mem_cons_of_mem _ hK)) h
      have hJ : inside J x = false := by
        cases z : inside J x with
        | false => rfl
        | true =>
          have := in_iff.mp z
          have := hp.1 x h
          omega
      rw [ih]
      unfold short
      rw [mIn_app, hJ]
      have : b2n false = 0 := rfl
      omega
/-- a machine within a told interval is not served -/
theorem m7 {S : List Int} {R F : List (Int × Int)} (h : Shop S R) (hR : R.length < 80) (t : Told S R (gr S R) F) {x : Int × Int} (hx : x ∈ F) : nu S (R ++ [x]) = nu S R := by
  have hg := (t.good x hx).1
  have h1 := strong (ok_gr h) h.nd t
  have h2 := weak (F := F) (ok_gr (h.machine hg)) (h.machine hg).r t.apart
  rw [shortSum_in S R hg F t.apart (fun J hJ => (t.good J hJ).1) hx] at h2
  have := (m3 h hR hg).1
  have : (R ++ [x]).length = R.length + 1 := by simp
  unfold nu at *
  omega
end K88

-- K88_R
namespace K88
open DL
open L2 (atI ixN)
open PySem (seqIndex?)
/-! the first setting, the verdict -/
def full (l : List (Option Int)) : Bool := !l.any Option.isNone
theorem full_iff {f : List (Option Int)} : full f = true ↔ cnt f = f.length := by
  unfold full cnt
  induction f with
  | nil => simp
  | cons o f ih =>
    cases o with
    | none =>
      have : (f.filter Option.isSome).length ≤ f.length := List.length_filter_le _ _
      simp
      omega
    | some s => simpa using ih
/-- a full service of the rest, once the first machine has its size -/
theorem full_tail {S : List Int} {R : List (Int × Int)} {x : Int × Int} (h : Shop S (x :: R)) (hR : R.length < 80) (hf : full (gr S (x :: R)) = true) : ∃ s ∈ S, tk x s = true ∧ full (gr (S.filter fun o => o != s) R) = true := by
  have o := ok_gr h
  have hl := gr_len S (x :: R)
  cases hg : gr S (x :: R) with
  | nil => rw [hg] at hl; cases hl
  | cons a f =>
    rw [hg] at o hf hl
    cases a with
    | none => simp [full] at hf
    | some s =>
      obtain ⟨h1, h2⟩ := o.fit 0 s rfl
      have h2' : tk x s = true := h2
      refine ⟨s, h1, h2', ?_⟩
      have sh : Shop (S.filter fun o => o != s) R := ⟨h.s.filter _, fun r hr => h.r r (List.mem_cons_of_mem _ hr)⟩
      have of : Ok (S.filter fun o => o != s) R f := by
        refine ⟨by simpa using hl, fun m t hm => ?_, fun m n t h3 h4 => ?_⟩
        · obtain ⟨a1, a2⟩ := o.fit (m + 1) t (by simpa using hm)
          refine ⟨List.mem_filter.mpr ⟨a1, ?_⟩, by simpa [tkAt] using a2⟩
          simp
          rintro rfl
          have := o.inj 0 (m + 1) t rfl (by simpa using hm)
          omega
        · have := o.inj (m + 1) (n + 1) t (by simpa using h3) (by simpa using h4)
          omega
      have hfull : cnt f = f.length := full_iff.mp (by simpa [full] using hf)
      have h5 := nu_le sh (by omega) of
      have h6 : cnt (gr (S.filter fun o => o != s) R) ≤ (gr (S.filter fun o => o != s) R).length := List.length_filter_le _ _
      rw [full_iff]
      have h7 := gr_len (S.filter fun o => o != s) R
      have h8 := of.len
      unfold nu at h5
      omega
def goodL (S : List Int) (x : Int × Int) (R : List (Int × Int)) : List Int := S.filter fun s => tk x s && full (gr (S.filter fun o => o != s) R)
def fbody : Rho → Option (Fl × Rho) := seq (setS 5 (valK (pur (slc (bin ixD (getV 0) (cst (.int 1))) (intO (bin addD (getB 3) (cst (.int 1)))) noO))))
  (seq (setS 6 (valK (pur fun ρ => lstO ((cmp (getI 1) [7] (setR 7) (andB (fun ρ => truO ((mny (resO g_takes) (consA (getB 4) (consA (getB 7) nilA))) ρ)) (fun ρ => truO ((mny (resO g_feasible) (consA (mny (resO g_others_of) (consA (getB 1) (consA (getB 7) nilA))) (consA (getB 5) nilA))) ρ))) (getV 7)) ρ))))
    (seq (appS 2 (pur (bin ixD (getV 6) (cst (.int 0))))) (remS 1 (pur (bin ixD (getV 6) (cst (.int 0)))))))
section
open PySem PySem.Spec PyProof.Rows L2
theorem slD_tail (t : Bool) (xs : List D) (k : Nat) (hk : k < xs.length) : slD (.sq t xs) (some ((k : Int) + 1)) none = some (.sq t (xs.drop (k + 1))) := by
  have e1 : HT.sIx xs.length 0 (some ((k : Int) + 1)) = k + 1 := by
    rw [show ((k : Int) + 1) = ((k + 1 : Nat) : Int) by omega, HT.sIx_nat]
    omega
  have e2 : HT.sIx xs.length xs.length none = xs.length := HT.sIx_none ..
  show (if t = true ∧ HT.sIx xs.length 0 (some ((k : Int) + 1)) = 0 ∧ HT.sIx xs.length xs.length none = xs.length then none else some (D.sq t (DL.cutD xs (some ((k : Int) + 1)) none))) = _
  rw [if_neg (by rw [e1]; omega)]
  unfold DL.cutD
  rw [e1, e2]
  rw [List.take_of_length_le (by rw [List.length_drop]; omega)]
end
theorem firstIx_mem : ∀ (S : List Int) (s : Int), s ∈ S → S.Nodup → ∃ j, firstIx s S = some j ∧ S.eraseIdx j = S.filter fun o => o != s
  | [], s, h, _ => by cases h
  | x :: S, s, h, hn => by
    rw [List.nodup_cons] at hn
    by_cases e : x = s
    · subst e
      refine ⟨0, by rw [firstIx, if_pos rfl], ?_⟩
      rw [List.eraseIdx_cons_zero, List.filter_cons_of_neg (by simp), List.filter_eq_self.mpr]
      intro y hy
      simp
      rintro rfl
      exact hn.1 hy
    · rcases List.mem_cons.mp h with h | h
      · exact (e h.symm).elim
      · obtain ⟨j, h1, h2⟩ := firstIx_mem S s h hn.2
        refine ⟨j + 1, by rw [firstIx, if_neg e, h1], ?_⟩
        rw [List.eraseIdx_cons_succ, h2, List.filter_cons_of_pos (by simp [e])]
def fst0 (t : Bool) (S0 : List Int) (R0 : List (Int × Int)) (S : List Int) (F : List Int) (s3 s4 s5 s6 : Sl) : Rho := [.va (eS t S0 R0), .ow (S.map .int), .ow (F.map .int), s3, s4, s5, s6, .un]
theorem fbody_run (S0 : List Int) (R0 : List (Int × Int)) (S F : List Int) (x : Int × Int) (R : List (Int × Int)) (k : Nat) (hk : R0.drop k = x :: R) (s5 s6 : Sl) (h5 : s5 = .un ∧ s6 = .un ∨ ∃ d e, s5 = .va d ∧ s6 = .va e) (hS : S.Nodup) (hF : F.length < 1000) (g : Int) (G : List Int) (hg : goodL S x R = g :: G) :
    ∃ d e, fbody (fst0 true S0 R0 S F (.va (.int (k : Nat))) (.va (eP true x)) s5 s6) = some (.nx, fst0 true S0 R0 (S.filter fun o => o != g) (F ++ [g]) (.va (.int (k : Nat))) (.va (eP true x)) (.va d) (.va e)) := by
  have hkl : k < R0.length := by
    rcases Nat.lt_or_ge k R0.length with h | h
    · exact h
    · rw [List.drop_eq_nil_of_le h] at hk
      cases hk
  have hkt : R0.drop (k + 1) = R := by
    rw [← List.tail_drop, hk]
    rfl
  have hsl : slD (eR true true R0) (some ((k : Int) + 1)) none = some (eR true true R) := by
    unfold eR
    rw [slD_tail true _ k (by rw [List.length_map]; exact hkl), ← List.map_drop, hkt]
  have hgm : g ∈ S := by
    have : g ∈ goodL S x R := by rw [hg]; exact List.mem_cons_self
    exact (List.mem_filter.mp this).1
  obtain ⟨j, hj, hje⟩ := firstIx_mem S g hgm hS
  have c1 : ∀ s6, cmpGo (setR 7) (andB (fun ρ => truO ((mny (resO g_takes) (consA (getB 4) (consA (getB 7) nilA))) ρ)) (fun ρ => truO ((mny (resO g_feasible) (consA (mny (resO g_others_of) (consA (getB 1) (consA (getB 7) nilA))) (consA (getB 5) nilA))) ρ))) (getV 7)
      [.va (eS true S0 R0), .ow (S.map .int), .ow (F.map .int), .va (.int (k : Nat)), .va (eP true x), .va (eR true true R), s6, .un] (S.map .int) = some ((g :: G).map .int) := fun s6 => by
    rw [cmpGo_map (f := D.int) (p := fun s => tk x s && full (gr (S.filter fun o => o != s) R)) (h := D.int) S fun s _ => ⟨[.va (eS true S0 R0), .ow (S.map .int), .ow (F.map .int), .va (.int (k : Nat)), .va (eP true x), .va (eR true true R), s6, .va (.int s)], by simp, ?_, fun _ => by simp⟩]
    · rw [← hg]
      rfl
    · have ho : g_others_of [.sq false (S.map .int), .int s] = some (.val (eI false (S.filter fun o => o != s))) := L_others false S s
      simp [L_takes, ho, L_feasible, full]
      by_cases z : tk x s = true <;> simp [z]
  have hint : intsO (S.map D.int) = some S := intsO_map' S
  have her : (S.map D.int).eraseIdx j = (S.filter fun o => o != g).map D.int := by rw [← hje, eraseIdx_map']
  have hF' : F.length < 16777216 := by omega
  refine ⟨eR true true R, .sq false ((g :: G).map .int), ?_⟩
  rcases h5 with ⟨rfl, rfl⟩ | ⟨d, e, rfl, rfl⟩
  · simp [fbody, fst0, ix1_eS, hsl, c1, hF', hint, hj, her]
  · simp [fbody, fst0, ix1_eS, hsl, c1, hF', hint, hj, her]
def allS (a b c d : Sl) : Prop := (a = .un ∧ b = .un ∧ c = .un ∧ d = .un) ∨ ∃ p q r s, a = .va p ∧ b = .va q ∧ c = .va r ∧ d = .va s
theorem floop (S0 : List Int) (R0 : List (Int × Int)) : ∀ (R : List (Int × Int)) (k : Nat) (S F : List Int) (s3 s4 s5 s6 : Sl), R0.drop k = R → Shop S R → full (gr S R) = true → R.length < 80 → F.length + R.length < 1000 → allS s3 s4 s5 s6 →
    ∃ S' F' a b c d, forGo (sqG (consG (setR 3) (consG (setR 4) nilG))) fbody (fst0 true S0 R0 S F s3 s4 s5 s6) ((R.zipIdx k).map fun p => .sq true [.int (p.2 : Nat), eP true p.1]) = some (.nx, fst0 true S0 R0 S' F' a b c d)
  | [], k, S, F, s3, s4, s5, s6, _, _, _, _, _, _ => ⟨S, F, s3, s4, s5, s6, rfl⟩
  | x :: R, k, S, F, s3, s4, s5, s6, hk, h, hf, hR, hF, ha => by
    rw [List.length_cons] at hR hF
    obtain ⟨s, hs, ht, hfs⟩ := full_tail h (by omega) hf
    have hg : ∃ g G, goodL S x R = g :: G := by
      cases z : goodL S x R with
      | nil =>
        have : s ∈ goodL S x R := List.mem_filter.mpr ⟨hs, by rw [ht, hfs]; rfl⟩
        rw [z] at this
        cases this
      | cons g G => exact ⟨g, G, rfl⟩
    obtain ⟨g, G, hg⟩ := hg
    have hgm : g ∈ goodL S x R := by rw [hg]; exact List.mem_cons_self
    obtain ⟨_, h2⟩ := List.mem_filter.mp hgm
    rw [Bool.and_eq_true] at h2
    have h56 : s5 = .un ∧ s6 = .un ∨ ∃ d e, s5 = .va d ∧ s6 = .va e := by
      rcases ha with ⟨_, _, a, b⟩ | ⟨_, _, r, q, _, _, a, b⟩
      · exact .inl ⟨a, b⟩
      · exact .inr ⟨r, q, a, b⟩
    obtain ⟨d, e, hb⟩ := fbody_run S0 R0 S F x R k hk s5 s6 h56 h.nd (by omega) g G hg
    have hset : sqG (consG (setR 3) (consG (setR 4) nilG)) (.sq true [.int (k : Nat), eP true x]) (fst0 true S0 R0 S F s3 s4 s5 s6) = some (fst0 true S0 R0 S F (.va (.int (k : Nat))) (.va (eP true x)) s5 s6) := by
      rcases ha with ⟨rfl, rfl, rfl, rfl⟩ | ⟨p, q, r, s, rfl, rfl, rfl, rfl⟩ <;> simp [fst0]
    have hk2 : R0.drop (k + 1) = R := by
      rw [← List.tail_drop, hk]
      rfl
    obtain ⟨S', F', a, b, c, w, hl⟩ := floop S0 R0 R (k + 1) (S.filter fun o => o != g) (F ++ [g]) (.va (.int (k : Nat))) (.va (eP true x)) (.va d) (.va e) hk2 ⟨h.s.filter _, fun r hr => h.r r (List.mem_cons_of_mem _ hr)⟩ h2.2 (by omega) (by rw [List.length_append, List.length_singleton]; omega) (.inr ⟨_, _, _, _, rfl, rfl, rfl, rfl⟩)
    refine ⟨S', F', a, b, c, w, ?_⟩
    rw [List.zipIdx_cons, List.map_cons, forGo]
    simp only [hset, hb]
    exact hl
theorem L_first (S : List Int) (R : List (Int × Int)) (h : Shop S R) (hR : R.length < 80) (hf : full (gr S R) = true) : ∃ d, g_first_setting [eS true S R] = some (.val d) := by
  obtain ⟨S', F', a, b, c, d, hl⟩ := floop S R R 0 S [] .un .un .un .un rfl h hf hR (by simp; omega) (.inl ⟨rfl, rfl, rfl, rfl⟩)
  refine ⟨.sq true (F'.map .int), ?_⟩
  unfold fbody fst0 at hl
  simp [g_first_setting, b_first_setting, ix0_eS, ix1_eS, eI]
  simp only [List.map_nil] at hl
  simp only [enuD_map]
  rw [hl]
  simp
theorem L_verdict (S : List Int) (R : List (Int × Int)) (h : Shop S R) (hR : R.length < 80) : ∃ (z : PySem.Str) (ds : List D), g_verdict [eS true S R] = some (.val (.sq true (.str z :: ds))) ∧ (z == ("setting" : PySem.Str)) = decide (nu S R = R.length) := by
  have hl := gr_len S R
  by_cases hf : full (gr S R) = true
  · obtain ⟨d, hd⟩ := L_first S R h hR hf
    have hn : nu S R = R.length := by
      have := full_iff.mp hf
      unfold nu
      omega
    have hany : (gr S R).any Option.isNone = false := by simpa [full] using hf
    refine ⟨"setting", [d], ?_, by rw [decide_eq_true hn]; decide +kernel⟩
    simp [g_verdict, b_verdict, ix0_eS, ix1_eS, L_feasible, hany, hd]
  · have hn : nu S R ≠ R.length := fun z => hf (full_iff.mpr (by unfold nu at z; omega))
    have hany : (gr S R).any Option.isNone = true := by simpa [full] using hf
    obtain ⟨L, h1, h2, h3⟩ := L_shortages true S R (by omega)
    have t := told_of h.s h.r h2 h3
    obtain ⟨o, ho, hon⟩ := List.any_eq_true.mp hany
    obtain ⟨m, hm⟩ := List.mem_iff_getElem?.mp ho
    have hm' : (gr S R)[m]? = some none := by
      rw [hm]
      cases o with
      | none => rfl
      | some s => cases hon
    have hlt : m < R.length := by rw [← hl]; exact (List.getElem?_eq_some_iff.mp hm).1
    obtain ⟨J, hJ, _⟩ := t.cover m R[m] (List.getElem?_eq_getElem hlt) hm'
    cases hF : mrg (sortP L) with
    | nil => rw [hF] at hJ; cases hJ
    | cons K F =>
      rw [hF] at h1
      refine ⟨"overfull", [.int K.1, .int K.2], ?_, by rw [decide_eq_false hn]; decide +kernel⟩
      simp [g_verdict, b_verdict, ix0_eS, ix1_eS, L_feasible, hany, h1]
      simp [eP]
end K88

-- K88_S
namespace K88
open DL
open L2 (atI ixN)
open PySem (seqIndex?)
/-! the law's own draws -/
theorem mulD_r (i j : Int) (h : -18446744073709551616 < j ∧ j < 18446744073709551616) : mulD (.int i) (.int j) = some (.int (i * j)) := by
  unfold mulD
  rw [intD_ii, if_pos]
  exact decide_eq_true (.inr h)
theorem mulD_l (i j : Int) (h : -18446744073709551616 < i ∧ i < 18446744073709551616) : mulD (.int i) (.int j) = some (.int (i * j)) := by
  unfold mulD
  rw [intD_ii, if_pos]
  exact decide_eq_true (.inl h)
theorem modD_p (i j : Int) (h : 0 < j) : modD (.int i) (.int j) = some (.int (i % j)) := by
  unfold modD
  rw [intD_ii, if_pos]
  exact decide_eq_true h
theorem fdivD_p (i j : Int) (h : 0 < j ∧ j < 1073741824) : fdivD (.int i) (.int j) = some (.int (i / j)) := by
  unfold fdivD
  rw [intD_ii, if_pos]
  exact decide_eq_true h
/-- what is kept of tin: three ints, the first not below zero, the others small -/
def Tin (n : Int) (x : List D) : Prop := ∃ a b c : Int, x = [.int a, .int b, .int c] ∧ 0 ≤ a ∧ 0 ≤ b ∧ b < 4611686018427387904 ∧ 0 ≤ c ∧ c ≤ n
theorem L_take (n : Int) (x : List D) (h : Tin n x) (hn : n < 100000) (k : Int) (hk : 0 < k) (hk2 : k < 1000) : ∃ (d : Int) (x' : List D), g_law_take x [.int k] = some (.val (.int d), x') ∧ 0 ≤ d ∧ d < k ∧ Tin (n + 1) x' := by
  obtain ⟨a, b, c, rfl, ha, hb, hb2, hc, hcn⟩ := h
  by_cases h0 : 0 < a
  · refine ⟨a % k, [.int (a / k), .int b, .int c], ?_, Int.emod_nonneg _ (by omega), Int.emod_lt_of_pos _ hk, a / k, b, c, rfl, Int.ediv_nonneg ha (by omega), hb, hb2, hc, by omega⟩
    simp [g_law_take, b_law_take, h0, modD_p _ _ hk, fdivD_p _ _ ⟨hk, by omega⟩, ixN]
  · let o : Int := ((b + 48271 * (c + 1)) * (39373 + (c + 1))) % 2147483647
    let br : Int := o % 40009 + 7
    let tw : Int := ((o + (c + 1) + b / 1000003) * br) % 2147483629
    have ho : 0 ≤ o ∧ o < 2147483647 := ⟨Int.emod_nonneg _ (by decide), Int.emod_lt_of_pos _ (by decide)⟩
    have hbr : 7 ≤ br ∧ br < 40016 := by
      have h1 := Int.emod_nonneg o (show (40009 : Int) ≠ 0 by decide)
      have h2 := Int.emod_lt_of_pos o (show (0 : Int) < 40009 by decide)
      exact ⟨by show 7 ≤ o % 40009 + 7; omega, by show o % 40009 + 7 < 40016; omega⟩
    have m1 : mulD (.int 48271) (.int (c + 1)) = some (.int (48271 * (c + 1))) := mulD_l _ _ (by omega)
    have m2 : mulD (.int (b + 48271 * (c + 1))) (.int (39373 + (c + 1))) = some (.int ((b + 48271 * (c + 1)) * (39373 + (c + 1)))) := mulD_r _ _ (by omega)
    have m3 : mulD (.int (o + (c + 1) + b / 1000003)) (.int br) = some (.int ((o + (c + 1) + b / 1000003) * br)) := mulD_r _ _ (by omega)
    have m4 : mulD (.int tw) (.int 48271) = some (.int (tw * 48271)) := mulD_r _ _ (by omega)
    have q1 : ∀ i, modD (.int i) (.int 2147483647) = some (.int (i % 2147483647)) := fun i => modD_p _ _ (by decide)
    have q2 : ∀ i, modD (.int i) (.int 40009) = some (.int (i % 40009)) := fun i => modD_p _ _ (by decide)
    have q3 : ∀ i, modD (.int i) (.int 2147483629) = some (.int (i % 2147483629)) := fun i => modD_p _ _ (by decide)
    have q4 : ∀ i, modD (.int i) (.int 2147483587) = some (.int (i % 2147483587)) := fun i => modD_p _ _ (by decide)
    have f1 : fdivD (.int b) (.int 1000003) = some (.int (b / 1000003)) := fdivD_p _ _ (by decide)
    have f2 : ∀ i, fdivD (.int i) (.int 64) = some (.int (i / 64)) := fun i => fdivD_p _ _ (by decide)
    refine ⟨((tw * 48271 + o) % 2147483587 / 64) % k, [.int a, .int b, .int (c + 1)], ?_, Int.emod_nonneg _ (by omega), Int.emod_lt_of_pos _ hk, a, b, c + 1, rfl, ha, hb, hb2, by omega, by omega⟩
    have m3' := m3
    have m4' := m4
    simp only [tw, br, o] at m3' m4'
    simp [g_law_take, b_law_take, h0, modD_p _ _ hk, ixN, m1, m2, q1, q2, q3, q4, f1, f2, m3', m4', tw, br, o]
end K88

-- K88_T
namespace K88
open DL
open L2 (atI ixN)
open PySem (seqIndex?)
def pbody : Rho → Option (Fl × Rho) := appS 5 (popK 4 (resK (ioK 0 g_law_take (thenM (pur (fun ρ => flO ((mny lenD (consA (getB 4) nilA)) ρ))) nilM conK))))
def pst (x : List D) (g mo : D) (s3 : Sl) (L P : List Int) : Rho := [.io x, .va g, .va mo, s3, .ow (L.map .int), .ow (P.map .int)]
theorem seqIx {d : Int} {n : Nat} (h0 : 0 ≤ d) (h1 : d < n) : seqIndex? d n = some d.toNat := by
  unfold seqIndex?
  simp [Int.not_lt.mpr h0, h0, h1]
theorem cons_erase_perm : ∀ (l : List Int) (i : Nat) (h : i < l.length), (l[i] :: l.eraseIdx i).Perm l
  | [], i, h => by cases h
  | x :: l, 0, h => List.Perm.refl _
  | x :: l, i + 1, h => by
    have ih := cons_erase_perm l i (by simpa using h)
    have hi : i < l.length := by simpa using h
    rw [List.eraseIdx_cons_succ, List.getElem_cons_succ]
    exact (List.Perm.swap x (l[i]'hi) (l.eraseIdx i)).trans (ih.cons x)
theorem pick_step (n : Int) (x : List D) (h : Tin n x) (hn : n < 90000) (g mo : D) (i : Int) (L P : List Int) (hL : 0 < L.length) (hL2 : L.length < 900) (hP : P.length < 900) : ∃ (s : Int) (L' : List Int) (x' : List D), pbody (pst x g mo (.va (.int i)) L P) = some (.nx, pst x' g mo (.va (.int i)) L' (P ++ [s])) ∧ (s :: L').Perm L ∧ Tin (n + 1) x' := by
  obtain ⟨d, x', h1, h2, h3, h4⟩ := L_take n x h (by omega) (L.length : Int) (by omega) (by omega)
  have hd : d.toNat < L.length := by omega
  refine ⟨L[d.toNat], L.eraseIdx d.toNat, x', ?_, ?_, h4⟩
  · have e1 : seqIndex? d L.length = some d.toNat := seqIx h2 h3
    have e2 : decide (-(2 ^ 63) ≤ d ∧ d < 2 ^ 63) = true := decide_eq_true ⟨by omega, by omega⟩
    have e3 : P.length < 16777216 := by omega
    have e4 : (L.map D.int)[d.toNat]? = some (.int L[d.toNat]) := by rw [List.getElem?_map, List.getElem?_eq_getElem hd]; rfl
    have e5 : (L.map D.int).eraseIdx d.toNat = (L.eraseIdx d.toNat).map D.int := (eraseIdx_map' _ _ _).symm
    have e2' : (-9223372036854775808 ≤ d) ∧ d < 9223372036854775808 := by omega
    simp [pbody, pst, h1, e1, e2', e3, e4, e5]
  · exact cons_erase_perm L d.toNat hd
theorem pick_loop (g mo : D) : ∀ (k : Nat) (js : List Int) (n : Int) (x : List D) (s3 : Sl) (L P : List Int), js.length = k → Tin n x → n + k < 90000 → k ≤ L.length → L.length < 900 → P.length + k < 900 → (s3 = .un ∨ ∃ d, s3 = .va d) →
    ∃ (P' L' : List Int) (x' : List D) (s3' : Sl), forGo (setR 3) pbody (pst x g mo s3 L P) (js.map .int) = some (.nx, pst x' g mo s3' L' (P ++ P')) ∧ (P' ++ L').Perm L ∧ P'.length = k ∧ Tin (n + k) x'
  | 0, js, n, x, s3, L, P, hj, h, hn, hk, hL, hP, h3 => by
    have : js = [] := List.length_eq_zero_iff.mp hj
    subst this
    exact ⟨[], L, x, s3, by rw [List.append_nil]; rfl, List.Perm.refl _, rfl, by simpa using h⟩
  | k + 1, js, n, x, s3, L, P, hj, h, hn, hk, hL, hP, h3 => by
    cases js with
    | nil => cases hj
    | cons j js =>
      obtain ⟨s, L1, x1, a1, a2, a3⟩ := pick_step n x h (by omega) g mo j L P (by omega) hL (by omega)
      have hl1 : L1.length + 1 = L.length := by rw [← a2.length_eq, List.length_cons]
      obtain ⟨P', L', x', s3', b1, b2, b3, b4⟩ := pick_loop g mo k js (n + 1) x1 (.va (.int j)) L1 (P ++ [s]) (by simpa using hj) a3 (by omega) (by omega) (by omega) (by rw [List.length_append, List.length_singleton]; omega) (.inr ⟨_, rfl⟩)
      refine ⟨s :: P', L', x', s3', ?_, ?_, by rw [List.length_cons, b3], ?_⟩
      · have hs : setR 3 (.int j) (pst x g mo s3 L P) = some (pst x g mo (.va (.int j)) L P) := by
          rcases h3 with rfl | ⟨d, rfl⟩ <;> simp [pst]
        rw [List.map_cons, forGo]
        simp only [hs, a1]
        rw [b1]
        simp
      · exact ((b2.cons s).trans a2)
      · have : n + 1 + (k : Int) = n + ((k + 1 : Nat) : Int) := by omega
        rw [← this]
        exact b4
theorem L_pick (n : Int) (x : List D) (h : Tin n x) (hn : n < 80000) (t : Bool) (L : List Int) (hL : L.length < 400) (k : Nat) (hk : k ≤ L.length) : ∃ (P L' : List Int) (x' : List D), g_law_pick x [eI t L, .int (k : Int)] = some (.frs (P.map .int), x') ∧ (P ++ L').Perm L ∧ P.length = k ∧ Tin (n + k) x' := by
  obtain ⟨P, L', x', s3', b1, b2, b3, b4⟩ := pick_loop (eI t L) (.int (k : Int)) k ((List.range k).map fun i => ((0 : Int) + (i : Nat))) n x .un L [] (by simp) h (by omega) hk (by omega) (by simp; omega) (.inl rfl)
  refine ⟨P, L', x', ?_, b2, b3, b4⟩
  have hmin : (if (L.length : Int) < (k : Int) then (L.length : Int) else (k : Int)) = (k : Int) := by rw [if_neg (by omega)]
  have hr : rgOk 0 (k : Int) = true := by
    unfold rgOk
    simp
    omega
  have hrg : rgD 0 (k : Int) = ((List.range k).map fun i => ((0 : Int) + (i : Nat))).map .int := by
    unfold rgD
    rw [List.map_map]
    simp [Function.comp_def]
  unfold pbody pst at b1
  simp [g_law_pick, b_law_pick, eI]
  have hmin' : (if L.length < k then (L.length : Int) else (k : Int)) = (k : Int) := by rw [if_neg (by omega)]
  simp only [hmin', hr, hrg, if_true]
  rw [eI] at b1
  simp only [List.map_nil] at b1
  rw [b1]
  simp
end K88

-- K88_U
namespace K88
open DL
open L2 (atI ixN)
open PySem (seqIndex?)
def rbody : Rho → Option (Fl × Rho) := seq (setS 6 (valK (thenM (pur (cst (.int 1))) (resK (ioK 0 g_law_take (thenM (pur (cst (.int 8))) nilM conK))) addD)))
    (appS 4 (mapM (dspK true) (thenM (pur (getV 6)) (thenM (thenM (pur (getV 6)) (resK (ioK 0 g_law_take (thenM (pur (cst (.int 9))) nilM conK))) addD) nilM conK) conK)))
def rst (x : List D) (a b c : D) (R : List (Int × Int)) (s5 s6 : Sl) : Rho := [.io x, .va a, .va b, .va c, .ow (R.map (eP true)), s5, s6]
theorem shop_step (n : Int) (x : List D) (h : Tin n x) (hn : n < 80000) (a b c : D) (i : D) (R : List (Int × Int)) (s6 : Sl) (h6 : s6 = .un ∨ ∃ d, s6 = .va d) (hR : R.length < 900) : ∃ (r : Int × Int) (x' : List D) (e : D), rbody (rst x a b c R (.va i) s6) = some (.nx, rst x' a b c (R ++ [r]) (.va i) (.va e)) ∧ 1 ≤ r.1 ∧ r.1 ≤ r.2 ∧ Tin (n + 2) x' := by
  obtain ⟨d, x1, h1, h2, h3, h4⟩ := L_take n x h (by omega) 8 (by omega) (by omega)
  obtain ⟨d2, x2, g1, g2, g3, g4⟩ := L_take (n + 1) x1 h4 (by omega) 9 (by omega) (by omega)
  refine ⟨(1 + d, 1 + d + d2), x2, .int (1 + d), ?_, by show 1 ≤ 1 + d; omega, by show 1 + d ≤ 1 + d + d2; omega, by rw [show n + 2 = n + 1 + 1 by omega]; exact g4⟩
  have hR' : R.length < 16777216 := by omega
  rcases h6 with rfl | ⟨d', rfl⟩ <;> simp [rbody, rst, h1, g1, hR', eP]
theorem shop_loop (a b c : D) : ∀ (k : Nat) (js : List Int) (n : Int) (x : List D) (R : List (Int × Int)) (s5 s6 : Sl), js.length = k → Tin n x → n + 2 * k < 80000 → R.length + k < 900 → (s5 = .un ∧ s6 = .un ∨ ∃ d e, s5 = .va d ∧ s6 = .va e) →
    ∃ (R' : List (Int × Int)) (x' : List D) (s5' s6' : Sl), forGo (setR 5) rbody (rst x a b c R s5 s6) (js.map .int) = some (.nx, rst x' a b c (R ++ R') s5' s6') ∧ R'.length = k ∧ (∀ r ∈ R', 1 ≤ r.1 ∧ r.1 ≤ r.2) ∧ Tin (n + 2 * k) x'
  | 0, js, n, x, R, s5, s6, hj, h, hn, hR, h56 => by
    have : js = [] := List.length_eq_zero_iff.mp hj
    subst this
    exact ⟨[], x, s5, s6, by rw [List.append_nil]; rfl, rfl, fun r hr => (by cases hr), by simpa using h⟩
  | k + 1, js, n, x, R, s5, s6, hj, h, hn, hR, h56 => by
    cases js with
    | nil => cases hj
    | cons j js =>
      have h6 : s6 = .un ∨ ∃ d, s6 = .va d := by
        rcases h56 with ⟨_, h⟩ | ⟨_, e, _, h⟩
        · exact .inl h
        · exact .inr ⟨e, h⟩
      obtain ⟨r, x1, e, a1, a2, a3, a4⟩ := shop_step n x h (by omega) a b c (.int j) R s6 h6 (by omega)
      obtain ⟨R', x', s5', s6', b1, b2, b3, b4⟩ := shop_loop a b c k js (n + 2) x1 (R ++ [r]) (.va (.int j)) (.va e) (by simpa using hj) a4 (by omega) (by rw [List.length_append, List.length_singleton]; omega) (.inr ⟨_, _, rfl, rfl⟩)
      refine ⟨r :: R', x', s5', s6', ?_, by rw [List.length_cons, b2], fun q hq => ?_, ?_⟩
      · have hs : setR 5 (.int j) (rst x a b c R s5 s6) = some (rst x a b c R (.va (.int j)) s6) := by
          rcases h56 with ⟨rfl, rfl⟩ | ⟨d, e, rfl, rfl⟩ <;> simp [rst]
        rw [List.map_cons, forGo]
        simp only [hs, a1]
        rw [b1]
        simp
      · rcases List.mem_cons.mp hq with rfl | hq
        · exact ⟨a2, a3⟩
        · exact b3 q hq
      · have : n + 2 + 2 * (k : Int) = n + 2 * ((k + 1 : Nat) : Int) := by omega
        rw [← this]
        exact b4
theorem rgD_js (m : Nat) : ∃ js : List Int, js.length = m ∧ rgD 0 (m : Int) = js.map .int := by
  refine ⟨(List.range m).map fun i => ((0 : Int) + (i : Nat)), by simp, ?_⟩
  unfold rgD
  rw [List.map_map]
  simp [Function.comp_def]
def eleven : List Int := [1, 2, 3, 4, 5, 6, 7, 8, 9, 10, 11]
/-- a drawn shop -/
structure Drawn (S : List Int) (R : List (Int × Int)) : Prop where
  shop : Shop S R
  sub : ∀ s ∈ S, s ∈ eleven
  len : S.length ≤ 6
  rlen : R.length ≤ 6
theorem L_shop (n : Int) (x : List D) (h : Tin n x) (hn : n < 10000) : ∃ (S : List Int) (R : List (Int × Int)) (x' : List D), g_law_shop x [.int 6, .int 6] = some (.val (eS true S R), x') ∧ Drawn S R ∧ Tin (n + 40) x' := by
  obtain ⟨d, x1, h1, h2, h3, h4⟩ := L_take n x h (by omega) 5 (by omega) (by omega)
  have hd : ∃ k : Nat, (k : Int) = 2 + d ∧ k ≤ 6 := ⟨(2 + d).toNat, by omega, by omega⟩
  obtain ⟨k, hk, hk6⟩ := hd
  obtain ⟨P, L', x2, p1, p2, p3, p4⟩ := L_pick (n + 1) x1 h4 (by omega) false eleven (by decide) k (by show k ≤ 11; omega)
  obtain ⟨e, x3, e1, e2, e3, e4⟩ := L_take (n + 1 + k) x2 p4 (by omega) 6 (by omega) (by omega)
  obtain ⟨m, hm, hm6⟩ : ∃ m : Nat, (m : Int) = 1 + e ∧ m ≤ 6 := ⟨(1 + e).toNat, by omega, by omega⟩
  obtain ⟨js, hjl, hrg⟩ := rgD_js m
  obtain ⟨R, x4, s5, s6, r1, r2, r3, r4⟩ := shop_loop (.int 6) (.int 6) (.sq false ((sortI P).map .int)) m js (n + 1 + k + 1) x3 [] .un .un hjl e4 (by omega) (by simp; omega) (.inl ⟨rfl, rfl⟩)
  have hPn : P.Nodup := (List.nodup_append.mp (p2.nodup_iff.mpr (by decide))).1
  have hPs : ∀ s ∈ P, s ∈ eleven := fun s hs => p2.mem_iff.mp (List.mem_append_left _ hs)
  have hsl : (sortI P).length = P.length := by unfold sortI; rw [List.length_mergeSort]
  refine ⟨sortI P, R, x4, ?_, ⟨⟨sortI_pw P hPn, fun r hr => (r3 r hr).2⟩, fun s hs => hPs s ((List.mergeSort_perm P _).mem_iff.mp hs), by omega, by omega⟩, ?_⟩
  · have hr : rgOk 0 (m : Int) = true := by
      unfold rgOk
      simp
      omega
    have h11 : rgD 1 12 = eleven.map .int := rfl
    have hr11 : rgOk 1 12 = true := rfl
    unfold rbody rst at r1
    rw [eI] at p1
    rw [hk] at p1
    simp only [List.map_nil, List.nil_append] at r1
    simp [g_law_shop, b_law_shop, h1, hr11, h11, p1, sortD_int, e1, ← hm, hr, hrg]
    rw [r1]
    simp [eS, eI, eR]
  · obtain ⟨a, b, c, rfl, t1, t2, t3, t4, t5⟩ := r4
    exact ⟨a, b, c, rfl, t1, t2, t3, t4, by omega⟩
end K88

-- K88_V
namespace K88
open DL
open L2 (atI ixN)
open PySem (seqIndex?)
theorem cutD_map (ns : List Int) (lo hi : Option Int) : ∃ ms : List Int, cutD (ns.map D.int) lo hi = ms.map D.int ∧ ms.length ≤ ns.length := by
  unfold cutD
  refine ⟨(ns.drop _).take _, by rw [List.map_take, List.map_drop], ?_⟩
  rw [List.length_take, List.length_drop]
  omega
def clbody : Rho → Option (Fl × Rho) := seq (setS 5 (valK (pur (bin modD (mny intC (consA (getV 3) nilA)) (getV 1)))))
    (itemS 2 (pur (bin addD (ixB 2 (getB 5)) (bin mulD (getV 4) (bin addD (getV 3) (cst (.int 2)))))) (pur (getV 5)))
theorem cells_loop (sc : D) : ∀ (ms : List Int) (k : Nat) (c : Int) (C : List Int) (s3 s4 s5 : Sl), k + ms.length < 1000 → (s3 = .un ∧ s4 = .un ∧ s5 = .un ∨ ∃ a b d, s3 = .va a ∧ s4 = .va b ∧ s5 = .va d) →
    ∃ (c' : Int) (s3' s4' s5' : Sl), forGo (sqG (consG (setR 3) (consG (setR 4) nilG))) clbody [.va sc, .va (.int 1), .ow ((c :: C).map .int), s3, s4, s5] ((ms.zipIdx k).map fun p => .sq true [.int (p.2 : Nat), .int p.1]) = some (.nx, [.va sc, .va (.int 1), .ow ((c' :: C).map .int), s3', s4', s5'])
  | [], k, c, C, s3, s4, s5, _, _ => ⟨c, s3, s4, s5, rfl⟩
  | x :: ms, k, c, C, s3, s4, s5, hk, h => by
    rw [List.length_cons] at hk
    have hm : mulD (.int x) (.int ((k : Int) + 2)) = some (.int (x * ((k : Int) + 2))) := mulD_r _ _ (by omega)
    have hmod : modD (.int (k : Int)) (.int 1) = some (.int 0) := by rw [modD_p _ _ (by decide), Int.emod_one]
    obtain ⟨c', a', b', d', ih⟩ := cells_loop sc ms (k + 1) (c + x * ((k : Int) + 2)) C (.va (.int (k : Nat))) (.va (.int x)) (.va (.int 0)) (by omega) (.inr ⟨_, _, _, rfl, rfl, rfl⟩)
    refine ⟨c', a', b', d', ?_⟩
    show forGo _ _ _ (D.sq true [.int (k : Nat), .int x] :: ((ms.zipIdx (k + 1)).map fun p => .sq true [.int (p.2 : Nat), .int p.1])) = _
    rw [forGo]
    have hg : sqG (consG (setR 3) (consG (setR 4) nilG)) (.sq true [.int (k : Nat), .int x]) [.va sc, .va (.int 1), .ow ((c :: C).map .int), s3, s4, s5] = some [.va sc, .va (.int 1), .ow ((c :: C).map .int), .va (.int (k : Nat)), .va (.int x), s5] := by
      rcases h with ⟨rfl, rfl, rfl⟩ | ⟨a, b, d, rfl, rfl, rfl⟩ <;> simp
    have hb : clbody [.va sc, .va (.int 1), .ow ((c :: C).map .int), .va (.int (k : Nat)), .va (.int x), s5] = some (.nx, [.va sc, .va (.int 1), .ow (((c + x * ((k : Int) + 2)) :: C).map .int), .va (.int (k : Nat)), .va (.int x), .va (.int 0)]) := by
      rcases h with ⟨_, _, rfl⟩ | ⟨a, b, d, _, _, rfl⟩ <;> simp [clbody, hm, hmod, ixN]
    simp only [hg, hb]
    exact ih
theorem L_cells (ns : List Int) (h : ns.length ≤ 63) : ∃ (c : Int) (C : List Int), g_law_cells [.sq false (ns.map .int), .int 1] = some (.frs ((c :: C).map .int)) := by
  obtain ⟨m1, e1, l1⟩ := cutD_map ns none (some 1)
  obtain ⟨m2, e2, l2⟩ := cutD_map ns (some 1) (some 63)
  have hc : ∃ (c : Int) (C : List Int), orL (fun ρ => sqO (slc (getV 0) noO (intO (getB 1)) ρ)) (dspL (consA (cst (.int 0)) nilA)) [.va (.sq false (ns.map .int)), .va (.int 1), .un, .un, .un, .un] = some ((c :: C).map .int) := by
    cases m1 with
    | nil => exact ⟨0, [], by simp [e1]⟩
    | cons c C => exact ⟨c, C, by simp [e1]⟩
  obtain ⟨c, C, hc⟩ := hc
  obtain ⟨c', a, b, d, hl⟩ := cells_loop (.sq false (ns.map .int)) m2 0 c C .un .un .un (by omega) (.inl ⟨rfl, rfl, rfl⟩)
  refine ⟨c', C, ?_⟩
  unfold clbody at hl
  simp only [List.map_cons] at hl hc
  simp [g_law_cells, b_law_cells, hc, -orL_ev, e2, enuD_map, hl]
theorem L_box (c : Int) (C : List Int) : ∃ x, g_law_box [.sq false ((c :: C).map .int), .int 0] = some (.frs x) ∧ Tin 0 x := by
  let a : Int := if c < 0 then -c else c
  have ha : 0 ≤ a := by show 0 ≤ (if c < 0 then -c else c); split <;> omega
  let q : Int := if decide ((1000000000000000000 : Int) ≤ a) = true then 1 else 0
  have hq : q = 0 ∨ q = 1 := by
    simp only [q]
    split
    · exact .inr rfl
    · exact .inl rfl
  have hm : mulD (.int a) (.int q) = some (.int (a * q)) := mulD_r _ _ (by omega)
  have hmod : ∀ i, modD (.int i) (.int 2305843009213693951) = some (.int (i % 2305843009213693951)) := fun i => modD_p _ _ (by decide)
  have h0 : mulD (.int 39373) (.int 0) = some (.int 0) := mulD_l _ _ (by decide)
  have hp : powD (.int 10) (.int 18) = some (.int 1000000000000000000) := by
    unfold powD
    rw [intD_ii, if_pos (by decide)]
    rfl
  have h1 := Int.emod_nonneg c (show (2305843009213693951 : Int) ≠ 0 by decide)
  have h2 := Int.emod_lt_of_pos c (show (0 : Int) < 2305843009213693951 by decide)
  refine ⟨[.int (a * q), .int (c % 2305843009213693951 + 0 + 365477), .int 0], ?_, a * q, c % 2305843009213693951 + 0 + 365477, 0, rfl, ?_, by omega, by omega, by omega, by omega⟩
  · simp only [a, q] at hm
    simp [g_law_box, b_law_box, hmod, h0, hp, hm, a, q]
    simp only [decide_eq_true_eq] at hm
    rw [hm]
    simp
  · rcases hq with h | h
    · rw [h]; simp
    · rw [h]; simpa using ha
/-! lists of the parts -/
theorem lists_int (n : Nat) (i : Int) : g_law_lists (n + 1) [.int i] = some (.val (.int i)) := by
  simp [g_law_lists, b_law_lists]
theorem lists_sq (n : Nat) (t : Bool) {α : Type} (f h : α → D) (L : List α) (hh : ∀ x ∈ L, g_law_lists n [f x] = some (.val (h x))) : g_law_lists (n + 1) [.sq t (L.map f)] = some (.val (.sq false (L.map h))) := by
  have key : ∀ s, cmpGo (setR 1) yesB (mny (resO (g_law_lists n)) (consA (getV 1) nilA)) [.va (.sq t (L.map f)), s] (L.map f) = some (L.map h) ∨ s ≠ .un := fun s => by
    by_cases hs : s = .un
    · subst hs
      left
      exact cmpGo_mapT (f := f) (h := h) L fun x hx => ⟨[.va (.sq t (L.map f)), .va (f x)], by simp, rfl, by simp [hh x hx]⟩
    · exact .inr hs
  have k := (key .un).resolve_right (fun z => z rfl)
  cases t <;> simp [g_law_lists, b_law_lists, k]
theorem L_lists (S : List Int) (R : List (Int × Int)) : g_law_lists 5 [eS true S R] = some (.val (eS false S R)) := by
  have h1 : g_law_lists 4 [eI true S] = some (.val (eI false S)) := lists_sq 3 true D.int D.int S fun x _ => lists_int 2 x
  have h3 : ∀ r : Int × Int, g_law_lists 3 [eP true r] = some (.val (eP false r)) := fun r => by
    have := lists_sq 2 true D.int D.int [r.1, r.2] fun x _ => lists_int 1 x
    exact this
  have h2 : g_law_lists 4 [eR true true R] = some (.val (eR false false R)) := lists_sq 3 true (eP true) (eP false) R fun r _ => h3 r
  have := lists_sq 4 true (fun b : Bool => if b = true then eI true S else eR true true R) (fun b : Bool => if b = true then eI false S else eR false false R) [true, false] (fun b _ => by cases b <;> simp [h1, h2])
  simpa [eS] using this
theorem same_bl (n : Nat) : g_law_same (n + 1) [.bl true, .bl true] = some (.val (.bl true)) := by
  simp [g_law_same, b_law_same]
theorem same_int (n : Nat) (i : Int) : g_law_same (n + 1) [.int i, .int i] = some (.val (.bl true)) := by
  simp [g_law_same, b_law_same]
theorem L_same (i : Int) : g_law_same 5 [.sq false [.bl true, .int i, .bl true], .sq false [.bl true, .int i, .bl true]] = some (.val (.bl true)) := by
  have h1 := same_bl 3
  have h2 := same_int 3 i
  have e : g_law_same 5 = gG 2 4 (b_law_same (g_law_same 4)) := rfl
  rw [e]
  generalize g_law_same 4 = g at h1 h2 ⊢
  simp [b_law_same, cmpGo, h1, h2]
  rfl
end K88

-- K88_L
namespace K88
open DL
/-! the law's statements, one by one -/
def ls0 : Rho → Option (Fl × Rho) := (setS 1 (mapM g_law_box (thenM (pur (mny (resO g_law_cells) (consA (getV 0) (consA (cst (.int 1)) nilA)))) (thenM (pur (cst (.int 0))) nilM conK) conK)))
def ls1 : Rho → Option (Fl × Rho) := (setS 2 (valK (resK (ioK 1 g_law_shop (thenM (pur (cst (.int 6))) (thenM (pur (cst (.int 6))) nilM conK) conK)))))
def ls2 : Rho → Option (Fl × Rho) := (setS 3 (valK (ifM (mapM blD (thenM (resK (ioK 1 g_law_take (thenM (pur (cst (.int 2))) nilM conK))) (pur (cst (.int 0))) eqD)) (pur (mny (resO (g_law_lists 5)) (consA (getV 2) nilA))) (pur (getV 2)))))
def ls3 : Rho → Option (Fl × Rho) := (asgS (pur (dsp true (consA (mny (resO g_most_served) (consA (getV 3) nilA)) (consA (mny lenD (consA (bin ixD (getV 2) (cst (.int 1))) nilA)) nilA)))) (sqG (consG (setR 11) (consG (setR 12) nilG))))
def ls4 : Rho → Option (Fl × Rho) := (parS 13 14 (valK (pur (mny (resO g_service) (consA (getV 3) nilA)))) (valK (pur (mny (resO g_shortages) (consA (getV 3) nilA)))))
def ls5 : Rho → Option (Fl × Rho) := (ifS (pur (notB (fun ρ => truO ((mny (resO (g_law_same 5)) (consA (dsp false (consA (mny (resO g_shows_service) (consA (getB 2) (consA (getB 13) nilA))) (consA (mny lenD (consA (fun ρ => lstO ((cmp (fun ρ => sqO ((getV 13) ρ)) [28] (setR 28) (fun ρ => boolD ((bin isnN (getB 28) (cst .non)) ρ)) (cst (.int 1))) ρ)) nilA)) (consA (mny (resO g_shows_shortages) (consA (getB 2) (consA (bin subD (getB 12) (getB 11)) (consA (getB 14) nilA)))) nilA)))) (consA (dsp false (consA (cst (.bl true)) (consA (getB 11) (consA (cst (.bl true)) nilA)))) nilA))) ρ)))) (retS (valK (pur (cst (.bl false))))) skip)
def ls6 : Rho → Option (Fl × Rho) := (ifS (pur (orB (fun ρ => boolD ((bin isnN (mny (resO g_shows_shortages) (consA (getB 2) (consA (bin addD (bin subD (getB 12) (getB 11)) (cst (.int 1))) (consA (getB 14) nilA)))) (cst (.bl false))) ρ)) (fun ρ => boolD ((bin neD (bin eqD (bin ixD (mny (resO g_verdict) (consA (getB 2) nilA)) (cst (.int 0))) (cst (.str "setting"))) (bin eqD (getB 11) (getB 12))) ρ)))) (retS (valK (pur (cst (.bl false))))) skip)
def ls7 : Rho → Option (Fl × Rho) := (asgS (resK (ioK 1 g_law_pick (thenM (pur (fun ρ => lstO ((cmp (rgF (rg2 (cst (.int 1)) (cst (.int 15)))) [27] (setR 27) (fun ρ => boolD ((bin ninD (getB 27) (bin ixD (getB 2) (cst (.int 0)))) ρ)) (getV 27)) ρ))) (thenM (pur (cst (.int 2))) nilM conK) conK))) (sqG (consG (setR 15) (consG (setR 16) nilG))))
def ls8 : Rho → Option (Fl × Rho) := (parS 17 18 (valK (pur (mny (resO g_with_spindle) (consA (getV 2) (consA (getV 15) nilA))))) (valK (pur (mny (resO g_with_spindle) (consA (getV 3) (consA (getV 16) nilA))))))
def ls9 : Rho → Option (Fl × Rho) := (setS 4 (valK (pur (mny (resO g_with_spindle) (consA (getV 17) (consA (getV 16) nilA))))))
def ls10 : Rho → Option (Fl × Rho) := (setS 5 (valK (pur (dsp false (consA (mny (resO g_most_served) (consA (getV 17) nilA)) (consA (mny (resO g_most_served) (consA (getV 18) nilA)) (consA (mny (resO g_most_served) (consA (getV 4) nilA)) nilA)))))))
def ls11 : Rho → Option (Fl × Rho) := (ifS (pur (orB (fun ρ => boolD ((bin neD (fun ρ => lstO ((cmp (fun ρ => sqO ((slc (getV 5) noO (intO (cst (.int 2)))) ρ)) [28] (setR 28) (fun ρ => boolD ((bin ninD (getB 28) (dsp true (consA (getB 11) (consA (bin addD (getB 11) (cst (.int 1))) nilA)))) ρ)) (cst (.int 1))) ρ)) (dsp false nilA)) ρ)) (notB (fun ρ => boolD ((chn leD leD (mny maxD (consA (slc (getB 5) noO (intO (cst (.int 2)))) nilA)) (bin ixD (getB 5) (cst (.int 2))) (bin subD (bin addD (bin ixD (getB 5) (cst (.int 0))) (bin ixD (getB 5) (cst (.int 1)))) (getB 11))) ρ))))) (retS (valK (pur (cst (.bl false))))) skip)
def ls12 : Rho → Option (Fl × Rho) := (parS 19 20 (valK (thenM (pur (cst (.int 1))) (resK (ioK 1 g_law_take (thenM (pur (cst (.int 9))) nilM conK))) addD)) (valK (thenM (pur (cst (.int 1))) (resK (ioK 1 g_law_take (thenM (pur (cst (.int 9))) nilM conK))) addD)))
def ls13 : Rho → Option (Fl × Rho) := (setS 6 (valK (resK (mapM frsM (thenM (mapM (dspK true) (thenM (pur (getV 19)) (thenM (thenM (pur (getV 19)) (resK (ioK 1 g_law_take (thenM (pur (cst (.int 5))) nilM conK))) addD) nilM conK) conK)) (thenM (mapM (dspK true) (thenM (pur (getV 20)) (thenM (thenM (pur (getV 20)) (resK (ioK 1 g_law_take (thenM (pur (cst (.int 5))) nilM conK))) addD) nilM conK) conK)) nilM conK) conK)))))
def ls14 : Rho → Option (Fl × Rho) := (parS 21 22 (valK (pur (mny (resO g_with_machine) (consA (getV 2) (consA (bin ixD (bin ixD (getV 6) (cst (.int 0))) (cst (.int 0))) (consA (bin ixD (bin ixD (getV 6) (cst (.int 0))) (cst (.int 1))) nilA)))))) (valK (pur (mny (resO g_with_machine) (consA (getV 2) (consA (bin ixD (bin ixD (getV 6) (cst (.int 1))) (cst (.int 0))) (consA (bin ixD (bin ixD (getV 6) (cst (.int 1))) (cst (.int 1))) nilA)))))))
def ls15 : Rho → Option (Fl × Rho) := (setS 7 (valK (pur (mny (resO g_with_machine) (consA (getV 21) (consA (bin ixD (bin ixD (getV 6) (cst (.int 1))) (cst (.int 0))) (consA (bin ixD (bin ixD (getV 6) (cst (.int 1))) (cst (.int 1))) nilA)))))))
def ls16 : Rho → Option (Fl × Rho) := (setS 8 (valK (pur (dsp false (consA (mny (resO g_most_served) (consA (getV 21) nilA)) (consA (mny (resO g_most_served) (consA (getV 22) nilA)) (consA (mny (resO g_most_served) (consA (getV 7) nilA)) nilA)))))))
def ls17 : Rho → Option (Fl × Rho) := (ifS (pur (orB (fun ρ => boolD ((bin neD (fun ρ => lstO ((cmp (fun ρ => sqO ((slc (getV 8) noO (intO (cst (.int 2)))) ρ)) [28] (setR 28) (fun ρ => boolD ((bin ninD (getB 28) (dsp true (consA (getB 11) (consA (bin addD (getB 11) (cst (.int 1))) nilA)))) ρ)) (cst (.int 1))) ρ)) (dsp false nilA)) ρ)) (notB (fun ρ => boolD ((chn leD leD (mny maxD (consA (slc (getB 8) noO (intO (cst (.int 2)))) nilA)) (bin ixD (getB 8) (cst (.int 2))) (bin subD (bin addD (bin ixD (getB 8) (cst (.int 0))) (bin ixD (getB 8) (cst (.int 1)))) (getB 11))) ρ))))) (retS (valK (pur (cst (.bl false))))) skip)
def ls18 : Rho → Option (Fl × Rho) := (setS 9 (valK (pur (mny (resO g_with_machine) (consA (getV 17) (consA (getV 15) (consA (getV 15) nilA)))))))
def ls19 : Rho → Option (Fl × Rho) := (ifS (pur (fun ρ => boolD ((bin neD (mny (resO g_most_served) (consA (getB 9) nilA)) (bin addD (getB 11) (cst (.int 1)))) ρ))) (retS (valK (pur (cst (.bl false))))) skip)
def ls20 : Rho → Option (Fl × Rho) := (setS 10 (valK (pur (bin neD (fun ρ => lstO ((cmp (fun ρ => sqO ((getV 14) ρ)) [23, 24] (sqG (consG (setR 23) (consG (setR 24) nilG))) (fun ρ => boolD ((chn leD leD (getB 23) (getB 15) (getB 24)) ρ)) (cst (.int 1))) ρ)) (dsp false nilA)))))
def ls21 : Rho → Option (Fl × Rho) := (ifS (pur (andB (notB (fun ρ => truO ((getB 10) ρ))) (orB (fun ρ => boolD ((bin neD (bin ixD (getB 5) (cst (.int 0))) (getB 11)) ρ)) (notB (fun ρ => truO ((mny (resO g_shows_shortages) (consA (getB 17) (consA (bin subD (getB 12) (getB 11)) (consA (getB 14) nilA)))) ρ)))))) (retS (valK (pur (cst (.bl false))))) skip)
def ls22 : Rho → Option (Fl × Rho) := (forS (pur (fun ρ => sqO ((getV 14) ρ))) (sqG (consG (setR 23) (consG (setR 24) nilG))) (seq (setS 25 (valK (pur (bin subD (mny lenD (consA (fun ρ => lstO ((cmp (fun ρ => sqO ((bin ixD (getV 2) (cst (.int 1))) ρ)) [28] (setR 28) (andB (fun ρ => boolD ((bin leD (getB 23) (bin ixD (getB 28) (cst (.int 0)))) ρ)) (fun ρ => boolD ((bin leD (bin ixD (getB 28) (cst (.int 1))) (getB 24)) ρ))) (cst (.int 1))) ρ)) nilA)) (mny lenD (consA (fun ρ => lstO ((cmp (fun ρ => sqO ((bin ixD (getV 2) (cst (.int 0))) ρ)) [27] (setR 27) (fun ρ => boolD ((chn leD leD (getB 23) (getB 27) (getB 24)) ρ)) (cst (.int 1))) ρ)) nilA))))))
    (seq (ifS (pur (fun ρ => boolD ((bin neD (mny (resO g_shows_overfull) (consA (getB 2) (consA (dsp true (consA (getB 23) (consA (getB 24) nilA))) nilA))) (bin gtD (getB 25) (cst (.int 0)))) ρ))) (retS (valK (pur (cst (.bl false))))) skip)
    (ifS (pur (andB (fun ρ => boolD ((bin geD (getB 23) (cst (.int 1))) ρ)) (fun ρ => boolD ((bin ltD (getB 24) (cst (.int 1000))) ρ)))) (seq (setS 26 (valK (pur (mny (resO g_with_machine) (consA (getV 2) (consA (getV 23) (consA (getV 24) nilA)))))))
    (ifS (pur (orB (fun ρ => boolD ((bin neD (mny (resO g_most_served) (consA (getB 26) nilA)) (getB 11)) ρ)) (notB (fun ρ => truO ((mny (resO g_shows_shortages) (consA (getB 26) (consA (bin addD (bin subD (getB 12) (getB 11)) (cst (.int 1))) (consA (getB 14) nilA)))) ρ))))) (retS (valK (pur (cst (.bl false))))) skip)) skip))))
def ls23 : Rho → Option (Fl × Rho) := (retS (valK (pur (cst (.bl true)))))
def lt23 : Rho → Option (Fl × Rho) := ls23
def lt22 : Rho → Option (Fl × Rho) := seq ls22 lt23
def lt21 : Rho → Option (Fl × Rho) := seq ls21 lt22
def lt20 : Rho → Option (Fl × Rho) := seq ls20 lt21
def lt19 : Rho → Option (Fl × Rho) := seq ls19 lt20
def lt18 : Rho → Option (Fl × Rho) := seq ls18 lt19
def lt17 : Rho → Option (Fl × Rho) := seq ls17 lt18
def lt16 : Rho → Option (Fl × Rho) := seq ls16 lt17
def lt15 : Rho → Option (Fl × Rho) := seq ls15 lt16
def lt14 : Rho → Option (Fl × Rho) := seq ls14 lt15
def lt13 : Rho → Option (Fl × Rho) := seq ls13 lt14
def lt12 : Rho → Option (Fl × Rho) := seq ls12 lt13
def lt11 : Rho → Option (Fl × Rho) := seq ls11 lt12
def lt10 : Rho → Option (Fl × Rho) := seq ls10 lt11
def lt9 : Rho → Option (Fl × Rho) := seq ls9 lt10
def lt8 : Rho → Option (Fl × Rho) := seq ls8 lt9
def lt7 : Rho → Option (Fl × Rho) := seq ls7 lt8
def lt6 : Rho → Option (Fl × Rho) := seq ls6 lt7
def lt5 : Rho → Option (Fl × Rho) := seq ls5 lt6
def lt4 : Rho → Option (Fl × Rho) := seq ls4 lt5
def lt3 : Rho → Option (Fl × Rho) := seq ls3 lt4
def lt2 : Rho → Option (Fl × Rho) := seq ls2 lt3
def lt1 : Rho → Option (Fl × Rho) := seq ls1 lt2
def lt0 : Rho → Option (Fl × Rho) := seq ls0 lt1
def lbody : Rho → Option (Fl × Rho) := (seq (setS 25 (valK (pur (bin subD (mny lenD (consA (fun ρ => lstO ((cmp (fun ρ => sqO ((bin ixD (getV 2) (cst (.int 1))) ρ)) [28] (setR 28) (andB (fun ρ => boolD ((bin leD (getB 23) (bin ixD (getB 28) (cst (.int 0)))) ρ)) (fun ρ => boolD ((bin leD (bin ixD (getB 28) (cst (.int 1))) (getB 24)) ρ))) (cst (.int 1))) ρ)) nilA)) (mny lenD (consA (fun ρ => lstO ((cmp (fun ρ => sqO ((bin ixD (getV 2) (cst (.int 0))) ρ)) [27] (setR 27) (fun ρ => boolD ((chn leD leD (getB 23) (getB 27) (getB 24)) ρ)) (cst (.int 1))) ρ)) nilA))))))
    (seq (ifS (pur (fun ρ => boolD ((bin neD (mny (resO g_shows_overfull) (consA (getB 2) (consA (dsp true (consA (getB 23) (consA (getB 24) nilA))) nilA))) (bin gtD (getB 25) (cst (.int 0)))) ρ))) (retS (valK (pur (cst (.bl false))))) skip)
    (ifS (pur (andB (fun ρ => boolD ((bin geD (getB 23) (cst (.int 1))) ρ)) (fun ρ => boolD ((bin ltD (getB 24) (cst (.int 1000))) ρ)))) (seq (setS 26 (valK (pur (mny (resO g_with_machine) (consA (getV 2) (consA (getV 23) (consA (getV 24) nilA)))))))
    (ifS (pur (orB (fun ρ => boolD ((bin neD (mny (resO g_most_served) (consA (getB 26) nilA)) (getB 11)) ρ)) (notB (fun ρ => truO ((mny (resO g_shows_shortages) (consA (getB 26) (consA (bin addD (bin subD (getB 12) (getB 11)) (cst (.int 1))) (consA (getB 14) nilA)))) ρ))))) (retS (valK (pur (cst (.bl false))))) skip)) skip)))
theorem ls22_eq : ls22 = forS (pur (fun ρ => sqO ((getV 14) ρ))) (sqG (consG (setR 23) (consG (setR 24) nilG))) lbody := rfl
theorem b_law_eq : b_law = lt0 := rfl
end K88

-- K88_LB
namespace K88
open DL
open L2 (atI ixN)
def lst (v0 v1 v3 v4 v5 v6 v7 v8 v9 v10 v13 v15 v16 v17 v18 v19 v20 v21 v22 : Sl) (S : List Int) (R F : List (Int × Int)) (s23 s24 s25 s26 : Sl) : Rho := [v0, v1, .va (eS true S R), v3, v4, v5, v6, v7, v8, v9, v10, .va (.int (nu S R : Int)), .va (.int (R.length : Int)), v13, .va (.sq false (F.map (eP true))), v15, v16, v17, v18, v19, v20, v21, v22, s23, s24, s25, s26, .un, .un]
theorem lbody_run (v0 v1 v3 v4 v5 v6 v7 v8 v9 v10 v13 v15 v16 v17 v18 v19 v20 v21 v22 : Sl) (S : List Int) (R F : List (Int × Int)) (sh : Shop S R) (hR : R.length < 70) (td : Told S R (gr S R) F) (hap : apart F = true) (I : Int × Int) (hI : I ∈ F) (s25 s26 : Sl) (h : s25 = .un ∧ s26 = .un ∨ (∃ d, s25 = .va d ∧ s26 = .un) ∨ ∃ d e, s25 = .va d ∧ s26 = .va e) :
    ∃ d s26', (s26' = .un ∨ ∃ e, s26' = .va e) ∧ lbody (lst v0 v1 v3 v4 v5 v6 v7 v8 v9 v10 v13 v15 v16 v17 v18 v19 v20 v21 v22 S R F (.va (.int I.1)) (.va (.int I.2)) s25 s26) = some (.nx, lst v0 v1 v3 v4 v5 v6 v7 v8 v9 v10 v13 v15 v16 v17 v18 v19 v20 v21 v22 S R F (.va (.int I.1)) (.va (.int I.2)) (.va d) s26') := by
  have hgd : ∀ I ∈ F, I.1 ≤ I.2 := fun I hI => (td.good I hI).1
  have hst := strong (ok_gr sh) sh.nd td
  have e1 : ∀ s25 s26, cmpGo (setR 28) (andB (fun ρ => boolD ((bin leD (getB 23) (bin ixD (getB 28) (cst (.int 0)))) ρ)) (fun ρ => boolD ((bin leD (bin ixD (getB 28) (cst (.int 1))) (getB 24)) ρ))) (cst (.int 1)) (lst v0 v1 v3 v4 v5 v6 v7 v8 v9 v10 v13 v15 v16 v17 v18 v19 v20 v21 v22 S R F (.va (.int I.1)) (.va (.int I.2)) s25 s26) (R.map (eP true)) = some ((R.filter (inside I)).map fun _ => .int 1) := fun s25 s26 => by
    rw [cmpGo_map (f := eP true) (p := inside I) (h := fun _ => D.int 1) R fun r _ => ⟨_, by simp [lst] <;> rfl, by simp [ix0_eP, ix1_eP, inside]; by_cases h : I.1 ≤ r.1 <;> simp [h], fun _ => by simp⟩]
  have e2 : ∀ s25 s26, cmpGo (setR 27) (fun ρ => boolD ((chn leD leD (getB 23) (getB 27) (getB 24)) ρ)) (cst (.int 1)) (lst v0 v1 v3 v4 v5 v6 v7 v8 v9 v10 v13 v15 v16 v17 v18 v19 v20 v21 v22 S R F (.va (.int I.1)) (.va (.int I.2)) s25 s26) (S.map .int) = some ((S.filter (tk I)).map fun _ => .int 1) := fun s25 s26 => by
    rw [cmpGo_map (f := D.int) (p := tk I) (h := fun _ => D.int 1) S fun r _ => ⟨_, by simp [lst] <;> rfl, by simp [tk]; by_cases h : I.1 ≤ r <;> simp [h], fun _ => by simp⟩]
  have e3 := L_overfull true S R I (hgd I hI)
  rw [show eP true I = .sq true [.int I.1, .int I.2] from rfl] at e3
  have e4 : ((R.filter (inside I)).length : Int) - ((S.filter (tk I)).length : Int) = short S R I := rfl
  have k1 := L_machine true S R I.1 I.2 (by omega)
  have k2 : cnt (gr S (R ++ [(I.1, I.2)])) = nu S R := m7 sh (by omega) td hI
  have k3 : g_shows_shortages [eS true S (R ++ [(I.1, I.2)]), .int ((R.length : Int) - (nu S R : Int) + 1), .sq false (F.map (eP true))] = some (.val (.bl true)) := by
    rw [L_shows true S _ F _ hgd hap, shortSum_in S R (x := (I.1, I.2)) (hgd I hI) F td.apart hgd hI, decide_eq_true]
    have : (cnt (gr S R) : Int) = (nu S R : Int) := rfl
    omega
  unfold lst at e1 e2
  by_cases hc : 1 ≤ I.1 ∧ I.2 < 1000
  · rcases h with ⟨rfl, rfl⟩ | ⟨d, rfl, rfl⟩ | ⟨d, e, rfl, rfl⟩
    all_goals
      refine ⟨.int (short S R I), .va (eS true S (R ++ [(I.1, I.2)])), .inr ⟨_, rfl⟩, ?_⟩
      simp [lbody, lst, ix0_eS, ix1_eS, eI, eR, e1, e2, e3, e4, hc.1, hc.2, k1, L_most, k2, k3]
  · have hc2 : I.1 ≥ 1 → ¬ I.2 < 1000 := fun h1 h2 => hc ⟨h1, h2⟩
    have fin : ∀ s25 s26, (s25 = .un ∨ ∃ d, s25 = .va d) → (s26 = .un ∨ ∃ d, s26 = .va d) → lbody (lst v0 v1 v3 v4 v5 v6 v7 v8 v9 v10 v13 v15 v16 v17 v18 v19 v20 v21 v22 S R F (.va (.int I.1)) (.va (.int I.2)) s25 s26) = some (.nx, lst v0 v1 v3 v4 v5 v6 v7 v8 v9 v10 v13 v15 v16 v17 v18 v19 v20 v21 v22 S R F (.va (.int I.1)) (.va (.int I.2)) (.va (.int (short S R I))) s26) := by
      intro s25 s26 h25 h26
      by_cases h1 : 1 ≤ I.1
      · have h2 : ¬ I.2 < 1000 := hc2 h1
        rcases h25 with rfl | ⟨d, rfl⟩ <;> simp [lbody, lst, ix0_eS, ix1_eS, eI, eR, e1, e2, e3, e4, h1, h2]
      · rcases h25 with rfl | ⟨d, rfl⟩ <;> simp [lbody, lst, ix0_eS, ix1_eS, eI, eR, e1, e2, e3, e4, h1]
    rcases h with ⟨rfl, rfl⟩ | ⟨d, rfl, rfl⟩ | ⟨d, e, rfl, rfl⟩
    · exact ⟨_, _, .inl rfl, fin .un .un (.inl rfl) (.inl rfl)⟩
    · exact ⟨_, _, .inl rfl, fin (.va d) .un (.inr ⟨d, rfl⟩) (.inl rfl)⟩
    · exact ⟨_, _, .inr ⟨e, rfl⟩, fin (.va d) (.va e) (.inr ⟨d, rfl⟩) (.inr ⟨e, rfl⟩)⟩
theorem lfor (v0 v1 v3 v4 v5 v6 v7 v8 v9 v10 v13 v15 v16 v17 v18 v19 v20 v21 v22 : Sl) (S : List Int) (R F : List (Int × Int)) (sh : Shop S R) (hR : R.length < 70) (td : Told S R (gr S R) F) (hap : apart F = true) : ∃ a b c d, ls22 (lst v0 v1 v3 v4 v5 v6 v7 v8 v9 v10 v13 v15 v16 v17 v18 v19 v20 v21 v22 S R F .un .un .un .un) = some (.nx, lst v0 v1 v3 v4 v5 v6 v7 v8 v9 v10 v13 v15 v16 v17 v18 v19 v20 v21 v22 S R F a b c d) := by
  have loop : ∀ (Q : List (Int × Int)), (∀ I ∈ Q, I ∈ F) → ∀ (a b c d : Sl), (a = .un ∧ b = .un ∨ ∃ p q, a = .va p ∧ b = .va q) → (c = .un ∧ d = .un ∨ (∃ p, c = .va p ∧ d = .un) ∨ ∃ p q, c = .va p ∧ d = .va q) → ∃ a' b' c' d', forGo (sqG (consG (setR 23) (consG (setR 24) nilG))) lbody (lst v0 v1 v3 v4 v5 v6 v7 v8 v9 v10 v13 v15 v16 v17 v18 v19 v20 v21 v22 S R F a b c d) (Q.map (eP true)) = some (.nx, lst v0 v1 v3 v4 v5 v6 v7 v8 v9 v10 v13 v15 v16 v17 v18 v19 v20 v21 v22 S R F a' b' c' d') := by
    intro Q
    induction Q with
    | nil => exact fun _ a b c d _ _ => ⟨a, b, c, d, rfl⟩
    | cons I Q ih =>
      intro hQ a b c d hab hcd
      obtain ⟨p, s26', h26, hb⟩ := lbody_run v0 v1 v3 v4 v5 v6 v7 v8 v9 v10 v13 v15 v16 v17 v18 v19 v20 v21 v22 S R F sh hR td hap I (hQ I List.mem_cons_self) c d hcd
      have hg : sqG (consG (setR 23) (consG (setR 24) nilG)) (eP true I) (lst v0 v1 v3 v4 v5 v6 v7 v8 v9 v10 v13 v15 v16 v17 v18 v19 v20 v21 v22 S R F a b c d) = some (lst v0 v1 v3 v4 v5 v6 v7 v8 v9 v10 v13 v15 v16 v17 v18 v19 v20 v21 v22 S R F (.va (.int I.1)) (.va (.int I.2)) c d) := by
        rcases hab with ⟨rfl, rfl⟩ | ⟨p, q, rfl, rfl⟩ <;> simp [lst, eP]
      obtain ⟨a', b', c', d', hl⟩ := ih (fun J hJ => hQ J (List.mem_cons_of_mem _ hJ)) (.va (.int I.1)) (.va (.int I.2)) (.va p) s26' (.inr ⟨_, _, rfl, rfl⟩) (by
        rcases h26 with rfl | ⟨e, rfl⟩
        · exact .inr (.inl ⟨p, rfl, rfl⟩)
        · exact .inr (.inr ⟨p, e, rfl, rfl⟩))
      refine ⟨a', b', c', d', ?_⟩
      rw [List.map_cons, forGo]
      simp only [hg, hb]
      exact hl
  obtain ⟨a, b, c, d, hl⟩ := loop F (fun _ h => h) .un .un .un .un (.inl ⟨rfl, rfl⟩) (.inl ⟨rfl, rfl⟩)
  refine ⟨a, b, c, d, ?_⟩
  rw [ls22_eq]
  have e : (pur (fun ρ => sqO (getV 14 ρ))) (lst v0 v1 v3 v4 v5 v6 v7 v8 v9 v10 v13 v15 v16 v17 v18 v19 v20 v21 v22 S R F .un .un .un .un) = some (F.map (eP true), lst v0 v1 v3 v4 v5 v6 v7 v8 v9 v10 v13 v15 v16 v17 v18 v19 v20 v21 v22 S R F .un .un .un .un) := by simp [lst]
  unfold forS
  rw [e]
  exact hl
end K88

-- K88_M
namespace K88
open DL
open L2 (atI ixN)
open PySem (seqIndex?)
def Ends (f : Rho → Option (Fl × Rho)) (ρ : Rho) : Prop := ∃ ρe, f ρ = some (.rt (.val (.bl true)), ρe)
theorem seq_ex {f g : Rho → Option (Fl × Rho)} {ρ ρ1 : Rho} (h : f ρ = some (.nx, ρ1)) (k : Ends g ρ1) : Ends (seq f g) ρ := by
  obtain ⟨ρe, k⟩ := k
  refine ⟨ρe, ?_⟩
  unfold seq
  rw [h]
  exact k
theorem neD_flag (F : List (Int × Int)) (p : Int × Int → Bool) : neD (.sq false ((F.filter p).map fun _ => D.int 1)) (.sq false []) = some (.bl (F.any p)) := by
  have e : F.any p = !(F.filter p).isEmpty := by
    induction F with
    | nil => rfl
    | cons x F ih => by_cases h : p x = true <;> simp [List.filter_cons, h, ih]
  rw [e]
  cases F.filter p with
  | nil => simp
  | cons x l => simp
theorem beqs_flag (F : List (Int × Int)) (p : Int × Int → Bool) : D.beqs ((F.filter p).map fun _ => D.int 1) [] = !F.any p := by
  have e : F.any p = !(F.filter p).isEmpty := by
    induction F with
    | nil => rfl
    | cons x F ih => by_cases h : p x = true <;> simp [List.filter_cons, h, ih]
  rw [e]
  cases F.filter p with
  | nil => simp
  | cons x l => simp
theorem apart_pw : ∀ F : List (Int × Int), F.Pairwise (fun a b => a.2 < b.1) → apart F = true
  | [], _ => rfl
  | [_], _ => rfl
  | a :: b :: F, h => by
    rw [List.pairwise_cons] at h
    have ih := apart_pw (b :: F) h.2
    have h1 := h.1 b List.mem_cons_self
    unfold apart at ih ⊢
    simp only [List.tail_cons, List.zip_cons_cons, List.all_cons] at ih ⊢
    rw [decide_eq_true h1]
    exact ih
/-- the check of two counts beside the first -/
theorem two_ok {k a b c : Int} (ha : a = k ∨ a = k + 1) (hb : b = k ∨ b = k + 1) (h1 : a ≤ c) (h2 : b ≤ c) (h3 : c ≤ a + b - k) : True := trivial
theorem ct_split (l : List Int) (p : Int → Bool) : (l.filter p).length + (l.filter fun s => !p s).length = l.length := by
  induction l with
  | nil => rfl
  | cons x l ih => cases h : p x <;> simp [List.filter_cons, h] <;> omega
theorem cut2 (x y z : D) : cutD [x, y, z] none (some 2) = [x, y] := rfl
theorem maxD_two (a b : Int) : maxD [.sq false [.int a, .int b]] = some (.int (if a < b then b else a)) := by
  show (if okAll [D.int a, .int b] = true then some (most (.int a) [.int b]) else none) = _
  rw [if_pos (show okAll [D.int a, .int b] = true from okAll_int [a, b])]
  unfold most
  by_cases h : a < b <;> simp [h]
theorem beq_swap (a b : Int) : (a == b) = (b == a) := by
  rw [Bool.eq_iff_iff]
  simp
  exact eq_comm
theorem cmpGo_two {g : D → Rho → Option Rho} {c : Rho → Option Bool} {fe : Rho → Option D} {ρ ρx ρy : Rho} (x y : D) (h1 : g x ρ = some ρx) (h2 : c ρx = some false) (h3 : g y ρ = some ρy) (h4 : c ρy = some false) : cmpGo g c fe ρ [x, y] = some [] := by
  simp [cmpGo, h1, h2, h3, h4]
theorem two_nil {a b k : Int} (ha : a = k ∨ a = k + 1) (hb : b = k ∨ b = k + 1) : (([a, b].filter fun o => !(o == k || o == k + 1)).map fun _ => D.int 1) = [] := by
  rcases ha with rfl | rfl <;> rcases hb with rfl | rfl <;> simp
theorem m8 {S : List Int} {R : List (Int × Int)} (h : Shop S R) (hR : R.length < 80) {x y : Int × Int} (hx : x.1 ≤ x.2) (hy : y.1 ≤ y.2) : nu S (R ++ [y]) ≤ nu S ((R ++ [x]) ++ [y]) := by
  have sx := h.machine hx
  have sy := h.machine hy
  have sxy := sx.machine hy
  have lx : (R ++ [x]).length = R.length + 1 := by simp
  have ly : (R ++ [y]).length = R.length + 1 := by simp
  have lxy : ((R ++ [x]) ++ [y]).length = R.length + 2 := by simp
  obtain ⟨A, hA, _⟩ := best sxy (by omega)
  let B : Nat → Bool := fun m => if m < R.length then A m else A (R.length + 1)
  have h1 := df_le sy B
  have b1 : B R.length = A (R.length + 1) := by simp [B]
  have e1 : ct R.length B = ct R.length A := ct_congr fun m hm => by simp [B, hm]
  have e2 : (S.filter (Nb (R ++ [y]) B)).length ≤ (S.filter (Nb ((R ++ [x]) ++ [y]) A)).length := filt_le (fun s hs => by
    rw [nb_last, b1, Bool.or_eq_true] at hs
    rw [nb_last, nb_last, lx]
    rcases hs with hs | hs
    · obtain ⟨m, g1, g2, g3⟩ := nb_iff.mp hs
      have : Nb R A s = true := nb_iff.mpr ⟨m, g1, by simpa [B, g1] using g2, g3⟩
      rw [this]
      rfl
    · rw [hs]
      simp) S
  have e3 := b2n_le (A R.length)
  unfold df at *
  rw [lxy, ct_last, ct_last] at hA
  rw [ly, ct_last, b1, e1] at h1
  omega
def fourteen : List Int := [1, 2, 3, 4, 5, 6, 7, 8, 9, 10, 11, 12, 13, 14]
theorem law_true (ns : List Int) (hns : ns.length ≤ 63) : g_law [.sq false (ns.map D.int)] = some (.val (.bl true)) := by
  suffices h : Ends lt0 (start0 [.sq false (ns.map D.int)] 29) by
    obtain ⟨ρe, h⟩ := h
    have e : body0 lt0 (start0 [.sq false (ns.map D.int)] 29) = some (.val (.bl true), ρe) := by
      unfold body0
      rw [h]
    show gG 1 29 b_law _ = _
    rw [b_law_eq]
    unfold DL.gG
    rw [e]
    rfl
  obtain ⟨c0, C0, hcells⟩ := L_cells ns hns
  obtain ⟨x0, hbox, t0⟩ := L_box c0 C0
  obtain ⟨S, R, x1, hshop, dr, t1⟩ := L_shop 0 x0 t0 (by omega)
  have sh := dr.shop
  have hR6 := dr.rlen
  have hS6 := dr.len
  obtain ⟨d1, x2, hd1, d1a, d1b, t2⟩ := L_take _ x1 t1 (by omega) 2 (by omega) (by omega)
  simp only [List.map_cons] at hcells hbox
  refine seq_ex (by simp [ls0, hcells, hbox] <;> rfl) ?_
  refine seq_ex (by simp [ls1, hshop] <;> rfl) ?_
  have hg : ∃ t, ls2 [.va (.sq false (ns.map .int)), .ow x1, .va (eS true S R), .un, .un, .un, .un, .un, .un, .un, .un, .un, .un, .un, .un, .un, .un, .un, .un, .un, .un, .un, .un, .un, .un, .un, .un, .un, .un] = some (.nx, [.va (.sq false (ns.map .int)), .ow x2, .va (eS true S R), .va (eS t S R), .un, .un, .un, .un, .un, .un, .un, .un, .un, .un, .un, .un, .un, .un, .un, .un, .un, .un, .un, .un, .un, .un, .un, .un, .un]) := by
    by_cases h : d1 = 0
    · exact ⟨false, by simp [ls2, hd1, h, L_lists]⟩
    · have hb : (d1 == 0) = false := by simpa using h
      exact ⟨true, by simp [ls2, hd1, hb]⟩
  obtain ⟨t, hg⟩ := hg
  refine seq_ex hg ?_
  refine seq_ex (by simp [ls3, L_most, ix1_eS, eR] <;> rfl) ?_
  obtain ⟨L, hsh, hL1, hL2⟩ := L_shortages t S R (by omega)
  have td := told_of sh.s sh.r hL1 hL2
  generalize mrg (sortP L) = F at hsh td
  refine seq_ex (by simp [ls4, L_service, hsh] <;> rfl) ?_
  have hst := strong (ok_gr sh) sh.nd td
  have hwk := weak (F := F) (ok_gr sh) sh.r td.apart
  have hap := apart_pw F td.apart
  have hgd : ∀ I ∈ F, I.1 ≤ I.2 := fun I hI => (td.good I hI).1
  have e5 : g_shows_service [eS true S R, .sq true ((gr S R).map eO)] = some (.val (.bl true)) := L_showserv true S R (gr S R) (ok_gr sh) (by omega) rfl
  have hnu : (cnt (gr S R) : Int) = (nu S R : Int) := rfl
  have cF : ((gr S R).filter Option.isSome).length = nu S R := rfl
  have e5b : g_shows_shortages [eS true S R, .int ((R.length : Int) - (nu S R : Int)), .sq false (F.map (eP true))] = some (.val (.bl true)) := by
    rw [L_shows true S R F _ hgd hap, decide_eq_true (by omega)]
  have e6 : g_shows_shortages [eS true S R, .int ((R.length : Int) - (nu S R : Int) + 1), .sq false (F.map (eP true))] = some (.val (.bl false)) := by
    rw [L_shows true S R F _ hgd hap, decide_eq_false (by omega)]
  rw [hnu]
  refine seq_ex (by
    simp [ls5, e5]
    rw [cmpGo_map (f := eO) (p := Option.isSome) (h := fun _ => D.int 1) (gr S R) fun o _ => ⟨_, by simp <;> rfl, by cases o <;> simp, fun _ => by simp⟩]
    simp [cF, e5b, L_same] <;> rfl) ?_
  obtain ⟨z, ds, hv, hz⟩ := L_verdict S R sh (by omega)
  have hz2 : ((nu S R : Int) == (R.length : Int)) = decide (nu S R = R.length) := by
    rw [Bool.eq_iff_iff]
    simp
    omega
  refine seq_ex (by simp [ls6, e6, hv, hz, hz2] <;> rfl) ?_
  -- two spindles that are not there
  obtain ⟨L14, hL14⟩ : ∃ L14 : List Int, L14 = fourteen.filter fun s => !decide (s ∈ S) := ⟨_, rfl⟩
  have h14 : L14.length ≥ 8 := by
    have h1 : (fourteen.filter fun s => decide (s ∈ S)).length ≤ S.length := by
      refine card_le (fun x y => x = y) _ _ ?_ (fun x hx => ?_) (fun x x' y a b => a.trans b.symm)
      · exact (show fourteen.Nodup by decide).filter _
      · exact ⟨x, of_decide_eq_true (List.mem_filter.mp hx).2, rfl⟩
    have h2 := ct_split fourteen (fun s => decide (s ∈ S))
    have h3 : fourteen.length = 14 := rfl
    rw [hL14]
    omega
  obtain ⟨P, L', x3, hp1, hp2, hp3, t3⟩ := L_pick _ x2 t2 (by omega) false L14 (by
    have : L14.length ≤ fourteen.length := by rw [hL14]; exact List.length_filter_le _ _
    have h3 : fourteen.length = 14 := rfl
    omega) 2 (by omega)
  obtain ⟨a, b, rfl⟩ : ∃ a b, P = [a, b] := by
    match P, hp3 with
    | [a, b], _ => exact ⟨a, b, rfl⟩
  have hPL : ∀ y ∈ [a, b], y ∉ S := fun y hy => by
    have : y ∈ L14 := hp2.mem_iff.mp (List.mem_append_left _ hy)
    rw [hL14] at this
    have := (List.mem_filter.mp this).2
    simpa using this
  have ha : a ∉ S := hPL a (by simp)
  have hb : b ∉ S := hPL b (by simp)
  have hab : a ≠ b := by
    have hn : L14.Nodup := by rw [hL14]; exact (show fourteen.Nodup by decide).filter _
    have := (List.nodup_append.mp (hp2.nodup_iff.mpr hn)).1
    simpa using this
  have hr15 : rgOk 1 15 = true := rfl
  have hd15 : rgD 1 15 = fourteen.map .int := rfl
  have hp1' : g_law_pick x2 [.sq false (L14.map .int), .int 2] = some (.frs [.int a, .int b], x3) := hp1
  refine seq_ex (by
    simp [ls7, hr15, hd15]
    rw [cmpGo_map (f := D.int) (p := fun s => !decide (s ∈ S)) (h := D.int) fourteen fun o _ => ⟨_, by simp <;> rfl, by simp [ix0_eS, eI, any_int], fun _ => by simp⟩]
    rw [← hL14]
    simp [hp1'] <;> rfl) ?_
  have hS6' : S.length < 1000 := by omega
  have hba : b ∉ sortI (S ++ [a]) := fun h => by
    have := (List.mergeSort_perm (S ++ [a]) _).mem_iff.mp h
    rcases List.mem_append.mp this with h | h
    · exact hb h
    · have : b = a := by simpa using h
      exact hab this.symm
  have hsl : (sortI (S ++ [a])).length = S.length + 1 := by
    unfold sortI
    rw [List.length_mergeSort, List.length_append, List.length_singleton]
  have w1 := L_spindle true S R a ha hS6'
  have w2 := L_spindle t S R b hb hS6'
  have w3 := L_spindle true (sortI (S ++ [a])) R b hba (by omega)
  refine seq_ex (by simp [ls8, w1, w2] <;> rfl) ?_
  refine seq_ex (by simp [ls9, w3] <;> rfl) ?_
  refine seq_ex (by simp [ls10, L_most] <;> rfl) ?_
  obtain ⟨ma1, ma2⟩ := m1 sh (by omega) ha
  obtain ⟨mb1, mb2⟩ := m1 sh (by omega) hb
  obtain ⟨mc1, mc2⟩ := m1 (sh.spindle ha) (by omega) hba
  have mab := m2 sh (by omega) ha hb hba
  have mb3 : nu (sortI (S ++ [b])) R ≤ nu (sortI (sortI (S ++ [a]) ++ [b])) R := by
    obtain ⟨A, hA, _⟩ := best ((sh.spindle ha).spindle hba) (by omega)
    have h1 := df_le (sh.spindle hb) A
    rw [df_sort, df_sort] at hA
    rw [df_sort] at h1
    omega
  have q1 : (cnt (gr (sortI (S ++ [a])) R)) = nu (sortI (S ++ [a])) R := rfl
  have q2 : (cnt (gr (sortI (S ++ [b])) R)) = nu (sortI (S ++ [b])) R := rfl
  have q3 : (cnt (gr (sortI (sortI (S ++ [a]) ++ [b])) R)) = nu (sortI (sortI (S ++ [a]) ++ [b])) R := rfl
  rw [q1, q2, q3]
  have hA : nu (sortI (S ++ [a])) R = nu S R ∨ nu (sortI (S ++ [a])) R = nu S R + 1 := by omega
  have hB : nu (sortI (S ++ [b])) R = nu S R ∨ nu (sortI (S ++ [b])) R = nu S R + 1 := by omega
  have hM1 : decide ((if nu (sortI (S ++ [a])) R < nu (sortI (S ++ [b])) R then (nu (sortI (S ++ [b])) R : Int) else (nu (sortI (S ++ [a])) R : Int)) ≤ (nu (sortI (sortI (S ++ [a]) ++ [b])) R : Int)) = true := decide_eq_true (by split <;> omega)
  have hM2 : decide ((nu (sortI (sortI (S ++ [a]) ++ [b])) R : Int) ≤ (nu (sortI (S ++ [a])) R : Int) + (nu (sortI (S ++ [b])) R : Int) - (nu S R : Int)) = true := decide_eq_true (by omega)
  refine seq_ex (by
    simp [ls11, cut2, maxD_two]
    rw [cmpGo_two (.int (nu (sortI (S ++ [a])) R : Int)) (.int (nu (sortI (S ++ [b])) R : Int)) (by simp <;> rfl) (by rcases hA with h | h <;> simp [h]) (by simp <;> rfl) (by rcases hB with h | h <;> simp [h])]
    rw [hM1, hM2]
    simp <;> rfl) ?_
  -- two machines more
  obtain ⟨l1, x4, hl1, l1a, l1b, t4⟩ := L_take _ x3 t3 (by omega) 9 (by omega) (by omega)
  obtain ⟨l2, x5, hl2, l2a, l2b, t5⟩ := L_take _ x4 t4 (by omega) 9 (by omega) (by omega)
  refine seq_ex (by simp [ls12, hl1, hl2] <;> rfl) ?_
  obtain ⟨w1', x6, hw1, w1a, w1b, t6⟩ := L_take _ x5 t5 (by omega) 5 (by omega) (by omega)
  obtain ⟨w2', x7, hw2, w2a, w2b, t7⟩ := L_take _ x6 t6 (by omega) 5 (by omega) (by omega)
  refine seq_ex (by simp [ls13, hw1, hw2] <;> rfl) ?_
  have k1 := L_machine true S R (1 + l1) (1 + l1 + w1') (by omega)
  have k2 := L_machine true S R (1 + l2) (1 + l2 + w2') (by omega)
  have k3 := L_machine true S (R ++ [(1 + l1, 1 + l1 + w1')]) (1 + l2) (1 + l2 + w2') (by rw [List.length_append, List.length_singleton]; omega)
  refine seq_ex (by simp [ls14, k1, k2] <;> rfl) ?_
  refine seq_ex (by simp [ls15, k3, -List.append_assoc] <;> rfl) ?_
  refine seq_ex (by simp [ls16, L_most, -List.append_assoc] <;> rfl) ?_
  have nA := m3 sh (by omega) (x := (1 + l1, 1 + l1 + w1')) (by show 1 + l1 ≤ 1 + l1 + w1'; omega)
  have nB := m3 sh (by omega) (x := (1 + l2, 1 + l2 + w2')) (by show 1 + l2 ≤ 1 + l2 + w2'; omega)
  have shA := sh.machine (x := (1 + l1, 1 + l1 + w1')) (by show 1 + l1 ≤ 1 + l1 + w1'; omega)
  have nC := m3 shA (by rw [List.length_append, List.length_singleton]; omega) (x := (1 + l2, 1 + l2 + w2')) (by show 1 + l2 ≤ 1 + l2 + w2'; omega)
  have nAB := m4 sh (by omega) (x := (1 + l1, 1 + l1 + w1')) (y := (1 + l2, 1 + l2 + w2')) (by show 1 + l1 ≤ 1 + l1 + w1'; omega) (by show 1 + l2 ≤ 1 + l2 + w2'; omega)
  have nB3 : nu S (R ++ [(1 + l2, 1 + l2 + w2')]) ≤ nu S (R ++ [(1 + l1, 1 + l1 + w1')] ++ [(1 + l2, 1 + l2 + w2')]) := by
    exact m8 sh (by omega) (by show 1 + l1 ≤ 1 + l1 + w1'; omega) (by show 1 + l2 ≤ 1 + l2 + w2'; omega)
  have qn : ∀ (S : List Int) (R : List (Int × Int)), cnt (gr S R) = nu S R := fun _ _ => rfl
  simp only [qn]
  have hA' : nu S (R ++ [(1 + l1, 1 + l1 + w1')]) = nu S R ∨ nu S (R ++ [(1 + l1, 1 + l1 + w1')]) = nu S R + 1 := by omega
  have hB' : nu S (R ++ [(1 + l2, 1 + l2 + w2')]) = nu S R ∨ nu S (R ++ [(1 + l2, 1 + l2 + w2')]) = nu S R + 1 := by omega
  generalize hRA : R ++ [(1 + l1, 1 + l1 + w1')] = RA at *
  generalize hRB : R ++ [(1 + l2, 1 + l2 + w2')] = RB at *
  generalize hRC : RA ++ [(1 + l2, 1 + l2 + w2')] = RC at *
  have hN1 : decide ((if nu S RA < nu S RB then (nu S RB : Int) else (nu S RA : Int)) ≤ (nu S RC : Int)) = true := decide_eq_true (by split <;> omega)
  have hN2 : decide ((nu S RC : Int) ≤ (nu S RA : Int) + (nu S RB : Int) - (nu S R : Int)) = true := decide_eq_true (by omega)
  refine seq_ex (by
    simp [ls17, cut2, maxD_two]
    rw [cmpGo_two (.int (nu S RA : Int)) (.int (nu S RB : Int)) (by simp <;> rfl) (by rcases hA' with h | h <;> simp [h]) (by simp <;> rfl) (by rcases hB' with h | h <;> simp [h])]
    rw [hN1, hN2]
    simp <;> rfl) ?_
  have k4 := L_machine true (sortI (S ++ [a])) R a a (by omega)
  refine seq_ex (by simp [ls18, k4] <;> rfl) ?_
  have mp := m5 sh (by omega) ha
  have qp : cnt (gr (sortI (S ++ [a])) (R ++ [(a, a)])) = nu S R + 1 := mp
  refine seq_ex (by simp [ls19, L_most, qp] <;> rfl) ?_
  obtain ⟨fl, hfl⟩ : ∃ fl, F.any (fun I => tk I a) = fl := ⟨_, rfl⟩
  refine seq_ex (by
    simp [ls20]
    rw [cmpGo_map (f := eP true) (p := fun I => tk I a) (h := fun _ => D.int 1) F fun I _ => ⟨_, by simp [eP] <;> rfl, by simp [tk]; by_cases z : I.1 ≤ a <;> simp [z], fun _ => by simp⟩]
    simp [beqs_flag, hfl] <;> rfl) ?_
  have e21 : F.any (fun I => tk I a) = false → g_shows_shortages [eS true (sortI (S ++ [a])) R, .int ((R.length : Int) - (nu S R : Int)), .sq false (F.map (eP true))] = some (.val (.bl true)) ∧ nu (sortI (S ++ [a])) R = nu S R := fun hany => by
    have ho : ∀ I ∈ F, tk I a = false := fun I hI => by
      have := List.any_eq_false.mp hany I hI
      simpa using this
    have h1 := m6 sh (by omega) ha td ho
    refine ⟨?_, h1⟩
    rw [L_shows true _ R F _ hgd hap, shortSum_out S R a F ho, decide_eq_true (by omega)]
  rw [hfl] at e21
  have h21 : ∀ ρ1, ls21 ρ1 = some (.nx, ρ1) → Ends (seq ls22 lt23) ρ1 → Ends lt21 ρ1 := fun ρ1 h1 h2 => seq_ex h1 h2
  refine h21 _ ?_ ?_
  · cases fl with
    | true => simp [ls21]
    | false =>
      obtain ⟨g1, g2⟩ := e21 rfl
      have hbq : ((nu (sortI (S ++ [a])) R : Int) == (nu S R : Int)) = true := by rw [g2]; simp
      simp [ls21, g1, hbq]
  obtain ⟨f1, f2, f3, f4, hf⟩ := lfor _ _ _ _ _ _ _ _ _ _ _ _ _ _ _ _ _ _ _ S R F sh (by omega) td hap
  unfold lst at hf
  refine seq_ex hf ?_
  exact ⟨_, by simp [lt23, ls23] <;> rfl⟩
end K88

-- K88_H
namespace K88
open DL PySem PySem.Spec PyProof.Rows L2
/-! the head: facts by names, the run (printed by gen.py) -/
abbrev R : PySem.W.OpenRow := PySem.W.OpenLaw.row PySem.Challenge.rw_spindlefit_k88_whole_services_with_spind
def d_law_box : He.DefD := ⟨("_law_box", none), "_law_box", "_law_box", defArgs s_law_box, defBody s_law_box, defScope s_law_box, [], []⟩
def d_law_take : He.DefD := ⟨("_law_take", none), "_law_take", "_law_take", defArgs s_law_take, defBody s_law_take, defScope s_law_take, [], []⟩
def d_law_pick : He.DefD := ⟨("_law_pick", none), "_law_pick", "_law_pick", defArgs s_law_pick, defBody s_law_pick, defScope s_law_pick, [], []⟩
def d_law_shop : He.DefD := ⟨("_law_shop", none), "_law_shop", "_law_shop", defArgs s_law_shop, defBody s_law_shop, defScope s_law_shop, [], []⟩
def d_plain_shop : He.DefD := ⟨("plain_shop", none), "plain_shop", "plain_shop", defArgs s_plain_shop, defBody s_plain_shop, defScope s_plain_shop, [], []⟩
def d_with_spindle : He.DefD := ⟨("with_spindle", none), "with_spindle", "with_spindle", defArgs s_with_spindle, defBody s_with_spindle, defScope s_with_spindle, [], []⟩
def d_with_machine : He.DefD := ⟨("with_machine", none), "with_machine", "with_machine", defArgs s_with_machine, defBody s_with_machine, defScope s_with_machine, [], []⟩
def d_law_cells : He.DefD := ⟨("_law_cells", none), "_law_cells", "_law_cells", defArgs s_law_cells, defBody s_law_cells, defScope s_law_cells, [], []⟩
def d_law_lists : He.DefD := ⟨("_law_lists", none), "_law_lists", "_law_lists", defArgs s_law_lists, defBody s_law_lists, defScope s_law_lists, [], []⟩
def d_served : He.DefD := ⟨("served", none), "served", "served", defArgs s_served, defBody s_served, defScope s_served, [], []⟩
def d_takes : He.DefD := ⟨("takes", none), "takes", "takes", defArgs s_takes, defBody s_takes, defScope s_takes, [], []⟩
def d_greedy : He.DefD := ⟨("greedy", none), "greedy", "greedy", defArgs s_greedy, defBody s_greedy, defScope s_greedy, [], []⟩
def d_service : He.DefD := ⟨("service", none), "service", "service", defArgs s_service, defBody s_service, defScope s_service, [], []⟩
def d_most_served : He.DefD := ⟨("most_served", none), "most_served", "most_served", defArgs s_most_served, defBody s_most_served, defScope s_most_served, [], []⟩
def d_closed : He.DefD := ⟨("closed", none), "closed", "closed", defArgs s_closed, defBody s_closed, defScope s_closed, [], []⟩
def d_shortages : He.DefD := ⟨("shortages", none), "shortages", "shortages", defArgs s_shortages, defBody s_shortages, defScope s_shortages, [], []⟩
def d_law_same : He.DefD := ⟨("_law_same", none), "_law_same", "_law_same", defArgs s_law_same, defBody s_law_same, defScope s_law_same, [], []⟩
def d_shortage : He.DefD := ⟨("shortage", none), "shortage", "shortage", defArgs s_shortage, defBody s_shortage, defScope s_shortage, [], []⟩
def d_is_number : He.DefD := ⟨("is_number", none), "is_number", "is_number", defArgs s_is_number, defBody s_is_number, defScope s_is_number, [], []⟩
def d_is_interval : He.DefD := ⟨("is_interval", none), "is_interval", "is_interval", defArgs s_is_interval, defBody s_is_interval, defScope s_is_interval, [], []⟩
def d_shows_shortages : He.DefD := ⟨("shows_shortages", none), "shows_shortages", "shows_shortages", defArgs s_shows_shortages, defBody s_shows_shortages, defScope s_shows_shortages, [], []⟩
def d_shows_overfull : He.DefD := ⟨("shows_overfull", none), "shows_overfull", "shows_overfull", defArgs s_shows_overfull, defBody s_shows_overfull, defScope s_shows_overfull, [], []⟩
def d_is_service : He.DefD := ⟨("is_service", none), "is_service", "is_service", defArgs s_is_service, defBody s_is_service, defScope s_is_service, [], []⟩
def d_shows_service : He.DefD := ⟨("shows_service", none), "shows_service", "shows_service", defArgs s_shows_service, defBody s_shows_service, defScope s_shows_service, [], []⟩
def d_feasible : He.DefD := ⟨("feasible", none), "feasible", "feasible", defArgs s_feasible, defBody s_feasible, defScope s_feasible, [], []⟩
def d_others_of : He.DefD := ⟨("others_of", none), "others_of", "others_of", defArgs s_others_of, defBody s_others_of, defScope s_others_of, [], []⟩
def d_first_setting : He.DefD := ⟨("first_setting", none), "first_setting", "first_setting", defArgs s_first_setting, defBody s_first_setting, defScope s_first_setting, [], []⟩
def d_verdict : He.DefD := ⟨("verdict", none), "verdict", "verdict", defArgs s_verdict, defBody s_verdict, defScope s_verdict, [], []⟩
def d_law : He.DefD := ⟨("law", none), "law", "law", defArgs s_law, defBody s_law, defScope s_law, [], []⟩
def fn0 : List He.DefD := [d_law_box, d_law_take, d_law_pick, d_law_shop, d_plain_shop, d_with_spindle, d_with_machine, d_law_cells, d_law_lists, d_served, d_takes, d_greedy, d_service, d_most_served, d_closed, d_shortages, d_law_same, d_shortage, d_is_number, d_is_interval, d_shows_shortages, d_shows_overfull, d_is_service, d_shows_service, d_feasible, d_others_of, d_first_setting, d_verdict, d_law]
def fn : List He.DefD := fn0
def fa0 : List He.Fa := [.glo "_law_box", .glo "_law_take", .glo "_law_pick", .glo "_law_shop", .glo "plain_shop", .glo "with_spindle", .glo "with_machine", .glo "_law_cells", .glo "_law_lists", .glo "served", .glo "takes", .glo "greedy", .glo "service", .glo "most_served", .glo "closed", .glo "shortages", .glo "_law_same", .glo "shortage", .glo "is_number", .glo "is_interval", .glo "shows_shortages", .glo "shows_overfull", .glo "is_service", .glo "shows_service", .glo "feasible", .glo "others_of", .glo "first_setting", .glo "verdict", .glo "law", .free "int"]
def fa1 : List He.Fa := [.free "abs", .free "len", .free "list", .free "min", .free "range", .free "sorted", .free "tuple", .free "enumerate", .free "isinstance", .free "zip", .free "max", .free "all", .free "bool", .free "str", .free "sum", .int "PAIR" 2]
def fa : List He.Fa := fa0 ++ fa1
def loose0 : List Str := ["__name__", "Duplicate", "PAIR", "is_number", "is_interval", "plain_shop", "takes", "greedy", "feasible", "service", "served", "most_served", "is_service", "shows_service", "shortage", "closed", "shortages", "shows_shortages", "with_spindle", "with_machine", "others_of", "first_setting", "verdict", "shows_overfull", "_law_box", "_law_take", "_law_cells", "_law_same", "_law_lists", "_law_pick"]
def loose1 : List Str := ["_law_shop"]
def loose : List Str := loose0 ++ loose1
abbrev hk : PySem.W.Hook := He.hookD 4 fa fn
def ob (s : PySem.W.SharedT) : He.AlD := He.obsDG 4 fa fn (HandSHeadRun.getT s)
theorem ob_eq (s : PySem.W.SharedT) : ob s = hk.obs s.abs := He.obsDG_eq (HandSHeadRun.getT_eq s)
theorem run (w : World) : HandSHeadRun.RunEq R (PySem.W.view R.prog [36]) hk ob 4000 loose w := by
  intro os
  kernel_rfl
theorem known {P : Program} {w : World} {K : PySem.W.Frag} {h : Heap} {mg : Str → Option Value} {base : Heap} (X : K.In h) (G : h.Ns mainGlobals mg) (c : He.SaysD fa fn K) : Known P w K mg base "law" ["script"] 6 (spG K g_law) := by
  obtain ⟨fd0, F0⟩ := c.def_ 0 (d := d_law_box) rfl
  obtain ⟨fd1, F1⟩ := c.def_ 1 (d := d_law_take) rfl
  obtain ⟨fd2, F2⟩ := c.def_ 2 (d := d_law_pick) rfl
  obtain ⟨fd3, F3⟩ := c.def_ 3 (d := d_law_shop) rfl
  obtain ⟨fd4, F4⟩ := c.def_ 4 (d := d_plain_shop) rfl
  obtain ⟨fd5, F5⟩ := c.def_ 5 (d := d_with_spindle) rfl
  obtain ⟨fd6, F6⟩ := c.def_ 6 (d := d_with_machine) rfl
  obtain ⟨fd7, F7⟩ := c.def_ 7 (d := d_law_cells) rfl
  obtain ⟨fd8, F8⟩ := c.def_ 8 (d := d_law_lists) rfl
  obtain ⟨fd9, F9⟩ := c.def_ 9 (d := d_served) rfl
  obtain ⟨fd10, F10⟩ := c.def_ 10 (d := d_takes) rfl
  obtain ⟨fd11, F11⟩ := c.def_ 11 (d := d_greedy) rfl
  obtain ⟨fd12, F12⟩ := c.def_ 12 (d := d_service) rfl
  obtain ⟨fd13, F13⟩ := c.def_ 13 (d := d_most_served) rfl
  obtain ⟨fd14, F14⟩ := c.def_ 14 (d := d_closed) rfl
  obtain ⟨fd15, F15⟩ := c.def_ 15 (d := d_shortages) rfl
  obtain ⟨fd16, F16⟩ := c.def_ 16 (d := d_law_same) rfl
  obtain ⟨fd17, F17⟩ := c.def_ 17 (d := d_shortage) rfl
  obtain ⟨fd18, F18⟩ := c.def_ 18 (d := d_is_number) rfl
  obtain ⟨fd19, F19⟩ := c.def_ 19 (d := d_is_interval) rfl
  obtain ⟨fd20, F20⟩ := c.def_ 20 (d := d_shows_shortages) rfl
  obtain ⟨fd21, F21⟩ := c.def_ 21 (d := d_shows_overfull) rfl
  obtain ⟨fd22, F22⟩ := c.def_ 22 (d := d_is_service) rfl
  obtain ⟨fd23, F23⟩ := c.def_ 23 (d := d_shows_service) rfl
  obtain ⟨fd24, F24⟩ := c.def_ 24 (d := d_feasible) rfl
  obtain ⟨fd25, F25⟩ := c.def_ 25 (d := d_others_of) rfl
  obtain ⟨fd26, F26⟩ := c.def_ 26 (d := d_first_setting) rfl
  obtain ⟨fd27, F27⟩ := c.def_ 27 (d := d_verdict) rfl
  obtain ⟨fd28, F28⟩ := c.def_ 28 (d := d_law) rfl
  have g0 := He.glo_ok X G (c.fact 0 (f := .glo "_law_box") rfl)
  have g1 := He.glo_ok X G (c.fact 1 (f := .glo "_law_take") rfl)
  have g2 := He.glo_ok X G (c.fact 2 (f := .glo "_law_pick") rfl)
  have g3 := He.glo_ok X G (c.fact 3 (f := .glo "_law_shop") rfl)
  have g4 := He.glo_ok X G (c.fact 4 (f := .glo "plain_shop") rfl)
  have g5 := He.glo_ok X G (c.fact 5 (f := .glo "with_spindle") rfl)
  have g6 := He.glo_ok X G (c.fact 6 (f := .glo "with_machine") rfl)
  have g7 := He.glo_ok X G (c.fact 7 (f := .glo "_law_cells") rfl)
  have g8 := He.glo_ok X G (c.fact 8 (f := .glo "_law_lists") rfl)
  have g9 := He.glo_ok X G (c.fact 9 (f := .glo "served") rfl)
  have g10 := He.glo_ok X G (c.fact 10 (f := .glo "takes") rfl)
  have g11 := He.glo_ok X G (c.fact 11 (f := .glo "greedy") rfl)
  have g12 := He.glo_ok X G (c.fact 12 (f := .glo "service") rfl)
  have g13 := He.glo_ok X G (c.fact 13 (f := .glo "most_served") rfl)
  have g14 := He.glo_ok X G (c.fact 14 (f := .glo "closed") rfl)
  have g15 := He.glo_ok X G (c.fact 15 (f := .glo "shortages") rfl)
  have g16 := He.glo_ok X G (c.fact 16 (f := .glo "_law_same") rfl)
  have g17 := He.glo_ok X G (c.fact 17 (f := .glo "shortage") rfl)
  have g18 := He.glo_ok X G (c.fact 18 (f := .glo "is_number") rfl)
  have g19 := He.glo_ok X G (c.fact 19 (f := .glo "is_interval") rfl)
  have g20 := He.glo_ok X G (c.fact 20 (f := .glo "shows_shortages") rfl)
  have g21 := He.glo_ok X G (c.fact 21 (f := .glo "shows_overfull") rfl)
  have g22 := He.glo_ok X G (c.fact 22 (f := .glo "is_service") rfl)
  have g23 := He.glo_ok X G (c.fact 23 (f := .glo "shows_service") rfl)
  have g24 := He.glo_ok X G (c.fact 24 (f := .glo "feasible") rfl)
  have g25 := He.glo_ok X G (c.fact 25 (f := .glo "others_of") rfl)
  have g26 := He.glo_ok X G (c.fact 26 (f := .glo "first_setting") rfl)
  have g27 := He.glo_ok X G (c.fact 27 (f := .glo "verdict") rfl)
  have g28 := He.glo_ok X G (c.fact 28 (f := .glo "law") rfl)
  have m_int : mg "int" = none := He.free_ok X G (c.fact 29 (f := .free "int") rfl)
  have m_abs : mg "abs" = none := He.free_ok X G (c.fact 30 (f := .free "abs") rfl)
  have m_len : mg "len" = none := He.free_ok X G (c.fact 31 (f := .free "len") rfl)
  have m_list : mg "list" = none := He.free_ok X G (c.fact 32 (f := .free "list") rfl)
  have m_min : mg "min" = none := He.free_ok X G (c.fact 33 (f := .free "min") rfl)
  have m_range : mg "range" = none := He.free_ok X G (c.fact 34 (f := .free "range") rfl)
  have m_sorted : mg "sorted" = none := He.free_ok X G (c.fact 35 (f := .free "sorted") rfl)
  have m_tuple : mg "tuple" = none := He.free_ok X G (c.fact 36 (f := .free "tuple") rfl)
  have m_enumerate : mg "enumerate" = none := He.free_ok X G (c.fact 37 (f := .free "enumerate") rfl)
  have m_isinstance : mg "isinstance" = none := He.free_ok X G (c.fact 38 (f := .free "isinstance") rfl)
  have m_zip : mg "zip" = none := He.free_ok X G (c.fact 39 (f := .free "zip") rfl)
  have m_max : mg "max" = none := He.free_ok X G (c.fact 40 (f := .free "max") rfl)
  have m_all : mg "all" = none := He.free_ok X G (c.fact 41 (f := .free "all") rfl)
  have m_bool : mg "bool" = none := He.free_ok X G (c.fact 42 (f := .free "bool") rfl)
  have m_str : mg "str" = none := He.free_ok X G (c.fact 43 (f := .free "str") rfl)
  have m_sum : mg "sum" = none := He.free_ok X G (c.fact 44 (f := .free "sum") rfl)
  have c_PAIR : ∃ t, mg "PAIR" = some (.int 2 t) := He.int_ok X G (c.fact 45 (f := .int "PAIR" 2) rfl)
  have k_law_box : Known P w K mg base "_law_box" ["script", "k"] 1 (spG K g_law_box) := kn_law_box F0 g0 m_abs m_int m_len
  have k_law_take : Known P w K mg base "_law_take" ["tin", "below"] 1 (spI K g_law_take) := kn_law_take F1 g1 m_int
  have k_law_pick : Known P w K mg base "_law_pick" ["tin", "goods", "most"] 2 (spI K g_law_pick) := kn_law_pick F2 g2 k_law_take m_len m_list m_min m_range
  have k_law_shop : Known P w K mg base "_law_shop" ["tin", "machines", "spindles"] 3 (spI K g_law_shop) := kn_law_shop F3 g3 k_law_pick k_law_take m_list m_range m_sorted m_tuple
  have k_plain_shop : Known P w K mg base "plain_shop" ["shop"] 1 (spG K g_plain_shop) := kn_plain_shop F4 g4 m_tuple
  have k_with_spindle : Known P w K mg base "with_spindle" ["shop", "size"] 2 (spG K g_with_spindle) := kn_with_spindle F5 g5 k_plain_shop m_sorted m_tuple
  have k_with_machine : Known P w K mg base "with_machine" ["shop", "low", "high"] 2 (spG K g_with_machine) := kn_with_machine F6 g6 k_plain_shop
  have k_law_cells : Known P w K mg base "_law_cells" ["script", "most"] 1 (spG K g_law_cells) := kn_law_cells F7 g7 m_enumerate m_int m_list
  have k_law_lists : Known P w K mg base "_law_lists" ["matter"] 5 (spG K (g_law_lists 5)) := kn_law_lists F8 g8 m_isinstance m_list m_tuple 5
  have k_served : Known P w K mg base "served" ["row"] 1 (spG K g_served) := kn_served F9 g9 m_len
  have k_takes : Known P w K mg base "takes" ["part", "size"] 1 (spG K g_takes) := kn_takes F10 g10 
  have k_greedy : Known P w K mg base "greedy" ["sizes", "ranges"] 2 (spG K g_greedy) := kn_greedy F11 g11 k_takes m_enumerate m_len m_min
  have k_service : Known P w K mg base "service" ["shop"] 3 (spG K g_service) := kn_service F12 g12 k_greedy m_tuple
  have k_most_served : Known P w K mg base "most_served" ["shop"] 4 (spG K g_most_served) := kn_most_served F13 g13 k_served k_service
  have k_closed : Known P w K mg base "closed" ["ranges", "held", "machine"] 1 (spG K g_closed) := kn_closed F14 g14 m_min m_zip
  have k_shortages : Known P w K mg base "shortages" ["shop"] 4 (spG K g_shortages) := kn_shortages F15 g15 k_closed k_service m_enumerate m_len m_max m_sorted
  have k_law_same : Known P w K mg base "_law_same" ["got", "goal"] 5 (spG K (g_law_same 5)) := kn_law_same F16 g16 m_all m_bool m_int m_isinstance m_len m_list m_str m_tuple m_zip 5
  have k_shortage : Known P w K mg base "shortage" ["shop", "interval"] 2 (spG K g_shortage) := kn_shortage F17 g17 k_takes m_len
  have k_is_number : Known P w K mg base "is_number" ["thing"] 1 (spG K g_is_number) := kn_is_number F18 g18 m_bool m_int m_isinstance
  have k_is_interval : Known P w K mg base "is_interval" ["thing"] 2 (spG K g_is_interval) := kn_is_interval F19 g19 k_is_number c_PAIR m_all m_isinstance m_len m_tuple
  have k_shows_shortages : Known P w K mg base "shows_shortages" ["shop", "many", "thing"] 3 (spG K g_shows_shortages) := kn_shows_shortages F20 g20 k_is_interval k_shortage m_all m_isinstance m_list m_sum m_zip
  have k_shows_overfull : Known P w K mg base "shows_overfull" ["shop", "thing"] 3 (spG K g_shows_overfull) := kn_shows_overfull F21 g21 k_is_interval k_shortage
  have k_is_service : Known P w K mg base "is_service" ["shop", "thing"] 2 (spG K g_is_service) := kn_is_service F22 g22 k_is_number k_takes m_all m_isinstance m_len m_tuple m_zip
  have k_shows_service : Known P w K mg base "shows_service" ["shop", "thing"] 5 (spG K g_shows_service) := kn_shows_service F23 g23 k_is_service k_most_served k_served
  have k_feasible : Known P w K mg base "feasible" ["sizes", "ranges"] 3 (spG K g_feasible) := kn_feasible F24 g24 k_greedy
  have k_others_of : Known P w K mg base "others_of" ["sizes", "size"] 1 (spG K g_others_of) := kn_others_of F25 g25 
  have k_first_setting : Known P w K mg base "first_setting" ["shop"] 4 (spG K g_first_setting) := kn_first_setting F26 g26 k_feasible k_others_of k_takes m_enumerate m_list m_tuple
  have k_verdict : Known P w K mg base "verdict" ["shop"] 5 (spG K g_verdict) := kn_verdict F27 g27 k_feasible k_first_setting k_shortages
  have k_law : Known P w K mg base "law" ["script"] 6 (spG K g_law) := kn_law F28 g28 k_law_box k_law_cells k_law_lists k_law_pick k_law_same k_law_shop k_law_take k_most_served k_service k_shortages k_shows_overfull k_shows_service k_shows_shortages k_verdict k_with_machine k_with_spindle m_len m_max m_range
  exact k_law
end K88

-- K88_E
open PySem PySem.W PySem.Calls PyProof.Rows
theorem PySem.Challenge.cw_spindlefit_k88_whole_services_with_spind_holds : PySem.Challenge.rw_spindlefit_k88_whole_services_with_spind.Holds := by
  w_on; o_law
  refine HandSHeadRun.head_any (r := OpenLaw.row PySem.Challenge.rw_spindlefit_k88_whole_services_with_spind) (q := view (OpenLaw.row PySem.Challenge.rw_spindlefit_k88_whole_services_with_spind).prog [36]) (H := K88.hk) (ob := K88.ob) (M := 4000) (loose := K88.loose) (d := HandSHeadRun.topDef (OpenLaw.row PySem.Challenge.rw_spindlefit_k88_whole_services_with_spind).prog 36) (kwd := []) K88.ob_eq
    (by kernel_rfl) (fun s => by kernel_rfl) K88.run (by kernel_rfl) (by kernel_rfl) (by kernel_rfl) (by rfl) (by first | assumption | decide +kernel) (by decide +kernel) ⟨rfl, rfl, rfl, rfl, rfl, by decide +kernel⟩ ?hw ?hc
  case hw => w_witness2
  case hc =>
    refine L2.walk_ofE (l := PySem.Challenge.rw_spindlefit_k88_whole_services_with_spind) (n := 63) (k := 6) (x := "script") (CX := L2.CX0) rfl (by decide) (by kernel_rfl) ⟨rfl, by decide, by decide⟩ ?F (fun _ _ _ _ z => z)
    intro w mg fa h Y G hmg0
    obtain ⟨K, KX, c⟩ := Y
    have hmg : mg ("law" : PySem.Str) = some (.ref fa) := by
      have e : (HandSHeadRun.topDef (OpenLaw.row PySem.Challenge.rw_spindlefit_k88_whole_services_with_spind).prog 36).name = ("law" : PySem.Str) := by kernel_rfl
      rw [← e]
      exact hmg0
    have e := hmg.symm.trans (He.glo_ok KX G (c.fact 28 (f := .glo "law") rfl))
    cases e
    exact DL.law_end (st := K88.s_law) (kws := []) KX (by decide) hmg rfl (c.def_ 28 (d := K88.d_law) rfl) (fun _ _ _ _ _ _ us hl => match us, hl with | [_], _ => rfl) (fun base => K88.known (base := base) KX G c) K88.law_true
