import PyProof.Rows.All
import Wide.All
import OpenK.AllK
import Wide.FinOn
import HandS.ForMost
import HandS.Wide
import HandS.Style
import HandS.TupAny
import HandS.Deep
import PySem.Challenge.RW_pipeform_k45_whole_joined_texts
set_option Elab.async false
set_option linter.all false
set_option maxRecDepth 100000
set_option maxHeartbeats 4000000
namespace Sm
open PySem L2

/-! ## data, slots, results -/
inductive D where
  | non | bl (b : Bool) | int (i : Int) | str (s : Str) | tup (l : List D) | lst (l : List D) | sls (l : List D) | ins (c : Str) (fs : List (Str × D))
inductive Slot where
  | un | fz (d : D) | ol (b : Bool) (l : List D)
abbrev G := List Slot
inductive R where
  | d (x : D) | sl (i : Nat) | nw (l : List D)
inductive O where
  | nx (g : G) | rt (r : R) (g : G) | bk (g : G) | ct (g : G)

section
variable (K : PySem.W.Frag) (mg : Str → Option Value) (m : List Addr) (H : Hp)
mutual
inductive Fz : V → D → Prop
  | non : Fz .non .non
  | bl (b : Bool) : Fz (.bl b) (.bl b)
  | int (i : Int) : Fz (.int i) (.int i)
  | str (s : Str) : Fz (.str s) (.str s)
  | tup {a : Addr} {vs : List V} {ds : List D} (h : (a ∉ m ∧ Rd H a (.tup vs)) ∨ SqT K (fun _ => none) a vs) (t : FzL vs ds) : Fz (.ref a) (.tup ds)
  | lst {a : Addr} {vs : List V} {ds : List D} (h : a ∉ m) (e : H a = some (.lst vs)) (t : FzL vs ds) : Fz (.ref a) (.lst ds)
  | sls {a : Addr} {vs : List V} {ds : List D} (h : (a ∉ m ∧ ∃ o, H a = some (.frz o (.lst vs))) ∨ SqL K (fun _ => none) a vs) (t : FzL vs ds) : Fz (.ref a) (.sls ds)
  | ins {a C dx : Addr} {fvs : List (Str × V)} {c : Str} {fds : List (Str × D)} (h : a ∉ m) (e : H a = some (.ins C dx fvs)) (hc : mg c = some (.ref C)) (t : FzF fvs fds) : Fz (.ref a) (.ins c fds)
inductive FzL : List V → List D → Prop
  | nil : FzL [] []
  | cons {v : V} {d : D} {vs : List V} {ds : List D} : Fz v d → FzL vs ds → FzL (v :: vs) (d :: ds)
inductive FzF : List (Str × V) → List (Str × D) → Prop
  | nil : FzF [] []
  | cons {f : Str} {v : V} {d : D} {vs : List (Str × V)} {ds : List (Str × D)} : Fz v d → FzF vs ds → FzF ((f, v) :: vs) ((f, d) :: ds)
end
end

section
variable {K : PySem.W.Frag} {mg : Str → Option Value} {m m' : List Addr} {H H' : Hp}
theorem sqT_any {a : Addr} {vs : List V} (h : SqT K (fun _ => none) a vs) : SqT K H a vs := by
  rcases h with (h | ⟨o, h⟩) | h
  · exact nomatch h
  · exact nomatch h
  · exact .inr h
theorem sqL_any {a : Addr} {vs : List V} (h : SqL K (fun _ => none) a vs) : SqL K H a vs := by
  rcases h with (h | ⟨o, h⟩) | h
  · exact nomatch h
  · exact nomatch h
  · exact .inr h
mutual
theorem Fz.map (k : ∀ a o, a ∉ m → H a = some o → a ∉ m' ∧ H' a = some o) : ∀ {v : V} {d : D}, Fz K mg m H v d → Fz K mg m' H' v d
  | _, _, .non => .non
  | _, _, .bl b => .bl b
  | _, _, .int i => .int i
  | _, _, .str s => .str s
  | _, _, .tup h t => .tup (by
      rcases h with ⟨h1, h2 | ⟨o, h2⟩⟩ | h
      · exact .inl ⟨(k _ _ h1 h2).1, .inl (k _ _ h1 h2).2⟩
      · exact .inl ⟨(k _ _ h1 h2).1, .inr ⟨o, (k _ _ h1 h2).2⟩⟩
      · exact .inr h) (FzL.map k t)
  | _, _, .lst h e t => .lst (k _ _ h e).1 (k _ _ h e).2 (FzL.map k t)
  | _, _, .sls h t => .sls (by
      rcases h with ⟨h1, o, h2⟩ | h
      · exact .inl ⟨(k _ _ h1 h2).1, o, (k _ _ h1 h2).2⟩
      · exact .inr h) (FzL.map k t)
  | _, _, .ins h e hc t => .ins (k _ _ h e).1 (k _ _ h e).2 hc (FzF.map k t)
theorem FzL.map (k : ∀ a o, a ∉ m → H a = some o → a ∉ m' ∧ H' a = some o) : ∀ {v : List V} {d : List D}, FzL K mg m H v d → FzL K mg m' H' v d
  | _, _, .nil => .nil
  | _, _, .cons h t => .cons (Fz.map k h) (FzL.map k t)
theorem FzF.map (k : ∀ a o, a ∉ m → H a = some o → a ∉ m' ∧ H' a = some o) : ∀ {v : List (Str × V)} {d : List (Str × D)}, FzF K mg m H v d → FzF K mg m' H' v d
  | _, _, .nil => .nil
  | _, _, .cons h t => .cons (Fz.map k h) (FzF.map k t)
end
theorem FzL.length : ∀ {vs : List V} {ds : List D}, FzL K mg m H vs ds → vs.length = ds.length
  | _, _, .nil => rfl
  | _, _, .cons _ t => congrArg Nat.succ (FzL.length t)
theorem FzL.get : ∀ {vs : List V} {ds : List D} {i : Nat} {d : D}, FzL K mg m H vs ds → ds[i]? = some d → ∃ v, vs[i]? = some v ∧ Fz K mg m H v d
  | _, _, 0, _, .cons h t, e => ⟨_, rfl, by cases e; exact h⟩
  | _, _, i + 1, _, .cons h t, e => FzL.get (i := i) t e
theorem FzL.getV : ∀ {vs : List V} {ds : List D} {i : Nat} {v : V}, FzL K mg m H vs ds → vs[i]? = some v → ∃ d, ds[i]? = some d ∧ Fz K mg m H v d
  | _, _, 0, _, .cons h t, e => ⟨_, rfl, by cases e; exact h⟩
  | _, _, i + 1, _, .cons h t, e => FzL.getV (i := i) t e
theorem FzL.app : ∀ {vs ws : List V} {ds es : List D}, FzL K mg m H vs ds → FzL K mg m H ws es → FzL K mg m H (vs ++ ws) (ds ++ es)
  | _, _, _, _, .nil, s => s
  | _, _, _, _, .cons h t, s => .cons h (FzL.app t s)
theorem FzL.one {v : V} {d : D} (h : Fz K mg m H v d) : FzL K mg m H [v] [d] := .cons h .nil
theorem FzL.set {v : V} {d : D} (h : Fz K mg m H v d) : ∀ {vs : List V} {ds : List D} (i : Nat), FzL K mg m H vs ds → FzL K mg m H (vs.set i v) (ds.set i d)
  | _, _, _, .nil => .nil
  | _, _, 0, .cons _ t => .cons h t
  | _, _, i + 1, .cons g t => .cons g (FzL.set h i t)
theorem FzL.take : ∀ {vs : List V} {ds : List D} (n : Nat), FzL K mg m H vs ds → FzL K mg m H (vs.take n) (ds.take n)
  | _, _, 0, _ => .nil
  | _, _, _ + 1, .nil => .nil
  | _, _, n + 1, .cons g t => .cons g (FzL.take n t)
theorem FzL.drop : ∀ {vs : List V} {ds : List D} (n : Nat), FzL K mg m H vs ds → FzL K mg m H (vs.drop n) (ds.drop n)
  | _, _, 0, t => t
  | _, _, _ + 1, .nil => .nil
  | _, _, n + 1, .cons g t => FzL.drop n t
theorem FzL.rev : ∀ {vs : List V} {ds : List D}, FzL K mg m H vs ds → FzL K mg m H vs.reverse ds.reverse
  | _, _, .nil => .nil
  | _, _, .cons g t => by
    rw [List.reverse_cons, List.reverse_cons]
    exact FzL.app (FzL.rev t) (FzL.one g)
theorem FzL.erase : ∀ {vs : List V} {ds : List D} (i : Nat), FzL K mg m H vs ds → FzL K mg m H (vs.eraseIdx i) (ds.eraseIdx i)
  | _, _, _, .nil => .nil
  | _, _, 0, .cons g t => t
  | _, _, i + 1, .cons g t => .cons g (FzL.erase i t)
theorem FzL.dropLast {vs : List V} {ds : List D} (h : FzL K mg m H vs ds) : FzL K mg m H vs.dropLast ds.dropLast := by
  rw [List.dropLast_eq_take, List.dropLast_eq_take, h.length]
  exact h.take _
theorem FzL.rep {vs : List V} {ds : List D} (h : FzL K mg m H vs ds) : ∀ n : Nat, FzL K mg m H (List.replicate n vs).flatten (List.replicate n ds).flatten
  | 0 => .nil
  | n + 1 => by
    rw [List.replicate_succ, List.replicate_succ, List.flatten_cons, List.flatten_cons]
    exact FzL.app h (FzL.rep h n)
end

/-! ## states -/
/-- what is fixed through a body: the heap at its entry, the mutable addresses then, the addresses of the lists that are handed in to be changed -/
structure C0 where
  H0 : Hp
  m0 : List Addr
  pa : Nat → Option Addr

structure Abs (K : PySem.W.Frag) (mg : Str → Option Value) (c : C0) (m : List Addr) (g : G) (σ : St) (H : Hp) : Prop where
  len : g.length = σ.length
  fz : ∀ (i : Nat) (d : D), g[i]? = some (.fz d) → ∃ v, σ[i]? = some (some v) ∧ Fz K mg m H v d
  ol : ∀ (i : Nat) (b : Bool) (l : List D), g[i]? = some (.ol b l) → ∃ p vs, σ[i]? = some (some (.ref p)) ∧ p ∈ m ∧ H p = some (.lst vs) ∧ FzL K mg m H vs l ∧ (if b = true then c.pa i = some p else c.H0 p = none)
  ne : ∀ (i j : Nat) (b : Bool) (l : List D) (b' : Bool) (l' : List D) (p : Addr), g[i]? = some (.ol b l) → g[j]? = some (.ol b' l') → σ[i]? = some (some (.ref p)) → σ[j]? = some (some (.ref p)) → i = j
  trk : ∀ a ∈ m, H a ≠ none
  keep : ∀ a o, (∀ i, c.pa i ≠ some a) → c.H0 a = some o → H a = some o
  sub : ∀ a ∈ c.m0, a ∈ m ∧ c.H0 a ≠ none
  pas : ∀ (i : Nat) (p : Addr), c.pa i = some p → p ∈ c.m0 ∧ ∃ l, g[i]? = some (.ol true l)

def Own (g : G) (σ : St) (a : Addr) : Prop := ∃ (i : Nat) (b : Bool) (l : List D), g[i]? = some (.ol b l) ∧ σ[i]? = some (some (.ref a))

structure Stp (m : List Addr) (g : G) (σ : St) (H : Hp) (m' : List Addr) (g' : G) (σ' : St) (H' : Hp) : Prop where
  fr : ∀ a ∈ m', a ∈ m ∨ H a = none
  kp : ∀ a o, ¬ Own g σ a → H a = some o → H' a = some o
  mo : ∀ a ∈ m, H a ≠ none → a ∈ m' ∨ Own g σ a
  ow : ∀ a, Own g' σ' a → Own g σ a ∨ H a = none
  tk : ∀ a, H a ≠ none → H' a ≠ none

section
variable {K : PySem.W.Frag} {mg : Str → Option Value} {c : C0} {m m1 m2 : List Addr} {g g1 g2 : G} {σ σ1 σ2 : St} {H H1 H2 : Hp}
theorem Stp.refl : Stp m g σ H m g σ H := ⟨fun _ h => .inl h, fun _ _ _ h => h, fun _ h _ => .inl h, fun _ h => .inl h, fun _ h => h⟩
theorem Stp.trans (s : Stp m g σ H m1 g1 σ1 H1) (t : Stp m1 g1 σ1 H1 m2 g2 σ2 H2) : Stp m g σ H m2 g2 σ2 H2 where
  fr := fun a h => by
    rcases t.fr a h with h | h
    · exact s.fr a h
    · exact .inr (Classical.byContradiction fun q => s.tk a q h)
  kp := fun a o n e => by
    refine t.kp a o (fun w => ?_) (s.kp a o n e)
    rcases s.ow a w with w | w
    · exact n w
    · rw [e] at w; cases w
  mo := fun a h e => by
    rcases s.mo a h e with h | h
    · rcases t.mo a h (s.tk a e) with h | h
      · exact .inl h
      · rcases s.ow a h with h | h
        · exact .inr h
        · exact absurd h e
    · exact .inr h
  ow := fun a h => by
    rcases t.ow a h with h | h
    · exact s.ow a h
    · exact .inr (Classical.byContradiction fun q => s.tk a q h)
  tk := fun a h => t.tk a (s.tk a h)
theorem Abs.own_mem (A : Abs K mg c m g σ H) {a : Addr} (h : Own g σ a) : a ∈ m := by
  obtain ⟨i, b, l, h1, h2⟩ := h
  obtain ⟨p, vs, h3, h4, _⟩ := A.ol i b l h1
  rw [h2] at h3
  cases h3
  exact h4
theorem Stp.fzk (A : Abs K mg c m g σ H) (s : Stp m g σ H m1 g1 σ1 H1) : ∀ a o, a ∉ m → H a = some o → a ∉ m1 ∧ H1 a = some o := fun a o h e => by
  refine ⟨fun q => ?_, s.kp a o (fun w => h (A.own_mem w)) e⟩
  rcases s.fr a q with q | q
  · exact h q
  · rw [e] at q; cases q
theorem Fz.step (A : Abs K mg c m g σ H) (s : Stp m g σ H m1 g1 σ1 H1) {v : V} {d : D} (h : Fz K mg m H v d) : Fz K mg m1 H1 v d := h.map (Stp.fzk A s)
theorem FzL.step (A : Abs K mg c m g σ H) (s : Stp m g σ H m1 g1 σ1 H1) {v : List V} {d : List D} (h : FzL K mg m H v d) : FzL K mg m1 H1 v d := h.map (Stp.fzk A s)
end

/-- an expression's value -/
def VR (K : PySem.W.Frag) (mg : Str → Option Value) (c : C0) (m : List Addr) (g : G) (σ : St) (H : Hp) (v : V) : R → Prop
  | .d x => Fz K mg m H v x
  | .sl i => σ[i]? = some (some v)
  | .nw l => ∃ p vs, v = .ref p ∧ p ∈ m ∧ H p = some (.lst vs) ∧ FzL K mg m H vs l ∧ ¬ Own g σ p ∧ c.H0 p = none
/-- a fresh list is fresh -/
def Nw (H : Hp) (v : V) (r : R) : Prop := ∀ l, r = .nw l → ∀ p, v = .ref p → H p = none
section
variable {K : PySem.W.Frag} {mg : Str → Option Value} {c : C0} {m m1 m2 : List Addr} {g g1 g2 : G} {σ σ1 σ2 : St} {H H1 H2 : Hp} {v : V} {r : R}
theorem VR.step (A : Abs K mg c m g σ H) (s : Stp m g σ H m1 g1 σ H1) (h : VR K mg c m g σ H v r) : VR K mg c m1 g1 σ H1 v r := by
  cases r with
  | d x => exact Fz.step A s h
  | sl i => exact h
  | nw l =>
    obtain ⟨p, vs, e, hm, hp, hv, ho, h0⟩ := h
    refine ⟨p, vs, e, ?_, s.kp p _ ho hp, hv.step A s, fun w => ?_, h0⟩
    · rcases s.mo p hm (by rw [hp]; exact fun z => nomatch z) with q | q
      · exact q
      · exact absurd q ho
    · rcases s.ow p w with w | w
      · exact ho w
      · rw [hp] at w; cases w
theorem Nw.back (s : Stp m g σ H m1 g1 σ1 H1) (h : Nw H1 v r) : Nw H v r := fun l e p q => by
  have z := h l e p q
  exact Classical.byContradiction fun w => s.tk p w z
end

/-! ## reading a result -/
def ld (g : G) : R → Option D
  | .d x => some x
  | .sl i => match g[i]? with
    | some (.ol _ l) => some (.lst l)
    | some (.fz d) => some d
    | _ => none
  | .nw l => some (.lst l)
/-- v may be read as d now; the items may be handed on -/
def Vw (K : PySem.W.Frag) (mg : Str → Option Value) (m : List Addr) (H : Hp) (v : V) (d : D) : Prop :=
  match d with
  | .lst ds => ∃ a vs, v = .ref a ∧ H a = some (.lst vs) ∧ FzL K mg m H vs ds
  | d => Fz K mg m H v d
section
variable {K : PySem.W.Frag} {mg : Str → Option Value} {c : C0} {m m1 m2 : List Addr} {g g1 g2 : G} {σ σ1 σ2 : St} {H H1 H2 : Hp} {v : V} {r : R} {d : D}
theorem Fz.vw (h : Fz K mg m H v d) : Vw K mg m H v d := by
  cases h with
  | lst h e t => exact ⟨_, _, rfl, e, t⟩
  | non => exact .non
  | bl b => exact .bl b
  | int i => exact .int i
  | str s => exact .str s
  | tup h t => exact .tup h t
  | sls h t => exact .sls h t
  | ins h e hc t => exact .ins h e hc t
theorem VR.ld (A : Abs K mg c m g σ H) (h : VR K mg c m g σ H v r) (e : ld g r = some d) : Vw K mg m H v d := by
  cases r with
  | d x => cases e; exact h.vw
  | sl i =>
    have h : σ[i]? = some (some v) := h
    simp only [Sm.ld] at e
    cases q : g[i]? with
    | none => rw [q] at e; cases e
    | some s =>
      rw [q] at e
      cases s with
      | un => cases e
      | fz x =>
        cases e
        obtain ⟨w, h1, h2⟩ := A.fz i _ q
        rw [h] at h1; cases h1
        exact h2.vw
      | ol b l =>
        cases e
        obtain ⟨p, vs, h1, h2, h3, h4, _⟩ := A.ol i b l q
        rw [h] at h1; cases h1
        exact ⟨p, vs, rfl, h3, h4⟩
  | nw l =>
    cases e
    obtain ⟨p, vs, e, hm, hp, hv, ho, h0⟩ := h
    exact ⟨p, vs, e, hp, hv⟩
end

/-! ## freezing a result -/
def frz (g : G) : R → Option (D × G)
  | .d x => some (x, g)
  | .sl i => match g[i]? with
    | some (.ol false l) => some (.lst l, g.set i (.fz (.lst l)))
    | some (.fz d) => some (d, g)
    | _ => none
  | .nw l => some (.lst l, g)
section
variable {K : PySem.W.Frag} {mg : Str → Option Value} {c : C0} {m m1 m2 : List Addr} {g g1 g2 : G} {σ σ1 σ2 : St} {H H1 H2 : Hp} {v : V} {r : R} {d : D}
theorem lt_of_get {α : Type} {l : List α} {i : Nat} {x : α} (h : l[i]? = some x) : i < l.length := (List.getElem?_eq_some_iff.mp h).1
theorem get_set {α : Type} {l : List α} {i j : Nat} {x y : α} (h : (l.set i x)[j]? = some y) : (i = j ∧ y = x) ∨ (i ≠ j ∧ l[j]? = some y) := by
  by_cases e : i = j
  · subst e
    have hl := lt_of_get h
    rw [List.length_set] at hl
    rw [List.getElem?_set_self hl] at h
    cases h
    exact .inl ⟨rfl, rfl⟩
  · rw [List.getElem?_set_ne e] at h
    exact .inr ⟨e, h⟩
/-- the mutable addresses without one that nobody owns -/
def less (m : List Addr) (p : Addr) : List Addr := m.filter fun a => decide (a ≠ p)
theorem mem_less {m : List Addr} {p a : Addr} : a ∈ less m p ↔ a ∈ m ∧ a ≠ p := by
  unfold less
  rw [List.mem_filter, decide_eq_true_eq]
theorem Fz.less {p : Addr} (h : Fz K mg m H v d) : Fz K mg (less m p) H v d := h.map fun a o n e => ⟨fun q => n (mem_less.mp q).1, e⟩
theorem FzL.less {p : Addr} {vs : List V} {ds : List D} (h : FzL K mg m H vs ds) : FzL K mg (Sm.less m p) H vs ds := h.map fun a o n e => ⟨fun q => n (mem_less.mp q).1, e⟩
theorem Abs.drop {p : Addr} (A : Abs K mg c m g σ H) (ho : ¬ Own g σ p) (h0 : c.H0 p = none) : Abs K mg c (less m p) g σ H where
  len := A.len
  fz := fun i d h => let ⟨v, h1, h2⟩ := A.fz i d h; ⟨v, h1, h2.less⟩
  ol := fun i b l h => by
    obtain ⟨q, vs, h1, h2, h3, h4, h5⟩ := A.ol i b l h
    exact ⟨q, vs, h1, mem_less.mpr ⟨h2, fun z => ho (z ▸ ⟨i, b, l, h, h1⟩)⟩, h3, h4.less, h5⟩
  ne := A.ne
  trk := fun a h => A.trk a (mem_less.mp h).1
  keep := A.keep
  sub := fun a h => ⟨mem_less.mpr ⟨(A.sub a h).1, fun z => (A.sub a h).2 (z ▸ h0)⟩, (A.sub a h).2⟩
  pas := A.pas
/-- the list owned by slot i is owned no more -/
theorem Abs.melt {i : Nat} {l : List D} {p : Addr} {vs : List V} (A : Abs K mg c m g σ H) (hg : g[i]? = some (.ol false l)) (hσ : σ[i]? = some (some (.ref p))) (hp : H p = some (.lst vs)) (hv : FzL K mg m H vs l) (h0 : c.H0 p = none) :
    Abs K mg c (less m p) (g.set i (.fz (.lst l))) σ H where
  len := by rw [List.length_set]; exact A.len
  fz := fun j d h => by
    rcases get_set h with ⟨rfl, e⟩ | ⟨e, h⟩
    · cases e
      exact ⟨.ref p, hσ, .lst (fun q => (mem_less.mp q).2 rfl) hp hv.less⟩
    · obtain ⟨v, h1, h2⟩ := A.fz j d h
      exact ⟨v, h1, h2.less⟩
  ol := fun j b l' h => by
    rcases get_set h with ⟨rfl, e⟩ | ⟨e, h⟩
    · cases e
    · obtain ⟨q, ws, h1, h2, h3, h4, h5⟩ := A.ol j b l' h
      exact ⟨q, ws, h1, mem_less.mpr ⟨h2, fun z => e (A.ne i j _ _ _ _ p hg h hσ (z ▸ h1))⟩, h3, h4.less, h5⟩
  ne := fun j k b l1 b' l2 q h h' e e' => by
    rcases get_set h with ⟨rfl, z⟩ | ⟨_, h⟩
    · cases z
    · rcases get_set h' with ⟨rfl, z⟩ | ⟨_, h'⟩
      · cases z
      · exact A.ne j k _ _ _ _ q h h' e e'
  trk := fun a h => A.trk a (mem_less.mp h).1
  keep := A.keep
  sub := fun a h => ⟨mem_less.mpr ⟨(A.sub a h).1, fun z => (A.sub a h).2 (z ▸ h0)⟩, (A.sub a h).2⟩
  pas := fun j q h => by
    obtain ⟨h1, l', h2⟩ := A.pas j q h
    refine ⟨h1, l', ?_⟩
    have e : i ≠ j := fun z => by subst z; rw [hg] at h2; cases h2
    rw [List.getElem?_set_ne e]
    exact h2
theorem own_melt {i : Nat} {s : D} {a : Addr} (h : Own (g.set i (.fz s)) σ a) : Own g σ a := by
  obtain ⟨j, b, l, h1, h2⟩ := h
  rcases get_set h1 with ⟨_, e⟩ | ⟨_, e⟩
  · cases e
  · exact ⟨j, b, l, e, h2⟩
/-- the same, less sharp: it may have been frozen already -/
def VRw (K : PySem.W.Frag) (mg : Str → Option Value) (c : C0) (m : List Addr) (g : G) (σ : St) (H : Hp) (v : V) : R → Prop
  | .d x => Fz K mg m H v x
  | .sl i => σ[i]? = some (some v)
  | .nw l => ∃ p vs, v = .ref p ∧ H p = some (.lst vs) ∧ FzL K mg m H vs l ∧ ¬ Own g σ p ∧ c.H0 p = none
theorem VR.w (h : VR K mg c m g σ H v r) : VRw K mg c m g σ H v r := by
  cases r with
  | nw l => obtain ⟨p, vs, e, _, h1, h2, h3, h4⟩ := h; exact ⟨p, vs, e, h1, h2, h3, h4⟩
  | _ => exact h
theorem VRw.sub (h : VRw K mg c m1 g1 σ H v r) (hm : ∀ a ∈ m2, a ∈ m1) (ho : ∀ a, Own g2 σ a → Own g1 σ a) : VRw K mg c m2 g2 σ H v r := by
  have k : ∀ a o, a ∉ m1 → H a = some o → a ∉ m2 ∧ H a = some o := fun a o n e => ⟨fun q => n (hm a q), e⟩
  cases r with
  | d x => exact Fz.map k h
  | sl i => exact h
  | nw l => obtain ⟨p, vs, e, h1, h2, h3, h4⟩ := h; exact ⟨p, vs, e, h1, h2.map k, fun w => h3 (ho _ w), h4⟩
theorem frz_ok (S : Stp m g σ H m1 g1 σ H1) (A1 : Abs K mg c m1 g1 σ H1) (h : VRw K mg c m1 g1 σ H1 v r) (n : Nw H v r) (e : frz g1 r = some (d, g2)) :
    ∃ m2, Abs K mg c m2 g2 σ H1 ∧ Stp m g σ H m2 g2 σ H1 ∧ Fz K mg m2 H1 v d ∧ (∀ a ∈ m2, a ∈ m1) ∧ (∀ a, Own g2 σ a → Own g1 σ a) := by
  cases r with
  | d x =>
    cases e
    exact ⟨m1, A1, S, h, fun _ z => z, fun _ z => z⟩
  | sl i =>
    have h : σ[i]? = some (some v) := h
    simp only [frz] at e
    cases q : g1[i]? with
    | none => rw [q] at e; cases e
    | some s =>
      rw [q] at e
      cases s with
      | un => cases e
      | fz x =>
        cases e
        obtain ⟨w, h1, h2⟩ := A1.fz i _ q
        rw [h] at h1; cases h1
        exact ⟨m1, A1, S, h2, fun _ z => z, fun _ z => z⟩
      | ol b l =>
        cases b with
        | true => cases e
        | false =>
          cases e
          obtain ⟨p, vs, h1, h2, h3, h4, h5⟩ := A1.ol i _ l q
          rw [h] at h1; cases h1
          have h5 : c.H0 p = none := h5
          have op : Own g1 σ p := ⟨i, _, _, q, h⟩
          refine ⟨less m1 p, A1.melt q h h3 h4 h5, S.trans ⟨fun a z => .inl (mem_less.mp z).1, fun a o _ z => z, fun a z _ => ?_, fun a z => .inl (own_melt z), fun a z => z⟩, .lst (fun z => (mem_less.mp z).2 rfl) h3 h4.less, fun _ z => (mem_less.mp z).1, fun _ z => own_melt z⟩
          by_cases w : a = p
          · exact .inr (w ▸ op)
          · exact .inl (mem_less.mpr ⟨z, w⟩)
  | nw l =>
    cases e
    obtain ⟨p, vs, e, hp, hv, ho, h0⟩ := h
    subst e
    have hn : H p = none := n l rfl p rfl
    refine ⟨less m1 p, A1.drop ho h0, ⟨fun a z => S.fr a (mem_less.mp z).1, S.kp, fun a z w => ?_, S.ow, S.tk⟩, .lst (fun z => (mem_less.mp z).2 rfl) hp hv.less, fun _ z => (mem_less.mp z).1, fun _ z => z⟩
    rcases S.mo a z w with q | q
    · exact .inl (mem_less.mpr ⟨q, fun e => w (e ▸ hn)⟩)
    · exact .inr q
def frzs : G → List R → Option (List D × G)
  | g, [] => some ([], g)
  | g, r :: rs => (frz g r).bind fun p => (frzs p.2 rs).bind fun q => some (p.1 :: q.1, q.2)
end

/-! ## the judgements -/
section
variable (K : PySem.W.Frag) (mg : Str → Option Value) (c : C0)
def tE (f : G → Option (R × G)) : TE := fun σ H Q => ∃ m g r g', Abs K mg c m g σ H ∧ f g = some (r, g') ∧
  ∀ v m' H', Abs K mg c m' g' σ H' → Stp m g σ H m' g' σ H' → VR K mg c m' g' σ H' v r → Nw H v r → Q v H'
def tT (f : G → Option (Bool × G)) : TT := fun σ H Q => ∃ m g b g', Abs K mg c m g σ H ∧ f g = some (b, g') ∧
  ∀ m' H', Abs K mg c m' g' σ H' → Stp m g σ H m' g' σ H' → Q b H'
def VRs (m : List Addr) (g : G) (σ : St) (H : Hp) : List V → List R → Prop
  | [], [] => True
  | v :: vs, r :: rs => VR K mg c m g σ H v r ∧ VRs m g σ H vs rs
  | _, _ => False
def Nws (H : Hp) : List V → List R → Prop
  | [], [] => True
  | v :: vs, r :: rs => Nw H v r ∧ Nws H vs rs
  | _, _ => False
def tA (f : G → Option (List R × G)) : TA := fun σ H Q => ∃ m g rs g', Abs K mg c m g σ H ∧ f g = some (rs, g') ∧
  ∀ vs m' H', Abs K mg c m' g' σ H' → Stp m g σ H m' g' σ H' → VRs K mg c m' g' σ H' vs rs → Nws H vs rs → Q vs H'
def Fin (D : Ends) (m : List Addr) (g : G) (σ : St) (H : Hp) : O → Prop
  | .nx g' => ∀ m' σ' H', Abs K mg c m' g' σ' H' → Stp m g σ H m' g' σ' H' → D.nx σ' H'
  | .bk g' => ∀ m' σ' H', Abs K mg c m' g' σ' H' → Stp m g σ H m' g' σ' H' → D.bk σ' H'
  | .ct g' => ∀ m' σ' H', Abs K mg c m' g' σ' H' → Stp m g σ H m' g' σ' H' → D.ct σ' H'
  | .rt r g' => ∀ v m' σ' H', Abs K mg c m' g' σ' H' → VR K mg c m' g' σ' H' v r → D.rt v H'
def tS (f : G → Option O) : TS := fun D σ H => ∃ m g o, Abs K mg c m g σ H ∧ f g = some o ∧ Fin K mg c D m g σ H o
def tG (f : D → G → Option G) : TG := fun v σ H Q => ∃ m g d g', Abs K mg c m g σ H ∧ Fz K mg m H v d ∧ f d g = some g' ∧
  ∀ m' σ' H', Abs K mg c m' g' σ' H' → Stp m g σ H m' g' σ' H' → Q σ' H'
/-- what a loop walks: the items are known, wherever the loop stands -/
def JOk (J : It) (l : List D) (m : List Addr) (g : G) (σ : St) (H : Hp) : Prop :=
  ∀ m' g' σ' H', Abs K mg c m' g' σ' H' → Stp m g σ H m' g' σ' H' → (J.stop l.length H') ∧
    ∀ (i : Nat) (d : D), l[i]? = some d → J.go i H' ∧ ∀ x H'', J.yld i H' x H'' → ∃ m'', Abs K mg c m'' g' σ' H'' ∧ Stp m' g' σ' H' m'' g' σ' H'' ∧ Fz K mg m'' H'' x d
def tI (f : G → Option (List D × G)) : TI := fun σ H Q => ∃ m g l g', Abs K mg c m g σ H ∧ f g = some (l, g') ∧
  ∀ J m' H', Abs K mg c m' g' σ H' → Stp m g σ H m' g' σ H' → JOk K mg c J l m' g' σ H' → Q J H'
end
abbrev SE (X : Cx) (c : C0) (e : Expr) (f : G → Option (R × G)) : Prop := PE X e (tE X.K X.mg c f)
abbrev ST (X : Cx) (c : C0) (e : Expr) (f : G → Option (Bool × G)) : Prop := PT X e (tT X.K X.mg c f)
abbrev SA (X : Cx) (c : C0) (es : List Expr) (f : G → Option (List R × G)) : Prop := PA X es (tA X.K X.mg c f)
abbrev SS (X : Cx) (c : C0) (st : Stmt) (f : G → Option O) : Prop := PS X st (tS X.K X.mg c f)
abbrev SSs (X : Cx) (c : C0) (st : List Stmt) (f : G → Option O) : Prop := PSs X st (tS X.K X.mg c f)
abbrev SG (X : Cx) (c : C0) (t : Expr) (f : D → G → Option G) : Prop := PG X t (tG X.K X.mg c f)
abbrev SI (X : Cx) (c : C0) (tg e : Expr) (f : G → Option (List D × G)) : Prop := PI X tg e (tI X.K X.mg c f)

theorem _root_.L2.PE.imp {X : Cx} {e : Expr} {t t' : TE} (h : PE X e t) (k : ∀ σ H Q, t' σ H Q → t σ H Q) : PE X e t' := ⟨fun pins s σ H Q I q => h.run pins s σ H Q I (k σ H Q q)⟩
theorem _root_.L2.PT.imp {X : Cx} {e : Expr} {t t' : TT} (h : PT X e t) (k : ∀ σ H Q, t' σ H Q → t σ H Q) : PT X e t' := ⟨fun pins s σ H Q I q => h.run pins s σ H Q I (k σ H Q q)⟩
theorem _root_.L2.PA.imp {X : Cx} {e : List Expr} {t t' : TA} (h : PA X e t) (k : ∀ σ H Q, t' σ H Q → t σ H Q) : PA X e t' := ⟨fun pos pins s σ H Q I q => h.run pos pins s σ H Q I (k σ H Q q)⟩
theorem _root_.L2.PS.imp {X : Cx} {e : Stmt} {t t' : TS} (h : PS X e t) (k : ∀ D σ H, t' D σ H → t D σ H) : PS X e t' := ⟨fun pins s σ H D I q => h.run pins s σ H D I (k D σ H q)⟩
theorem _root_.L2.PSs.imp {X : Cx} {e : List Stmt} {t t' : TS} (h : PSs X e t) (k : ∀ D σ H, t' D σ H → t D σ H) : PSs X e t' := ⟨fun pins s σ H D I q => h.run pins s σ H D I (k D σ H q)⟩
theorem _root_.L2.PG.imp {X : Cx} {e : Expr} {t t' : TG} (h : PG X e t) (k : ∀ v σ H Q, t' v σ H Q → t v σ H Q) : PG X e t' := ⟨fun pins s σ H v u Q I r q => h.run pins s σ H v u Q I r (k v σ H Q q)⟩
theorem _root_.L2.PI.imp {X : Cx} {tg e : Expr} {t t' : TI} (h : PI X tg e t) (k : ∀ σ H Q, t' σ H Q → t σ H Q) : PI X tg e t' := ⟨fun pins s σ H Q I q => h.run pins s σ H Q I (k σ H Q q)⟩
end Sm

namespace Sm
open PySem L2

/-! ## steps that only add objects -/
def Ext (H H' : Hp) : Prop := ∀ a o, H a = some o → H' a = some o
theorem Ext.refl (H : Hp) : Ext H H := fun _ _ h => h
theorem Ext.trans {H H1 H2 : Hp} (a : Ext H H1) (b : Ext H1 H2) : Ext H H2 := fun x o h => b x o (a x o h)
theorem Ext.new {H : Hp} {p : Addr} {o : HO} (h : H p = none) : Ext H (upd H p o) := fun a u e => by
  rw [upd_ne (ne_of_none e h)]
  exact e
section
variable {K : PySem.W.Frag} {mg : Str → Option Value} {c : C0} {m m1 m2 : List Addr} {g g1 g2 : G} {σ σ1 σ2 : St} {H H1 H2 : Hp} {v : V} {r : R} {d : D}
theorem Fz.ext (x : Ext H H1) (h : Fz K mg m H v d) : Fz K mg m H1 v d := h.map fun a o n e => ⟨n, x a o e⟩
theorem FzL.ext {vs : List V} {ds : List D} (x : Ext H H1) (h : FzL K mg m H vs ds) : FzL K mg m H1 vs ds := h.map fun a o n e => ⟨n, x a o e⟩
theorem Abs.ext (A : Abs K mg c m g σ H) (x : Ext H H1) : Abs K mg c m g σ H1 where
  len := A.len
  fz := fun i d h => let ⟨v, h1, h2⟩ := A.fz i d h; ⟨v, h1, h2.ext x⟩
  ol := fun i b l h => let ⟨p, vs, h1, h2, h3, h4, h5⟩ := A.ol i b l h; ⟨p, vs, h1, h2, x _ _ h3, h4.ext x, h5⟩
  ne := A.ne
  trk := fun a h => by
    cases q : H a with
    | none => exact absurd q (A.trk a h)
    | some o => rw [x a o q]; exact fun z => nomatch z
  keep := fun a o n h => x _ _ (A.keep a o n h)
  sub := A.sub
  pas := A.pas
theorem Stp.ext (x : Ext H H1) : Stp m g σ H m g σ H1 := ⟨fun _ h => .inl h, fun a o _ h => x a o h, fun _ h _ => .inl h, fun _ h => .inl h, fun a h => by
  cases q : H a with
  | none => exact absurd q h
  | some o => rw [x a o q]; exact fun z => nomatch z⟩
theorem Abs.h0 (A : Abs K mg c m g σ H) {p : Addr} (h : H p = none) : c.H0 p = none := by
  cases q : c.H0 p with
  | none => rfl
  | some o =>
    by_cases w : ∃ i, c.pa i = some p
    · obtain ⟨i, w⟩ := w
      exact absurd h (A.trk p (A.sub p (A.pas i p w).1).1)
    · rw [A.keep p o (fun i e => w ⟨i, e⟩) q] at h
      cases h
end

/-! ## a result by values -/
def ResV (K : PySem.W.Frag) (mg : Str → Option Value) (m : List Addr) (H H' : Hp) (u : V) : R → Prop
  | .d x => Fz K mg m H' u x
  | .nw l => ∃ p vs, u = .ref p ∧ H p = none ∧ H' p = some (.lst vs) ∧ FzL K mg (p :: m) H' vs l
  | .sl _ => False
section
variable {K : PySem.W.Frag} {mg : Str → Option Value} {c : C0} {m m1 m2 : List Addr} {g g1 g2 : G} {σ σ1 σ2 : St} {H H1 H2 : Hp} {v : V} {r : R} {d : D}
theorem FzL.more {p : Addr} {vs : List V} {ds : List D} (h : FzL K mg m H vs ds) (hp : H p = none) : FzL K mg (p :: m) H vs ds := h.map fun a o n e => ⟨fun q => by
  rcases List.mem_cons.mp q with q | q
  · subst q; rw [hp] at e; cases e
  · exact n q, e⟩
theorem Fz.more {p : Addr} (h : Fz K mg m H v d) (hp : H p = none) : Fz K mg (p :: m) H v d := h.map fun a o n e => ⟨fun q => by
  rcases List.mem_cons.mp q with q | q
  · subst q; rw [hp] at e; cases e
  · exact n q, e⟩
theorem Abs.more (A : Abs K mg c m g σ H) (x : Ext H H1) {p : Addr} (hp : H p = none) (hq : H1 p ≠ none) : Abs K mg c (p :: m) g σ H1 where
  len := A.len
  fz := fun i d h => let ⟨v, h1, h2⟩ := A.fz i d h; ⟨v, h1, (h2.more hp).ext x⟩
  ol := fun i b l h => let ⟨q, vs, h1, h2, h3, h4, h5⟩ := A.ol i b l h; ⟨q, vs, h1, List.mem_cons_of_mem _ h2, x _ _ h3, (h4.more hp).ext x, h5⟩
  ne := A.ne
  trk := fun a h => by
    rcases List.mem_cons.mp h with h | h
    · exact h ▸ hq
    · exact (A.ext x).trk a h
  keep := (A.ext x).keep
  sub := fun a h => ⟨List.mem_cons_of_mem _ (A.sub a h).1, (A.sub a h).2⟩
  pas := A.pas
theorem Stp.more (A : Abs K mg c m g σ H) (x : Ext H H1) {p : Addr} (hp : H p = none) : Stp m g σ H (p :: m) g σ H1 := ⟨fun a h => by
  rcases List.mem_cons.mp h with h | h
  · exact .inr (h ▸ hp)
  · exact .inl h, fun a o _ h => x a o h, fun _ h _ => .inl (List.mem_cons_of_mem _ h), fun _ h => .inl h, (Stp.ext (m := m) (g := g) (σ := σ) x).tk⟩
theorem res_ok (A : Abs K mg c m g σ H) (x : Ext H H1) (h : ResV K mg m H H1 v r) : ∃ m1, Abs K mg c m1 g σ H1 ∧ Stp m g σ H m1 g σ H1 ∧ VR K mg c m1 g σ H1 v r ∧ Nw H v r := by
  cases r with
  | d x' => exact ⟨m, A.ext x, Stp.ext x, h, fun _ z => nomatch z⟩
  | sl i => exact h.elim
  | nw l =>
    obtain ⟨p, vs, e, hp, hq, hv⟩ := h
    subst e
    refine ⟨p :: m, A.more x hp (by rw [hq]; exact fun z => nomatch z), Stp.more A x hp, ⟨p, vs, rfl, List.mem_cons_self, hq, hv, fun w => A.trk p (A.own_mem w) hp, A.h0 hp⟩, fun _ _ q e => ?_⟩
    cases e
    exact hp
theorem vw_ext (x : Ext H H1) (h : Vw K mg m H v d) : Vw K mg m H1 v d := by
  cases d with
  | lst ds => obtain ⟨a, vs, h1, h2, h3⟩ := h; exact ⟨a, vs, h1, x _ _ h2, h3.ext x⟩
  | _ => exact Fz.ext x h
end

/-! ## names, constants -/
section
variable {X : Cx} {c : C0}
def eVar (i : Nat) : G → Option (R × G) := fun g => match g[i]? with
  | some (.fz d) => some (.d d, g)
  | some (.ol _ _) => some (.sl i, g)
  | _ => none
theorem se_pv {e : Expr} {i : Nat} (h : PE X e (tVar i)) : SE X c e (eVar i) := h.imp fun σ H Q q => by
  obtain ⟨m, g, r, g', A, e, k⟩ := q
  unfold eVar at e
  cases q : g[i]? with
  | none => rw [q] at e; cases e
  | some s =>
    rw [q] at e
    cases s with
    | un => cases e
    | fz d =>
      cases e
      obtain ⟨v, h1, h2⟩ := A.fz i d q
      exact ⟨v, h1, k v m H A Stp.refl h2 fun _ z => nomatch z⟩
    | ol b l =>
      cases e
      obtain ⟨p, vs, h1, _⟩ := A.ol i b l q
      exact ⟨_, h1, k _ m H A Stp.refl h1 fun _ z => nomatch z⟩
def eC (d : D) : G → Option (R × G) := fun g => some (.d d, g)
theorem se_tc {e : Expr} {v : V} {d : D} (h : PE X e (tC v)) (hd : ∀ m H, Fz X.K X.mg m H v d) : SE X c e (eC d) := h.imp fun σ H Q q => by
  obtain ⟨m, g, r, g', A, e, k⟩ := q
  cases e
  exact k v m H A Stp.refl (hd m H) fun _ z => nomatch z
theorem se_int {i : Int} {j pos} : SE X c (.Constant (.int i) j pos) (eC (.int i)) := se_tc pe_int fun _ _ => .int i
theorem se_bl {b : Bool} {j pos} : SE X c (.Constant (.bool b) j pos) (eC (.bl b)) := se_tc pe_bl fun _ _ => .bl b
theorem se_non {j pos} : SE X c (.Constant .none j pos) (eC .non) := se_tc pe_non fun _ _ => .non
theorem se_str {s : Str} {j pos} : SE X c (.Constant (.str s) j pos) (eC (.str s)) := se_tc pe_str fun _ _ => .str s
theorem se_v (i : Nat) {x : Str} {pos : Pos} (hN : X.N[i]? = some x := by rfl) (hv : Vis X.env.scope x := by first | exact Or.inl rfl | exact Or.inr (Or.inl rfl) | exact Or.inr (Or.inr rfl)) (hd : (x == ("__debug__" : Str)) = false := by decide)
    (hcd : (x == ("__classdict__" : Str)) = false := by decide) : SE X c (.Name x pos) (eVar i) := se_pv (pe_var hN hv hd hcd)
theorem se_gl {x : Str} {v : V} {u : Value} {d : D} {pos : Pos} (hg : Gl X x) (hm : X.mg x = some u) (r : RelV v u) (hd : ∀ m H, Fz X.K X.mg m H v d) (hdb : (x == ("__debug__" : Str)) = false := by decide) : SE X c (.Name x pos) (eC d) := se_tc (pe_glob hg hm r hdb) hd

/-! ## operators of two -/
def OpS (X : Cx) (f : Value → Value → Sem Value) (h : D → D → Option R) : Prop :=
  ∃ r : R2, OpR X f r ∧ ∀ (m : List Addr) (H : Hp) (v w : V) (d e : D) (res : R) (Q : VK), (∀ a ∈ m, H a ≠ none) → Vw X.K X.mg m H v d → Vw X.K X.mg m H w e → h d e = some res →
    (∀ u H', Ext H H' → ResV X.K X.mg m H H' u res → Q u H') → r v w H Q
def eBin (h : D → D → Option R) (fa fb : G → Option (R × G)) : G → Option (R × G) := fun g =>
  (fa g).bind fun p => (fb p.2).bind fun q => (ld q.2 p.1).bind fun x => (ld q.2 q.1).bind fun y => (h x y).bind fun r => some (r, q.2)
theorem eBin_inv {h : D → D → Option R} {fa fb : G → Option (R × G)} {g g' : G} {r : R} (e : eBin h fa fb g = some (r, g')) :
    ∃ r1 g1 r2 d1 d2, fa g = some (r1, g1) ∧ fb g1 = some (r2, g') ∧ ld g' r1 = some d1 ∧ ld g' r2 = some d2 ∧ h d1 d2 = some r := by
  unfold eBin at e
  obtain ⟨⟨r1, g1⟩, e1, e⟩ := Option.bind_eq_some_iff.mp e
  obtain ⟨⟨r2, g2⟩, e2, e⟩ := Option.bind_eq_some_iff.mp e
  obtain ⟨d1, e3, e⟩ := Option.bind_eq_some_iff.mp e
  obtain ⟨d2, e4, e⟩ := Option.bind_eq_some_iff.mp e
  obtain ⟨r', e5, e⟩ := Option.bind_eq_some_iff.mp e
  cases e
  exact ⟨r1, g1, r2, d1, d2, e1, e2, e3, e4, e5⟩
variable {a b e : Expr} {pos : Pos} {fa fb : G → Option (R × G)} {h : D → D → Option R}
theorem bin_ok {r2 : R2} {σ : St} {H : Hp} {Q : VK} (hr : ∀ (m : List Addr) (H : Hp) (v w : V) (d e : D) (res : R) (Q : VK), (∀ a ∈ m, H a ≠ none) → Vw X.K X.mg m H v d → Vw X.K X.mg m H w e → h d e = some res →
    (∀ u H', Ext H H' → ResV X.K X.mg m H H' u res → Q u H') → r2 v w H Q) (q : tE X.K X.mg c (eBin h fa fb) σ H Q) : tOp r2 (tE X.K X.mg c fa) (tE X.K X.mg c fb) σ H Q := by
  obtain ⟨m, g, r, g', A, e, k⟩ := q
  obtain ⟨r1, g1, r2, d1, d2, e1, e2, e3, e4, e5⟩ := eBin_inv e
  refine ⟨m, g, r1, g1, A, e1, fun v1 m1 H1 A1 S1 V1 N1 => ⟨m1, g1, r2, g', A1, e2, fun v2 m2 H2 A2 S2 V2 N2 => ?_⟩⟩
  refine hr m2 H2 v1 v2 d1 d2 r Q A2.trk (VR.ld A2 (V1.step A1 S2) e3) (VR.ld A2 V2 e4) e5 fun u H3 x hv => ?_
  obtain ⟨m3, A3, S3, V3, N3⟩ := res_ok A2 x hv
  exact k u m3 H3 A3 ((S1.trans S2).trans S3) V3 (N3.back (S1.trans S2))
theorem se_op {op : Operator} (ho : OpS X (binaryOp op) h) (ha : SE X c a fa) (hb : SE X c b fb) : SE X c (.BinOp a op b pos) (eBin h fa fb) := by
  obtain ⟨r, h1, h2⟩ := ho
  exact (pe_op h1 ha hb).imp fun σ H Q => bin_ok h2
theorem se_cmp {op : CmpOp} (ho : OpS X (compareOp op) h) (ha : SE X c a fa) (hb : SE X c b fb) (hm : behindInMarks op b = false) : SE X c (.Compare a [op] [b] pos) (eBin h fa fb) := by
  obtain ⟨r, h1, h2⟩ := ho
  exact (pe_cmpR h1 ha hb hm).imp fun σ H Q => bin_ok h2
/-- a value as a test -/
def tst (f : G → Option (R × G)) : G → Option (Bool × G) := fun g => match f g with
  | some (.d (.bl b), g') => some (b, g')
  | _ => none
theorem tst_inv {f : G → Option (R × G)} {g g' : G} {b : Bool} (e : tst f g = some (b, g')) : f g = some (.d (.bl b), g') := by
  unfold tst at e
  split at e
  · rename_i h
    cases e
    exact h
  · cases e
theorem tst_ok {f : G → Option (R × G)} {σ : St} {H : Hp} {Q : Bool → Hp → Prop} (q : tT X.K X.mg c (tst f) σ H Q) : tE X.K X.mg c f σ H fun x H1 => ∃ k, x = .bl k ∧ Q k H1 := by
  obtain ⟨m, g, b, g', A, e, k⟩ := q
  refine ⟨m, g, _, g', A, tst_inv e, fun v m1 H1 A1 S1 V1 _ => ?_⟩
  have V1 : Fz X.K X.mg m1 H1 v (.bl b) := V1
  cases V1
  exact ⟨b, rfl, k m1 H1 A1 S1⟩
theorem st_cmp {op : CmpOp} (ho : OpS X (compareOp op) h) (ha : SE X c a fa) (hb : SE X c b fb) (hm : behindInMarks op b = false) : ST X c (.Compare a [op] [b] pos) (tst (eBin h fa fb)) := by
  obtain ⟨r, h1, h2⟩ := ho
  exact (pt_cmpR h1 ha hb hm).imp fun σ H Q q => bin_ok h2 (tst_ok q)
theorem st_val {f : G → Option (R × G)} (he : SE X c e f) (hs : ∀ whole, isTrue e X.env whole = (do let v ← whole; standAt e.pos; holding [v] (truthy v)) := by intro _; rfl) : ST X c e (tst f) :=
  (pt_val he hs).imp fun σ H Q q => tst_ok q

theorem opS_of {f : Value → Value → Sem Value} {r : R2} (h1 : OpR X f r) (h2 : ∀ (m : List Addr) (H : Hp) (v w : V) (d e : D) (res : R) (Q : VK), (∀ a ∈ m, H a ≠ none) → Vw X.K X.mg m H v d → Vw X.K X.mg m H w e → h d e = some res →
    (∀ u H', Ext H H' → ResV X.K X.mg m H H' u res → Q u H') → r v w H Q) : OpS X f h := ⟨r, h1, h2⟩

/-! ### sums, products .. -/
theorem vw_int {K : PySem.W.Frag} {mg : Str → Option Value} {m : List Addr} {H : Hp} {v : V} {i : Int} (h : Vw K mg m H v (.int i)) : v = .int i := by
  have h : Fz K mg m H v (.int i) := h
  cases h; rfl
theorem vw_str {K : PySem.W.Frag} {mg : Str → Option Value} {m : List Addr} {H : Hp} {v : V} {i : Str} (h : Vw K mg m H v (.str i)) : v = .str i := by
  have h : Fz K mg m H v (.str i) := h
  cases h; rfl
theorem vw_bl {K : PySem.W.Frag} {mg : Str → Option Value} {m : List Addr} {H : Hp} {v : V} {i : Bool} (h : Vw K mg m H v (.bl i)) : v = .bl i := by
  have h : Fz K mg m H v (.bl i) := h
  cases h; rfl
theorem vw_non {K : PySem.W.Frag} {mg : Str → Option Value} {m : List Addr} {H : Hp} {v : V} (h : Vw K mg m H v .non) : v = .non := by
  have h : Fz K mg m H v .non := h
  cases h; rfl
theorem vw_tup {K : PySem.W.Frag} {mg : Str → Option Value} {m : List Addr} {H : Hp} {v : V} {l : List D} (h : Vw K mg m H v (.tup l)) : ∃ a vs, v = .ref a ∧ SqT K H a vs ∧ FzL K mg m H vs l := by
  have h : Fz K mg m H v (.tup l) := h
  cases h with
  | tup q t =>
    rcases q with ⟨_, q⟩ | q
    · exact ⟨_, _, rfl, .inl q, t⟩
    · exact ⟨_, _, rfl, sqT_any q, t⟩
theorem vw_lst {K : PySem.W.Frag} {mg : Str → Option Value} {m : List Addr} {H : Hp} {v : V} {l : List D} (h : Vw K mg m H v (.lst l)) : ∃ a vs, v = .ref a ∧ H a = some (.lst vs) ∧ FzL K mg m H vs l := h
theorem vw_sls {K : PySem.W.Frag} {mg : Str → Option Value} {m : List Addr} {H : Hp} {v : V} {l : List D} (h : Vw K mg m H v (.sls l)) : ∃ a vs, v = .ref a ∧ SqL K H a vs ∧ FzL K mg m H vs l := by
  have h : Fz K mg m H v (.sls l) := h
  cases h with
  | sls q t =>
    rcases q with ⟨_, o, q⟩ | q
    · exact ⟨_, _, rfl, .inl (.inr ⟨o, q⟩), t⟩
    · exact ⟨_, _, rfl, sqL_any q, t⟩

theorem nw_new {K : PySem.W.Frag} {mg : Str → Option Value} {m : List Addr} {H : Hp} {p : Addr} {vs : List V} {l : List D} (hp : H p = none) (h : FzL K mg m H vs l) : ResV K mg m H (upd H p (.lst vs)) (.ref p) (.nw l) :=
  ⟨p, vs, rfl, hp, upd_same, (h.more hp).ext (Ext.new hp)⟩
theorem tup_new {K : PySem.W.Frag} {mg : Str → Option Value} {m : List Addr} {H : Hp} {p : Addr} {vs : List V} {l : List D} (ht : ∀ a ∈ m, H a ≠ none) (hp : H p = none) (h : FzL K mg m H vs l) : Fz K mg m (upd H p (.tup vs)) (.ref p) (.tup l) :=
  .tup (.inl ⟨fun q => ht p q hp, .inl upd_same⟩) (h.ext (Ext.new hp))

def addD : D → D → Option R
  | .int i, .int j => some (.d (.int (i + j)))
  | .str a, .str b => if a.length + b.length ≤ sizeLine then some (.d (.str (a ++ b))) else none
  | .lst a, .lst b => if a.length + b.length ≤ sizeLine then some (.nw (a ++ b)) else none
  | _, _ => none
theorem op_addD : OpS X (binaryOp .Add) addD := by
  refine opS_of (op_add.or (op_add_str.or op_cat)) fun m H v w d e res Q ht hv hw hr k => ?_
  unfold addD at hr
  split at hr
  · cases hr
    exact .inl ⟨_, _, vw_int hv, vw_int hw, k _ _ (Ext.refl H) (.int _)⟩
  · split at hr
    · cases hr
      exact .inr (.inl ⟨_, _, vw_str hv, vw_str hw, ‹_›, k _ _ (Ext.refl H) (.str _)⟩)
    · cases hr
  · split at hr
    · cases hr
      rename_i hz
      obtain ⟨p, vs, e1, h1, t1⟩ := vw_lst hv
      obtain ⟨q, ws, e2, h2, t2⟩ := vw_lst hw
      refine .inr (.inr ⟨p, q, vs, ws, e1, e2, h1, h2, by rw [t1.length, t2.length]; exact hz, fun l hl => k _ _ (Ext.new hl) (nw_new hl (t1.app t2))⟩)
    · cases hr
  · cases hr
def subD : D → D → Option R
  | .int i, .int j => some (.d (.int (i - j)))
  | _, _ => none
theorem op_subD : OpS X (binaryOp .Sub) subD := by
  refine opS_of op_sub fun m H v w d e res Q ht hv hw hr k => ?_
  unfold subD at hr
  split at hr
  · cases hr
    exact ⟨_, _, vw_int hv, vw_int hw, k _ _ (Ext.refl H) (.int _)⟩
  · cases hr
def mulD : D → D → Option R
  | .int i, .int j => if i.natAbs.log2 + j.natAbs.log2 < 1000000 then some (.d (.int (i * j))) else none
  | .lst a, .int k => if k < 2 ^ 40 ∧ -(2 ^ 40) < k ∧ a.length * k.toNat ≤ sizeLine then some (.nw (List.replicate k.toNat a).flatten) else none
  | _, _ => none
theorem op_mulD : OpS X (binaryOp .Mult) mulD := by
  refine opS_of (op_mulW.or op_rep) fun m H v w d e res Q ht hv hw hr k => ?_
  unfold mulD at hr
  split at hr
  · split at hr
    · cases hr
      exact .inl ⟨_, _, vw_int hv, vw_int hw, ‹_›, k _ _ (Ext.refl H) (.int _)⟩
    · cases hr
  · split at hr
    · cases hr
      rename_i hz
      obtain ⟨p, vs, e1, h1, t1⟩ := vw_lst hv
      refine .inr ⟨p, _, vs, e1, vw_int hw, h1, by omega, by omega, by rw [t1.length]; exact hz.2.2, fun l hl => k _ _ (Ext.new hl) (nw_new hl (t1.rep _))⟩
    · cases hr
  · cases hr
def modD : D → D → Option R
  | .int i, .int j => if 0 < j then some (.d (.int (i % j))) else none
  | _, _ => none
theorem op_modD : OpS X (binaryOp .Mod) modD := by
  refine opS_of op_mod fun m H v w d e res Q ht hv hw hr k => ?_
  unfold modD at hr
  split at hr
  · split at hr
    · cases hr
      exact ⟨_, _, vw_int hv, vw_int hw, ‹_›, k _ _ (Ext.refl H) (.int _)⟩
    · cases hr
  · cases hr
def divD : D → D → Option R
  | .int i, .int j => if 0 < j ∧ j.natAbs.log2 < 9000 then some (.d (.int (i / j))) else none
  | _, _ => none
theorem op_divD : OpS X (binaryOp .FloorDiv) divD := by
  refine opS_of op_fdivW fun m H v w d e res Q ht hv hw hr k => ?_
  unfold divD at hr
  split at hr
  · split at hr
    · cases hr
      exact ⟨_, _, vw_int hv, vw_int hw, ‹_›, k _ _ (Ext.refl H) (.int _)⟩
    · cases hr
  · cases hr
def CPowW (i j : Int) : Prop := 0 ≤ j ∧ ((i.natAbs.log2 + 1 : Nat) : Int) * j ≤ 1000000
theorem op_powW : OpR X (binaryOp .Pow) (rI CPowW fun i j => .int (i ^ j.toNat)) := opI fun i j _ _ _ _ _ hc q => by
  refine PyProof.Rows.pow_int hc.1 ?_ q
  have h1 : Builtin.Int.intBits i ≤ i.natAbs.log2 + 1 := by
    unfold Builtin.Int.intBits
    split <;> omega
  have h2 : (Builtin.Int.intBits i : Int) * j ≤ ((i.natAbs.log2 + 1 : Nat) : Int) * j := Int.mul_le_mul_of_nonneg_right (by omega) hc.1
  have h3 := hc.2
  omega
def powD : D → D → Option R
  | .int i, .int j => if 0 ≤ j ∧ ((i.natAbs.log2 + 1 : Nat) : Int) * j ≤ 1000000 then some (.d (.int (i ^ j.toNat))) else none
  | _, _ => none
theorem op_powD : OpS X (binaryOp .Pow) powD := by
  refine opS_of op_powW fun m H v w d e res Q ht hv hw hr k => ?_
  unfold powD at hr
  split at hr
  · split at hr
    · cases hr
      exact ⟨_, _, vw_int hv, vw_int hw, ‹_›, k _ _ (Ext.refl H) (.int _)⟩
    · cases hr
  · cases hr

/-! ### comparisons -/
mutual
def pyOf : D → Option PyData
  | .non => some .none
  | .bl b => some (.bool b)
  | .int i => some (.int i)
  | .str s => some (.str s)
  | .tup l => (pyAll l).map .tuple
  | .lst l => (pyAll l).map .list
  | .sls l => none
  | .ins _ _ => none
def pyAll : List D → Option (List PyData)
  | [] => some []
  | d :: l => (pyOf d).bind fun x => (pyAll l).map (x :: ·)
end
theorem sq_tup {K : PySem.W.Frag} {H : Hp} {m : List Addr} {a : Addr} {vs : List V} (h : (a ∉ m ∧ Rd H a (.tup vs)) ∨ SqT K (fun _ => none) a vs) : SqT K H a vs := by
  rcases h with ⟨_, h⟩ | h
  · exact .inl h
  · exact sqT_any h
mutual
theorem Fz.dp {K : PySem.W.Frag} {mg : Str → Option Value} {m : List Addr} {H : Hp} : ∀ {v : V} {d : D} {p : PyData}, Fz K mg m H v d → pyOf d = some p → Dp K H v p
  | _, _, _, .non, e => by cases e; exact .non
  | _, _, _, .bl b, e => by cases e; exact .bl b
  | _, _, _, .int b, e => by cases e; exact .int b
  | _, _, _, .str b, e => by cases e; exact .str b
  | _, _, _, .tup h t, e => by
    simp only [pyOf] at e
    obtain ⟨ps, e1, e2⟩ := Option.map_eq_some_iff.mp e
    subst e2
    exact .tup (sq_tup h) (FzL.dp t e1)
  | _, _, _, .lst h h2 t, e => by
    simp only [pyOf] at e
    obtain ⟨ps, e1, e2⟩ := Option.map_eq_some_iff.mp e
    subst e2
    exact .lst (.of h2) (FzL.dp t e1)
  | _, _, _, .sls h t, e => by simp only [pyOf] at e; cases e
  | _, _, _, .ins h e1 h2 t, e => by simp only [pyOf] at e; cases e
theorem FzL.dp {K : PySem.W.Frag} {mg : Str → Option Value} {m : List Addr} {H : Hp} : ∀ {v : List V} {d : List D} {p : List PyData}, FzL K mg m H v d → pyAll d = some p → DpAll K H v p
  | _, _, _, .nil, e => by simp only [pyAll] at e; cases e; exact .nil
  | _, _, _, .cons h t, e => by
    simp only [pyAll] at e
    obtain ⟨x, e1, e⟩ := Option.bind_eq_some_iff.mp e
    obtain ⟨y, e2, e⟩ := Option.map_eq_some_iff.mp e
    subst e
    exact .cons (Fz.dp h e1) (FzL.dp t e2)
end
theorem vw_dp {K : PySem.W.Frag} {mg : Str → Option Value} {m : List Addr} {H : Hp} {v : V} {d : D} {p : PyData} (h : Vw K mg m H v d) (e : pyOf d = some p) : Dp K H v p := by
  cases d with
  | lst l =>
    obtain ⟨a, vs, h1, h2, h3⟩ := h
    subst h1
    simp only [pyOf] at e
    obtain ⟨ps, e1, e2⟩ := Option.map_eq_some_iff.mp e
    subst e2
    exact .lst (.of h2) (FzL.dp h3 e1)
  | _ => exact Fz.dp h e
/-- == of two scalars -/
def eqSc : D → D → Option Bool
  | .non, .non => some true | .non, .int _ => some false | .int _, .non => some false | .non, .bl _ => some false | .bl _, .non => some false | .non, .str _ => some false | .str _, .non => some false
  | .int i, .int j => some (decide (i = j)) | .bl i, .bl j => some (decide (i = j)) | .str i, .str j => some (decide (i = j))
  | .int _, .str _ => some false | .str _, .int _ => some false | .bl _, .str _ => some false | .str _, .bl _ => some false
  | _, _ => none
def eqDt (a b : D) : Option Bool := match pyOf a, pyOf b with
  | some p, some q => if SeqAt.shaped p = true ∧ SeqAt.shaped q = true then some (PyData.eqv p q) else none
  | _, _ => none
def eqD (a b : D) : Option Bool := match eqSc a b with
  | some x => some x
  | none => eqDt a b
theorem eqSc_vw {K : PySem.W.Frag} {mg : Str → Option Value} {m : List Addr} {H : Hp} {v w : V} {d e : D} {x : Bool} (hv : Vw K mg m H v d) (hw : Vw K mg m H w e) (h : eqSc d e = some x) : scal v w = true ∧ decide (v = w) = x := by
  unfold eqSc at h
  split at h <;> cases h <;> (first | rw [vw_non hv] | rw [vw_int hv] | rw [vw_bl hv] | rw [vw_str hv]) <;> (first | rw [vw_non hw] | rw [vw_int hw] | rw [vw_bl hw] | rw [vw_str hw]) <;> refine ⟨rfl, ?_⟩ <;> simp
theorem eqDt_vw {K : PySem.W.Frag} {mg : Str → Option Value} {m : List Addr} {H : Hp} {v w : V} {d e : D} {x : Bool} (hv : Vw K mg m H v d) (hw : Vw K mg m H w e) (h : eqDt d e = some x) :
    ∃ p q, Dp K H v p ∧ Dp K H w q ∧ SeqAt.shaped p = true ∧ SeqAt.shaped q = true ∧ PyData.eqv p q = x := by
  unfold eqDt at h
  split at h
  · rename_i p q h1 h2
    split at h
    · cases h
      rename_i hs
      exact ⟨p, q, vw_dp hv h1, vw_dp hw h2, hs.1, hs.2, rfl⟩
    · cases h
  · cases h
def cEq (a b : D) : Option R := (eqD a b).map fun x => .d (.bl x)
def cNe (a b : D) : Option R := (eqD a b).map fun x => .d (.bl !x)
theorem op_eqS {k : Nat} (hr : Room k X.A) : OpS X (compareOp .Eq) cEq := by
  refine opS_of (op_eq.or (op_eqD hr.units)) fun m H v w d e res Q ht hv hw h k => ?_
  unfold cEq at h
  obtain ⟨x, hx, hy⟩ := Option.map_eq_some_iff.mp h
  subst hy
  unfold eqD at hx
  split at hx
  · rename_i y hz
    have hx := Option.some.inj hx
    subst hx
    obtain ⟨h1, h2⟩ := eqSc_vw hv hw hz
    exact .inl ⟨h1, by rw [h2]; exact k _ _ (Ext.refl H) (.bl _)⟩
  · obtain ⟨p, q, h1, h2, h3, h4, h5⟩ := eqDt_vw hv hw hx
    exact .inr ⟨p, q, h1, h2, h3, h4, by rw [h5]; exact k _ _ (Ext.refl H) (.bl _)⟩
theorem op_neS {k : Nat} (hr : Room k X.A) : OpS X (compareOp .NotEq) cNe := by
  refine opS_of (op_ne.or (op_neD hr.units)) fun m H v w d e res Q ht hv hw h k => ?_
  unfold cNe at h
  obtain ⟨x, hx, hy⟩ := Option.map_eq_some_iff.mp h
  subst hy
  unfold eqD at hx
  split at hx
  · rename_i y hz
    have hx := Option.some.inj hx
    subst hx
    obtain ⟨h1, h2⟩ := eqSc_vw hv hw hz
    exact .inl ⟨h1, by rw [h2]; exact k _ _ (Ext.refl H) (.bl _)⟩
  · obtain ⟨p, q, h1, h2, h3, h4, h5⟩ := eqDt_vw hv hw hx
    exact .inr ⟨p, q, h1, h2, h3, h4, by rw [h5]; exact k _ _ (Ext.refl H) (.bl _)⟩
def cI (f : Int → Int → Bool) : D → D → Option R
  | .int i, .int j => some (.d (.bl (f i j)))
  | _, _ => none
theorem op_cI {op : CmpOp} {f : Int → Int → Bool} (ho : OpR X (compareOp op) (rI0 fun i j => .bl (f i j))) : OpS X (compareOp op) (cI f) := by
  refine opS_of ho fun m H v w d e res Q ht hv hw hr k => ?_
  unfold cI at hr
  split at hr
  · cases hr
    exact ⟨_, _, vw_int hv, vw_int hw, k _ _ (Ext.refl H) (.bl _)⟩
  · cases hr
abbrev cLt := cI fun i j => decide (i < j)
abbrev cLe := cI fun i j => decide (i ≤ j)
abbrev cGt := cI fun i j => decide (j < i)
abbrev cGe := cI fun i j => decide (j ≤ i)
theorem op_ltS : OpS X (compareOp .Lt) cLt := op_cI op_lt
theorem op_leS : OpS X (compareOp .LtE) cLe := op_cI op_le
theorem op_gtS : OpS X (compareOp .Gt) cGt := op_cI op_gt
theorem op_geS : OpS X (compareOp .GtE) cGe := op_cI op_ge
def cIs : D → D → Option R
  | .non, .non => some (.d (.bl true))
  | _, .non => some (.d (.bl false))
  | _, _ => none
def cIsN : D → D → Option R
  | .non, .non => some (.d (.bl false))
  | _, .non => some (.d (.bl true))
  | _, _ => none
theorem vw_notnon {K : PySem.W.Frag} {mg : Str → Option Value} {m : List Addr} {H : Hp} {v : V} {d : D} (h : Vw K mg m H v d) (n : d ≠ .non) : v ≠ .non := by
  intro e
  subst e
  cases d with
  | non => exact n rfl
  | lst l => obtain ⟨a, vs, h1, _⟩ := h; cases h1
  | _ => have h : Fz K mg m H _ _ := h; cases h
theorem op_isS : OpS X (compareOp .Is) cIs := by
  refine opS_of op_isN fun m H v w d e res Q ht hv hw hr k => ?_
  unfold cIs at hr
  split at hr
  · cases hr
    refine ⟨vw_non hw, ?_⟩
    rw [vw_non hv]
    exact k _ _ (Ext.refl H) (.bl _)
  · cases hr
    rename_i hn
    refine ⟨vw_non hw, ?_⟩
    rw [decide_eq_false (vw_notnon hv fun z => hn z)]
    exact k _ _ (Ext.refl H) (.bl _)
  · cases hr
theorem op_isNS : OpS X (compareOp .IsNot) cIsN := by
  refine opS_of op_notN fun m H v w d e res Q ht hv hw hr k => ?_
  unfold cIsN at hr
  split at hr
  · cases hr
    refine ⟨vw_non hw, ?_⟩
    rw [vw_non hv]
    exact k _ _ (Ext.refl H) (.bl _)
  · cases hr
    rename_i hn
    refine ⟨vw_non hw, ?_⟩
    rw [decide_eq_false (vw_notnon hv fun z => hn z)]
    exact k _ _ (Ext.refl H) (.bl _)
  · cases hr
/-- x in y -/
def flatD : D → Bool
  | .non => true | .bl _ => true | .int _ => true | .str _ => true | _ => false
def eqF : D → D → Bool
  | .non, .non => true
  | .bl a, .bl b => a == b
  | .bl a, .int b => (if a then 1 else 0) == b
  | .int a, .bl b => a == (if b then 1 else 0)
  | .int a, .int b => a == b
  | .str a, .str b => a == b
  | _, _ => false
def inF (x : D) (l : List D) : Bool := l.any fun y => eqF y x
theorem flat_vw {K : PySem.W.Frag} {mg : Str → Option Value} {m : List Addr} {H : Hp} {v : V} {d : D} (h : Fz K mg m H v d) (f : flatD d = true) : flatV v = true := by
  cases h <;> first | rfl | cases f
theorem eqF_vw {K : PySem.W.Frag} {mg : Str → Option Value} {m : List Addr} {H : Hp} {v w : V} {d e : D} (hv : Fz K mg m H v d) (hw : Fz K mg m H w e) (fd : flatD d = true) (fe : flatD e = true) : eqV v w = eqF d e := by
  cases hv with
  | non => cases hw <;> first | rfl | cases fe
  | bl b => cases hw <;> first | rfl | cases fe
  | int b => cases hw <;> first | rfl | cases fe
  | str b => cases hw <;> first | rfl | cases fe
  | _ => cases fd
theorem flats_vw {K : PySem.W.Frag} {mg : Str → Option Value} {m : List Addr} {H : Hp} {w : V} {e : D} (hw : Fz K mg m H w e) (fe : flatD e = true) : ∀ {vs : List V} {l : List D}, FzL K mg m H vs l → l.all flatD = true → vs.all flatV = true ∧ inV w vs = inF e l
  | _, _, .nil, _ => ⟨rfl, rfl⟩
  | _, _, .cons h t, f => by
    rw [List.all_cons, Bool.and_eq_true] at f
    obtain ⟨h1, h2⟩ := flats_vw hw fe t f.2
    refine ⟨by rw [List.all_cons, flat_vw h f.1, h1]; rfl, ?_⟩
    unfold inV inF at h2 ⊢
    rw [List.any_cons, List.any_cons, eqF_vw h hw f.1 fe, h2]
def inDt (x : D) (l : List D) : Option Bool := match pyOf x, pyAll l with
  | some p, some q => if SeqAt.shaped p = true ∧ SeqAt.shaped (.list q) = true then some (q.any fun z => PyData.eqv z p) else none
  | _, _ => none
def inD (x y : D) : Option Bool := match y with
  | .lst l => if flatD x = true ∧ l.all flatD = true then some (inF x l) else inDt x l
  | .sls l => if flatD x = true ∧ l.all flatD = true then some (inF x l) else none
  | .tup l => if flatD x = true ∧ l.all flatD = true then some (inF x l) else none
  | .str s => match x with
    | .str z => if z.length = 1 then some (decide (z.cps.toList.getD 0 0 ∈ s.cps.toList)) else none
    | _ => none
  | _ => none
def cIn (x y : D) : Option R := (inD x y).map fun b => .d (.bl b)
def cNotIn (x y : D) : Option R := (inD x y).map fun b => .d (.bl !b)
theorem fl_vw {K : PySem.W.Frag} {mg : Str → Option Value} {m : List Addr} {H : Hp} {v : V} {d : D} (h : Vw K mg m H v d) (f : flatD d = true) : Fz K mg m H v d := by
  cases d with
  | lst l => cases f
  | _ => exact h
theorem sign_one {z : Str} (h : z.length = 1) : z = ⟨#[z.cps.toList.getD 0 0]⟩ := by
  obtain ⟨⟨l⟩⟩ := z
  have h : l.length = 1 := h
  match l, h with
  | [c], _ => rfl
theorem inD_vw {K : PySem.W.Frag} {mg : Str → Option Value} {m : List Addr} {H : Hp} {v w : V} {d e : D} {b : Bool} (hv : Vw K mg m H v d) (hw : Vw K mg m H w e) (h : inD d e = some b) :
    (∃ p xs, w = .ref p ∧ (SqL K H p xs ∨ SqT K H p xs) ∧ flatV v = true ∧ xs.all flatV = true ∧ inV v xs = b) ∨
    (∃ p ds, Dp K H v p ∧ Dp K H w (.list ds) ∧ SeqAt.shaped p = true ∧ SeqAt.shaped (.list ds) = true ∧ (ds.any fun z => PyData.eqv z p) = b) ∨
    (∃ (c : Nat) (z : Str), v = .str ⟨#[c]⟩ ∧ w = .str z ∧ decide (c ∈ z.cps.toList) = b) := by
  unfold inD at h
  split at h
  · split at h
    · cases h
      rename_i hf
      obtain ⟨p, xs, e1, h1, t1⟩ := vw_lst hw
      obtain ⟨h2, h3⟩ := flats_vw (fl_vw hv hf.1) hf.1 t1 hf.2
      exact .inl ⟨p, xs, e1, .inl (.of h1), flat_vw (fl_vw hv hf.1) hf.1, h2, h3⟩
    · unfold inDt at h
      split at h
      · rename_i p q h1 h2
        split at h
        · cases h
          rename_i hs
          exact .inr (.inl ⟨p, q, vw_dp hv h1, vw_dp hw (by simp only [pyOf, h2]; rfl), hs.1, hs.2, rfl⟩)
        · cases h
      · cases h
  · split at h
    · cases h
      rename_i hf
      obtain ⟨p, xs, e1, h1, t1⟩ := vw_sls hw
      obtain ⟨h2, h3⟩ := flats_vw (fl_vw hv hf.1) hf.1 t1 hf.2
      exact .inl ⟨p, xs, e1, .inl h1, flat_vw (fl_vw hv hf.1) hf.1, h2, h3⟩
    · cases h
  · split at h
    · cases h
      rename_i hf
      obtain ⟨p, xs, e1, h1, t1⟩ := vw_tup hw
      obtain ⟨h2, h3⟩ := flats_vw (fl_vw hv hf.1) hf.1 t1 hf.2
      exact .inl ⟨p, xs, e1, .inr h1, flat_vw (fl_vw hv hf.1) hf.1, h2, h3⟩
    · cases h
  · split at h
    · split at h
      · cases h
        rename_i hz
        exact .inr (.inr ⟨_, _, by rw [vw_str hv]; exact congrArg V.str (sign_one hz), vw_str hw, rfl⟩)
      · cases h
    · cases h
  · cases h
theorem op_inS {k : Nat} (hr : Room k X.A) : OpS X (compareOp .In) cIn := by
  refine opS_of (op_in_seq.or ((op_inD (by have := hr.un; omega)).or op_in_sign)) fun m H v w d e res Q ht hv hw h k => ?_
  unfold cIn at h
  obtain ⟨x, hx, hy⟩ := Option.map_eq_some_iff.mp h
  subst hy
  rcases inD_vw hv hw hx with ⟨p, xs, h1, h2, h3, h4, h5⟩ | ⟨p, ds, h1, h2, h3, h4, h5⟩ | ⟨c, z, h1, h2, h3⟩
  · exact .inl ⟨p, xs, h1, h2, h3, h4, by rw [if_neg Bool.false_ne_true, h5]; exact k _ _ (Ext.refl H) (.bl _)⟩
  · exact .inr (.inl ⟨p, ds, h1, h2, h3, h4, by rw [h5]; exact k _ _ (Ext.refl H) (.bl _)⟩)
  · exact .inr (.inr ⟨c, z, h1, h2, by rw [h3]; exact k _ _ (Ext.refl H) (.bl _)⟩)
theorem op_notInS {k : Nat} (hr : Room k X.A) : OpS X (compareOp .NotIn) cNotIn := by
  refine opS_of (op_notIn_seq.or ((op_notInD (by have := hr.un; omega)).or op_notIn_sign)) fun m H v w d e res Q ht hv hw h k => ?_
  unfold cNotIn at h
  obtain ⟨x, hx, hy⟩ := Option.map_eq_some_iff.mp h
  subst hy
  rcases inD_vw hv hw hx with ⟨p, xs, h1, h2, h3, h4, h5⟩ | ⟨p, ds, h1, h2, h3, h4, h5⟩ | ⟨c, z, h1, h2, h3⟩
  · exact .inl ⟨p, xs, h1, h2, h3, h4, by rw [if_pos rfl, h5]; exact k _ _ (Ext.refl H) (.bl _)⟩
  · exact .inr (.inl ⟨p, ds, h1, h2, h3, h4, by rw [h5]; exact k _ _ (Ext.refl H) (.bl _)⟩)
  · exact .inr (.inr ⟨c, z, h1, h2, by rw [h3]; exact k _ _ (Ext.refl H) (.bl _)⟩)
end
end Sm

namespace Sm
open PySem L2
section
variable {X : Cx} {c : C0} {a b e cnd : Expr} {es : List Expr} {pos : Pos} {fa fb fe : G → Option (R × G)} {ft fu : G → Option (Bool × G)}

/-! ## one operand -/
def eNeg (fa : G → Option (R × G)) : G → Option (R × G) := fun g => (fa g).bind fun p => match p.1 with
  | .d (.int i) => some (.d (.int (-i)), p.2)
  | _ => none
theorem se_neg (ha : SE X c a fa) : SE X c (.UnaryOp .USub a pos) (eNeg fa) := (pe_un un_neg ha).imp fun σ H Q q => by
  obtain ⟨m, g, r, g', A, e, k⟩ := q
  unfold eNeg at e
  obtain ⟨⟨r1, g1⟩, e1, e⟩ := Option.bind_eq_some_iff.mp e
  refine ⟨m, g, r1, g1, A, e1, fun v m1 H1 A1 S1 V1 N1 => ?_⟩
  cases r1 with
  | d x =>
    cases x with
    | int i =>
      cases e
      have V1 : Fz X.K X.mg m1 H1 v (.int i) := V1
      cases V1
      exact ⟨i, rfl, k _ m1 H1 A1 S1 (.int _) fun _ z => nomatch z⟩
    | _ => cases e
  | _ => cases e

/-! ## choices -/
def eIf (ft : G → Option (Bool × G)) (fa fb : G → Option (R × G)) : G → Option (R × G) := fun g => (ft g).bind fun p => if p.1 = true then fa p.2 else fb p.2
theorem se_if (hc : ST X c cnd ft) (ha : SE X c a fa) (hb : SE X c b fb) : SE X c (.IfExp cnd a b pos) (eIf ft fa fb) := (pe_ifExp hc ha hb).imp fun σ H Q q => by
  obtain ⟨m, g, r, g', A, e, k⟩ := q
  unfold eIf at e
  obtain ⟨⟨t, g1⟩, e1, e⟩ := Option.bind_eq_some_iff.mp e
  refine ⟨m, g, t, g1, A, e1, fun m1 H1 A1 S1 => ?_⟩
  cases t with
  | true => exact ⟨m1, g1, r, g', A1, e, fun v m2 H2 A2 S2 V2 N2 => k v m2 H2 A2 (S1.trans S2) V2 (N2.back S1)⟩
  | false => exact ⟨m1, g1, r, g', A1, e, fun v m2 H2 A2 S2 V2 N2 => k v m2 H2 A2 (S1.trans S2) V2 (N2.back S1)⟩
def bAnd (ft fu : G → Option (Bool × G)) : G → Option (Bool × G) := fun g => (ft g).bind fun p => if p.1 = true then fu p.2 else some (false, p.2)
def bOr (ft fu : G → Option (Bool × G)) : G → Option (Bool × G) := fun g => (ft g).bind fun p => if p.1 = true then some (true, p.2) else fu p.2
def bNot (ft : G → Option (Bool × G)) : G → Option (Bool × G) := fun g => (ft g).bind fun p => some (!p.1, p.2)
abbrev SW (X : Cx) (c : C0) (e : Expr) (f : G → Option (Bool × G)) : Prop := PW X e (tT X.K X.mg c f)
theorem _root_.L2.PW.imp {X : Cx} {e : Expr} {t t' : TT} (h : PW X e t) (k : ∀ σ H Q, t' σ H Q → t σ H Q) : PW X e t' := ⟨fun w pins s σ H Q I q => h.run w pins s σ H Q I (k σ H Q q)⟩
theorem sw_and1 (h : ST X c a ft) : SW X c (.BoolOp .And [a] pos) ft := pw_and1 h
theorem sw_or1 (h : ST X c a ft) : SW X c (.BoolOp .Or [a] pos) ft := pw_or1 h
theorem sw_and (h : ST X c a ft) (h2 : SW X c (.BoolOp .And (b :: es) pos) fu) : SW X c (.BoolOp .And (a :: b :: es) pos) (bAnd ft fu) := (pw_and h h2).imp fun σ H Q q => by
  obtain ⟨m, g, r, g', A, e, k⟩ := q
  unfold bAnd at e
  obtain ⟨⟨t, g1⟩, e1, e⟩ := Option.bind_eq_some_iff.mp e
  refine ⟨m, g, t, g1, A, e1, fun m1 H1 A1 S1 => ?_⟩
  cases t with
  | true => exact ⟨m1, g1, r, g', A1, e, fun m2 H2 A2 S2 => k m2 H2 A2 (S1.trans S2)⟩
  | false => cases e; exact k m1 H1 A1 S1
theorem sw_or (h : ST X c a ft) (h2 : SW X c (.BoolOp .Or (b :: es) pos) fu) : SW X c (.BoolOp .Or (a :: b :: es) pos) (bOr ft fu) := (pw_or h h2).imp fun σ H Q q => by
  obtain ⟨m, g, r, g', A, e, k⟩ := q
  unfold bOr at e
  obtain ⟨⟨t, g1⟩, e1, e⟩ := Option.bind_eq_some_iff.mp e
  refine ⟨m, g, t, g1, A, e1, fun m1 H1 A1 S1 => ?_⟩
  cases t with
  | true => cases e; exact k m1 H1 A1 S1
  | false => exact ⟨m1, g1, r, g', A1, e, fun m2 H2 A2 S2 => k m2 H2 A2 (S1.trans S2)⟩
theorem st_bool {op : BoolOp} (h : SW X c (.BoolOp op es pos) ft) : ST X c (.BoolOp op es pos) ft := h.pt
theorem st_not (h : ST X c a ft) : ST X c (.UnaryOp .Not a pos) (bNot ft) := (pt_not h).imp fun σ H Q q => by
  obtain ⟨m, g, r, g', A, e, k⟩ := q
  unfold bNot at e
  obtain ⟨⟨t, g1⟩, e1, e⟩ := Option.bind_eq_some_iff.mp e
  cases e
  exact ⟨m, g, t, g1, A, e1, fun m1 H1 A1 S1 => k m1 H1 A1 S1⟩
/-- as values (of bools) -/
def eAnd (fa fb : G → Option (R × G)) : G → Option (R × G) := fun g => (tst fa g).bind fun p => if p.1 = true then fb p.2 else some (.d (.bl false), p.2)
def eOr (fa fb : G → Option (R × G)) : G → Option (R × G) := fun g => (tst fa g).bind fun p => if p.1 = true then some (.d (.bl true), p.2) else fb p.2
def eNot (fa : G → Option (R × G)) : G → Option (R × G) := fun g => (tst fa g).bind fun p => some (.d (.bl !p.1), p.2)
theorem se_one {op : BoolOp} (h : SE X c a fa) : SE X c (.BoolOp op [a] pos) fa := pe_one h
theorem fz_bl {K : PySem.W.Frag} {mg : Str → Option Value} {m : List Addr} {H : Hp} {v : V} {i : Bool} (h : Fz K mg m H v (.bl i)) : v = .bl i := by cases h; rfl
theorem se_and (h : SE X c a fa) (h2 : SE X c (.BoolOp .And (b :: es) pos) fb) : SE X c (.BoolOp .And (a :: b :: es) pos) (eAnd fa fb) := (pe_and h h2).imp fun σ H Q q => by
  obtain ⟨m, g, r, g', A, e, k⟩ := q
  unfold eAnd at e
  obtain ⟨⟨t, g1⟩, e1, e⟩ := Option.bind_eq_some_iff.mp e
  refine ⟨m, g, _, g1, A, tst_inv e1, fun v m1 H1 A1 S1 V1 _ => ⟨t, fz_bl V1, ?_⟩⟩
  cases t with
  | true => exact ⟨m1, g1, r, g', A1, e, fun v m2 H2 A2 S2 V2 N2 => k v m2 H2 A2 (S1.trans S2) V2 (N2.back S1)⟩
  | false => cases e; exact k _ m1 H1 A1 S1 (.bl _) fun _ z => nomatch z
theorem se_or (h : SE X c a fa) (h2 : SE X c (.BoolOp .Or (b :: es) pos) fb) : SE X c (.BoolOp .Or (a :: b :: es) pos) (eOr fa fb) := (pe_or h h2).imp fun σ H Q q => by
  obtain ⟨m, g, r, g', A, e, k⟩ := q
  unfold eOr at e
  obtain ⟨⟨t, g1⟩, e1, e⟩ := Option.bind_eq_some_iff.mp e
  refine ⟨m, g, _, g1, A, tst_inv e1, fun v m1 H1 A1 S1 V1 _ => ⟨t, fz_bl V1, ?_⟩⟩
  cases t with
  | true => cases e; exact k _ m1 H1 A1 S1 (.bl _) fun _ z => nomatch z
  | false => exact ⟨m1, g1, r, g', A1, e, fun v m2 H2 A2 S2 V2 N2 => k v m2 H2 A2 (S1.trans S2) V2 (N2.back S1)⟩
theorem se_not (h : SE X c a fa) : SE X c (.UnaryOp .Not a pos) (eNot fa) := (pe_not h).imp fun σ H Q q => by
  obtain ⟨m, g, r, g', A, e, k⟩ := q
  unfold eNot at e
  obtain ⟨⟨t, g1⟩, e1, e⟩ := Option.bind_eq_some_iff.mp e
  cases e
  exact ⟨m, g, _, g1, A, tst_inv e1, fun v m1 H1 A1 S1 V1 _ => ⟨t, fz_bl V1, k _ m1 H1 A1 S1 (.bl _) fun _ z => nomatch z⟩⟩

/-! ## chains of two comparisons -/
def eChain (h h' : D → D → Option R) (fa fb fe : G → Option (R × G)) : G → Option (R × G) := fun g =>
  (fa g).bind fun p => (fb p.2).bind fun q => (ld q.2 p.1).bind fun x => (ld q.2 q.1).bind fun y => (h x y).bind fun r => match r with
    | .d (.bl true) => (fe q.2).bind fun s => (ld s.2 q.1).bind fun y' => (ld s.2 s.1).bind fun z => (h' y' z).bind fun r => some (r, s.2)
    | .d (.bl false) => some (.d (.bl false), q.2)
    | _ => none
theorem chain_ok {h h' : D → D → Option R} {r2 r3 : R2} {σ : St} {H : Hp} {Q : VK}
    (hr : ∀ (m : List Addr) (H : Hp) (v w : V) (d e : D) (res : R) (Q : VK), (∀ a ∈ m, H a ≠ none) → Vw X.K X.mg m H v d → Vw X.K X.mg m H w e → h d e = some res → (∀ u H', Ext H H' → ResV X.K X.mg m H H' u res → Q u H') → r2 v w H Q)
    (hr' : ∀ (m : List Addr) (H : Hp) (v w : V) (d e : D) (res : R) (Q : VK), (∀ a ∈ m, H a ≠ none) → Vw X.K X.mg m H v d → Vw X.K X.mg m H w e → h' d e = some res → (∀ u H', Ext H H' → ResV X.K X.mg m H H' u res → Q u H') → r3 v w H Q)
    (q : tE X.K X.mg c (eChain h h' fa fb fe) σ H Q) : tChain r2 r3 (tE X.K X.mg c fa) (tE X.K X.mg c fb) (tE X.K X.mg c fe) σ H Q := by
  obtain ⟨m, g, r, g', A, e, k⟩ := q
  unfold eChain at e
  obtain ⟨⟨r1, g1⟩, e1, e⟩ := Option.bind_eq_some_iff.mp e
  obtain ⟨⟨r2, g2⟩, e2, e⟩ := Option.bind_eq_some_iff.mp e
  obtain ⟨d1, e3, e⟩ := Option.bind_eq_some_iff.mp e
  obtain ⟨d2, e4, e⟩ := Option.bind_eq_some_iff.mp e
  obtain ⟨r', e5, e⟩ := Option.bind_eq_some_iff.mp e
  refine ⟨m, g, r1, g1, A, e1, fun v1 m1 H1 A1 S1 V1 N1 => ⟨m1, g1, r2, g2, A1, e2, fun v2 m2 H2 A2 S2 V2 N2 => ?_⟩⟩
  refine hr m2 H2 v1 v2 d1 d2 r' _ A2.trk (VR.ld A2 (V1.step A1 S2) e3) (VR.ld A2 V2 e4) e5 fun u H3 x hv => ?_
  have A3 := A2.ext x
  have S3 : Stp m2 g2 σ H2 m2 g2 σ H3 := Stp.ext x
  split at e
  · have hv : Fz X.K X.mg m2 H3 u (.bl true) := hv
    obtain ⟨⟨r4, g4⟩, e6, e⟩ := Option.bind_eq_some_iff.mp e
    obtain ⟨d3, e7, e⟩ := Option.bind_eq_some_iff.mp e
    obtain ⟨d4, e8, e⟩ := Option.bind_eq_some_iff.mp e
    obtain ⟨r5, e9, e⟩ := Option.bind_eq_some_iff.mp e
    cases e
    refine ⟨true, fz_bl hv, iteT ⟨m2, g2, r4, g4, A3, e6, fun v4 m4 H4 A4 S4 V4 N4 => ?_⟩⟩
    refine hr' m4 H4 v2 v4 d3 d4 _ Q A4.trk (VR.ld A4 ((V2.step A2 S3).step A3 S4) e7) (VR.ld A4 V4 e8) e9 fun u' H5 x' hv' => ?_
    obtain ⟨m5, A5, S5, V5, N5⟩ := res_ok A4 x' hv'
    have S := (((S1.trans S2).trans S3).trans S4)
    exact k u' m5 H5 A5 (S.trans S5) V5 (N5.back S)
  · have hv : Fz X.K X.mg m2 H3 u (.bl false) := hv
    cases e
    exact ⟨false, fz_bl hv, iteF (k _ m2 H3 A3 ((S1.trans S2).trans S3) (.bl _) fun _ z => nomatch z)⟩
  · cases e
theorem st_chain {op op' : CmpOp} {h h' : D → D → Option R} (ho : OpS X (compareOp op) h) (ho' : OpS X (compareOp op') h') (ha : SE X c a fa) (hb : SE X c b fb) (he : SE X c e fe)
    (hm : lastMarks [op, op'] [b, e] = false := by with_unfolding_all rfl) : ST X c (.Compare a [op, op'] [b, e] pos) (tst (eChain h h' fa fb fe)) := by
  obtain ⟨r, h1, h2⟩ := ho
  obtain ⟨r', h3, h4⟩ := ho'
  exact (pt_chain h1 h3 ha hb he hm).imp fun σ H Q q => chain_ok h2 h4 (tst_ok q)
theorem se_chain {op op' : CmpOp} {h h' : D → D → Option R} (ho : OpS X (compareOp op) h) (ho' : OpS X (compareOp op') h') (ha : SE X c a fa) (hb : SE X c b fb) (he : SE X c e fe)
    (hm : lastMarks [op, op'] [b, e] = false := by with_unfolding_all rfl) : SE X c (.Compare a [op, op'] [b, e] pos) (eChain h h' fa fb fe) := by
  obtain ⟨r, h1, h2⟩ := ho
  obtain ⟨r', h3, h4⟩ := ho'
  exact (pe_chain h1 h3 ha hb he hm).imp fun σ H Q q => chain_ok h2 h4 q

/-! ## argument lists, displays -/
def aNil : G → Option (List R × G) := fun g => some ([], g)
def aCons (f : G → Option (R × G)) (fr : G → Option (List R × G)) : G → Option (List R × G) := fun g => (f g).bind fun p => (fr p.2).bind fun q => some (p.1 :: q.1, q.2)
variable {fs : G → Option (List R × G)}
theorem sa_nil : SA X c [] aNil := pa_nil.imp fun σ H Q q => by
  obtain ⟨m, g, r, g', A, e, k⟩ := q
  cases e
  exact k [] m H A Stp.refl trivial trivial
theorem VRs.step {K : PySem.W.Frag} {mg : Str → Option Value} {m m1 : List Addr} {g g1 : G} {σ : St} {H H1 : Hp} (A : Abs K mg c m g σ H) (s : Stp m g σ H m1 g1 σ H1) : ∀ {vs : List V} {rs : List R}, VRs K mg c m g σ H vs rs → VRs K mg c m1 g1 σ H1 vs rs
  | [], [], _ => trivial
  | _ :: _, _ :: _, h => ⟨h.1.step A s, VRs.step A s h.2⟩
  | [], _ :: _, h => h.elim
  | _ :: _, [], h => h.elim
theorem Nws.back {m m1 : List Addr} {g g1 : G} {σ σ1 : St} {H H1 : Hp} (s : Stp m g σ H m1 g1 σ1 H1) : ∀ {vs : List V} {rs : List R}, Nws H1 vs rs → Nws H vs rs
  | [], [], _ => trivial
  | _ :: _, _ :: _, h => ⟨h.1.back s, Nws.back s h.2⟩
  | [], _ :: _, h => h.elim
  | _ :: _, [], h => h.elim
theorem sa_cons (h : SE X c e fe) (hr : SA X c es fs) (hs : starEach (e :: es) X.env = (false, eval e X.env) :: starEach es X.env := by rfl) : SA X c (e :: es) (aCons fe fs) := (pa_cons h hr hs).imp fun σ H Q q => by
  obtain ⟨m, g, r, g', A, e, k⟩ := q
  unfold aCons at e
  obtain ⟨⟨r1, g1⟩, e1, e⟩ := Option.bind_eq_some_iff.mp e
  obtain ⟨⟨r2, g2⟩, e2, e⟩ := Option.bind_eq_some_iff.mp e
  cases e
  refine ⟨m, g, r1, g1, A, e1, fun v1 m1 H1 A1 S1 V1 N1 => ⟨m1, g1, r2, g2, A1, e2, fun vs m2 H2 A2 S2 V2 N2 => ?_⟩⟩
  exact k (v1 :: vs) m2 H2 A2 (S1.trans S2) ⟨V1.step A1 S2, V2⟩ ⟨N1, N2.back S1⟩
def VRws (K : PySem.W.Frag) (mg : Str → Option Value) (c : C0) (m : List Addr) (g : G) (σ : St) (H : Hp) : List V → List R → Prop
  | [], [] => True
  | v :: vs, r :: rs => VRw K mg c m g σ H v r ∧ VRws K mg c m g σ H vs rs
  | _, _ => False
theorem VRs.w {K : PySem.W.Frag} {mg : Str → Option Value} {m : List Addr} {g : G} {σ : St} {H : Hp} : ∀ {vs : List V} {rs : List R}, VRs K mg c m g σ H vs rs → VRws K mg c m g σ H vs rs
  | [], [], _ => trivial
  | _ :: _, _ :: _, h => ⟨h.1.w, VRs.w h.2⟩
  | [], _ :: _, h => h.elim
  | _ :: _, [], h => h.elim
theorem VRws.sub {K : PySem.W.Frag} {mg : Str → Option Value} {m m1 : List Addr} {g g1 : G} {σ : St} {H : Hp} (hm : ∀ a ∈ m1, a ∈ m) (ho : ∀ a, Own g1 σ a → Own g σ a) : ∀ {vs : List V} {rs : List R}, VRws K mg c m g σ H vs rs → VRws K mg c m1 g1 σ H vs rs
  | [], [], _ => trivial
  | _ :: _, _ :: _, h => ⟨h.1.sub hm ho, VRws.sub hm ho h.2⟩
  | [], _ :: _, h => h.elim
  | _ :: _, [], h => h.elim
theorem frzs_ok {K : PySem.W.Frag} {mg : Str → Option Value} {m : List Addr} {g : G} {σ : St} {H H1 : Hp} : ∀ {vs : List V} {rs : List R} {ds : List D} {m1 : List Addr} {g1 g2 : G}, Stp m g σ H m1 g1 σ H1 → Abs K mg c m1 g1 σ H1 → VRws K mg c m1 g1 σ H1 vs rs → Nws H vs rs → frzs g1 rs = some (ds, g2) →
    ∃ m2, Abs K mg c m2 g2 σ H1 ∧ Stp m g σ H m2 g2 σ H1 ∧ FzL K mg m2 H1 vs ds ∧ (∀ a ∈ m2, a ∈ m1) ∧ (∀ a, Own g2 σ a → Own g1 σ a)
  | [], [], _, m1, _, _, S, A, _, _, e => by
    cases e
    exact ⟨m1, A, S, .nil, fun _ z => z, fun _ z => z⟩
  | v :: vs, r :: rs, _, m1, g1, _, S, A, h, n, e => by
    unfold frzs at e
    obtain ⟨⟨d, g2⟩, e1, e⟩ := Option.bind_eq_some_iff.mp e
    obtain ⟨⟨ds, g3⟩, e2, e⟩ := Option.bind_eq_some_iff.mp e
    cases e
    obtain ⟨m2, A2, S2, F2, M2, O2⟩ := frz_ok S A h.1 n.1 e1
    obtain ⟨m3, A3, S3, F3, M3, O3⟩ := frzs_ok S2 A2 (h.2.sub M2 O2) n.2 e2
    exact ⟨m3, A3, S3, .cons (F2.map fun a o z w => ⟨fun q => z (M3 a q), w⟩) F3, fun a q => M2 a (M3 a q), fun a q => O2 a (O3 a q)⟩
  | [], _ :: _, _, _, _, _, _, _, h, _, _ => h.elim
  | _ :: _, [], _, _, _, _, _, _, h, _, _ => h.elim
def eTup (fs : G → Option (List R × G)) : G → Option (R × G) := fun g => (fs g).bind fun p => (frzs p.2 p.1).bind fun q => if q.1.length ≤ 1000 then some (.d (.tup q.1), q.2) else none
def eLst (fs : G → Option (List R × G)) : G → Option (R × G) := fun g => (fs g).bind fun p => (frzs p.2 p.1).bind fun q => if q.1.length ≤ 1000 then some (.nw q.1, q.2) else none
theorem le_size {n : Nat} (h : n ≤ 1000) : n ≤ sizeLine := Nat.le_trans h (by decide)
theorem se_tup {x1} (h : SA X c es fs) : SE X c (.Tuple es x1 pos) (eTup fs) := (pe_tup h).imp fun σ H Q q => by
  obtain ⟨m, g, r, g', A, e, k⟩ := q
  unfold eTup at e
  obtain ⟨⟨rs, g1⟩, e1, e⟩ := Option.bind_eq_some_iff.mp e
  obtain ⟨⟨ds, g2⟩, e2, e⟩ := Option.bind_eq_some_iff.mp e
  split at e
  · rename_i hl
    cases e
    refine ⟨m, g, rs, g1, A, e1, fun vs m1 H1 A1 S1 V1 N1 => ?_⟩
    obtain ⟨m2, A2, S2, F2, _⟩ := frzs_ok S1 A1 V1.w N1 e2
    refine ⟨by rw [F2.length]; exact le_size hl, fun p hp => ?_⟩
    exact k _ m2 _ (A2.ext (Ext.new hp)) (S2.trans (Stp.ext (Ext.new hp))) (tup_new A2.trk hp F2) fun _ z => nomatch z
  · cases e
theorem se_lst (h : SA X c es fs) : SE X c (.List es pos) (eLst fs) := (pe_lst h).imp fun σ H Q q => by
  obtain ⟨m, g, r, g', A, e, k⟩ := q
  unfold eLst at e
  obtain ⟨⟨rs, g1⟩, e1, e⟩ := Option.bind_eq_some_iff.mp e
  obtain ⟨⟨ds, g2⟩, e2, e⟩ := Option.bind_eq_some_iff.mp e
  split at e
  · rename_i hl
    cases e
    refine ⟨m, g, rs, g1, A, e1, fun vs m1 H1 A1 S1 V1 N1 => ?_⟩
    obtain ⟨m2, A2, S2, F2, _⟩ := frzs_ok S1 A1 V1.w N1 e2
    refine ⟨by rw [F2.length]; exact le_size hl, fun p hp => ?_⟩
    obtain ⟨m3, A3, S3, V3, N3⟩ := res_ok (v := .ref p) (r := .nw ds) A2 (Ext.new hp) (nw_new hp F2)
    exact k _ m3 _ A3 (S2.trans S3) V3 (N3.back S2)
  · cases e

/-! ## subscripts, slices -/
def IxS (X : Cx) (h : D → D → Option R) : Prop :=
  ∃ r : R2, IxR X r ∧ ∀ (m : List Addr) (H : Hp) (v w : V) (d e : D) (res : R) (Q : VK), (∀ a ∈ m, H a ≠ none) → Vw X.K X.mg m H v d → Vw X.K X.mg m H w e → h d e = some res →
    (∀ u H', Ext H H' → ResV X.K X.mg m H H' u res → Q u H') → r v w H Q
theorem se_ixr {h : D → D → Option R} (ho : IxS X h) (ha : SE X c a fa) (hb : SE X c b fb) (hs : PlainIx b) : SE X c (.Subscript a b pos) (eBin h fa fb) := by
  obtain ⟨r, h1, h2⟩ := ho
  exact (pe_ix h1 ha hb hs).imp fun σ H Q => bin_ok h2
def ixD : D → D → Option R
  | .lst l, .int i => (atI l i).map .d
  | .sls l, .int i => (atI l i).map .d
  | .tup l, .int i => (atI l i).map .d
  | .str s, .int i => if s.length ≤ sizeLine then (atI s.cps.toList i).map fun c => .d (.str ⟨#[c]⟩) else none
  | _, _ => none
theorem atI_get {K : PySem.W.Frag} {mg : Str → Option Value} {m : List Addr} {H : Hp} {vs : List V} {l : List D} {i : Int} {r : R} (t : FzL K mg m H vs l) (e : (atI l i).map R.d = some r) : ∃ v d, atI vs i = some v ∧ r = .d d ∧ Fz K mg m H v d := by
  obtain ⟨d, e1, e2⟩ := Option.map_eq_some_iff.mp e
  unfold atI at e1 ⊢
  obtain ⟨j, e3, e4⟩ := Option.bind_eq_some_iff.mp e1
  obtain ⟨v, h1, h2⟩ := t.get e4
  exact ⟨v, d, by rw [t.length, e3]; exact h1, e2.symm, h2⟩
theorem ix_S : IxS X ixD := by
  refine ⟨_, ix_seq, fun m H v w d e res Q ht hv hw hr k => ?_⟩
  unfold ixD at hr
  split at hr
  · obtain ⟨p, vs, e1, h1, t1⟩ := vw_lst hv
    obtain ⟨x, d, h2, h3, h4⟩ := atI_get t1 hr
    subst h3
    exact .inl ⟨p, vs, _, x, e1, vw_int hw, .of h1, h2, k _ _ (Ext.refl H) h4⟩
  · obtain ⟨p, vs, e1, h1, t1⟩ := vw_sls hv
    obtain ⟨x, d, h2, h3, h4⟩ := atI_get t1 hr
    subst h3
    exact .inl ⟨p, vs, _, x, e1, vw_int hw, h1, h2, k _ _ (Ext.refl H) h4⟩
  · obtain ⟨p, vs, e1, h1, t1⟩ := vw_tup hv
    obtain ⟨x, d, h2, h3, h4⟩ := atI_get t1 hr
    subst h3
    exact .inr (.inl ⟨p, vs, _, x, e1, vw_int hw, h1, h2, k _ _ (Ext.refl H) h4⟩)
  · split at hr
    · rename_i hz
      obtain ⟨c, e1, e2⟩ := Option.map_eq_some_iff.mp hr
      subst e2
      exact .inr (.inr ⟨_, _, c, vw_str hv, vw_int hw, hz, e1, k _ _ (Ext.refl H) (.str _)⟩)
    · cases hr
  · cases hr
theorem se_ix (ha : SE X c a fa) (hb : SE X c b fb) (hs : PlainIx b := by exact fun _ _ => rfl) : SE X c (.Subscript a b pos) (eBin ixD fa fb) := se_ixr ix_S ha hb hs

abbrev SO (X : Cx) (c : C0) (e : Option Expr) (f : G → Option (Option Int × G)) : Prop := PO X e (fun σ H Q => ∃ m g o g', Abs X.K X.mg c m g σ H ∧ f g = some (o, g') ∧ ∀ m' H', Abs X.K X.mg c m' g' σ H' → Stp m g σ H m' g' σ H' → Q o H')
theorem _root_.L2.PO.imp {X : Cx} {e : Option Expr} {t t' : TO} (h : PO X e t) (k : ∀ σ H Q, t' σ H Q → t σ H Q) : PO X e t' := ⟨fun pins s σ H Q I q => h.run pins s σ H Q I (k σ H Q q)⟩
def oNone : G → Option (Option Int × G) := fun g => some (none, g)
def oSome (fe : G → Option (R × G)) : G → Option (Option Int × G) := fun g => (fe g).bind fun p => match p.1 with
  | .d (.int i) => some (some i, p.2)
  | _ => none
theorem so_none : SO X c none oNone := po_none.imp fun σ H Q q => by
  obtain ⟨m, g, r, g', A, e, k⟩ := q
  cases e
  exact k m H A Stp.refl
theorem so_some (h : SE X c e fe) : SO X c (some e) (oSome fe) := (po_some h).imp fun σ H Q q => by
  obtain ⟨m, g, r, g', A, e, k⟩ := q
  unfold oSome at e
  obtain ⟨⟨r1, g1⟩, e1, e⟩ := Option.bind_eq_some_iff.mp e
  refine ⟨m, g, r1, g1, A, e1, fun v m1 H1 A1 S1 V1 N1 => ?_⟩
  cases r1 with
  | d x =>
    cases x with
    | int i =>
      cases e
      have V1 : Fz X.K X.mg m1 H1 v (.int i) := V1
      cases V1
      exact ⟨i, rfl, k m1 H1 A1 S1⟩
    | _ => cases e
  | _ => cases e
def cutD (xs : List D) (lo hi : Option Int) : List D := (xs.drop (HT.sIx xs.length 0 lo)).take (HT.sIx xs.length xs.length hi - HT.sIx xs.length 0 lo)
theorem FzL.cut {K : PySem.W.Frag} {mg : Str → Option Value} {m : List Addr} {H : Hp} {vs : List V} {l : List D} (t : FzL K mg m H vs l) (lo hi : Option Int) : FzL K mg m H (cutV vs lo hi) (cutD l lo hi) := by
  unfold cutV cutD
  rw [t.length]
  exact (t.drop _).take _
def slD (d : D) (lo hi : Option Int) : Option R := match d with
  | .lst l => some (.nw (cutD l lo hi))
  | .sls l => some (.nw (cutD l lo hi))
  | .str s => if s.length ≤ sizeLine then some (.d (.str (cutS s lo hi))) else none
  | .tup l => some (.d (.tup (cutD l lo hi)))
  | _ => none
def eSl (fa : G → Option (R × G)) (fl fh : G → Option (Option Int × G)) : G → Option (R × G) := fun g =>
  (fa g).bind fun p => (fl p.2).bind fun q => (fh q.2).bind fun s => (ld s.2 p.1).bind fun x => (slD x q.1 s.1).bind fun r => some (r, s.2)
theorem HTsIx_full {n : Nat} {lo hi : Option Int} {l : List D} (h : HT.sIx l.length 0 lo = 0 ∧ HT.sIx l.length l.length hi = l.length) : cutD l lo hi = l := by
  unfold cutD
  rw [h.1, h.2, List.drop_zero, Nat.sub_zero, List.take_length]
theorem slD_vw {v : V} {d : D} {lo hi : Option Int} {res : R} {m : List Addr} {H : Hp} {Q : VK} (ht : ∀ a ∈ m, H a ≠ none) (hv : Vw X.K X.mg m H v d) (hr : slD d lo hi = some res)
    (k : ∀ u H', Ext H H' → ResV X.K X.mg m H H' u res → Q u H') : rSlL X.K v lo hi H Q ∨ (rSlS v lo hi H Q ∨ rSlA X.K v lo hi H Q) := by
  unfold slD at hr
  split at hr
  · cases hr
    obtain ⟨p, vs, e1, h1, t1⟩ := vw_lst hv
    exact .inl ⟨p, vs, e1, .of h1, fun l hl => k _ _ (Ext.new hl) (nw_new hl (t1.cut lo hi))⟩
  · cases hr
    obtain ⟨p, vs, e1, h1, t1⟩ := vw_sls hv
    exact .inl ⟨p, vs, e1, h1, fun l hl => k _ _ (Ext.new hl) (nw_new hl (t1.cut lo hi))⟩
  · split at hr
    · cases hr
      exact .inr (.inl ⟨_, vw_str hv, ‹_›, k _ _ (Ext.refl H) (.str _)⟩)
    · cases hr
  · cases hr
    rename_i l
    obtain ⟨p, vs, e1, h1, t1⟩ := vw_tup hv
    refine .inr (.inr ⟨p, vs, e1, h1, fun hw => ?_, fun _ q hq => k _ _ (Ext.new hq) (tup_new ht hq (t1.cut lo hi))⟩)
    subst e1
    rw [t1.length] at hw
    have hv : Fz X.K X.mg m H (.ref p) (.tup l) := hv
    exact k _ _ (Ext.refl H) (by show Fz _ _ _ _ _ (.tup (cutD l lo hi)); rw [HTsIx_full (n := 0) hw]; exact hv)
  · cases hr
theorem se_sl {lo hi : Option Expr} {p2 : Pos} {fl fh : G → Option (Option Int × G)} (ha : SE X c a fa) (hl : SO X c lo fl) (hh : SO X c hi fh) : SE X c (.Subscript a (.Slice lo hi none p2) pos) (eSl fa fl fh) :=
  (pe_slice (sl_list.or (sl_str.or sl_tupA)) ha hl hh).imp fun σ H Q q => by
    obtain ⟨m, g, r, g', A, e, k⟩ := q
    unfold eSl at e
    obtain ⟨⟨r1, g1⟩, e1, e⟩ := Option.bind_eq_some_iff.mp e
    obtain ⟨⟨o1, g2⟩, e2, e⟩ := Option.bind_eq_some_iff.mp e
    obtain ⟨⟨o2, g3⟩, e3, e⟩ := Option.bind_eq_some_iff.mp e
    obtain ⟨d, e4, e⟩ := Option.bind_eq_some_iff.mp e
    obtain ⟨r', e5, e⟩ := Option.bind_eq_some_iff.mp e
    cases e
    refine ⟨m, g, r1, g1, A, e1, fun v1 m1 H1 A1 S1 V1 N1 => ⟨m1, g1, o1, g2, A1, e2, fun m2 H2 A2 S2 => ⟨m2, g2, o2, g3, A2, e3, fun m3 H3 A3 S3 => ?_⟩⟩⟩
    refine slD_vw A3.trk (VR.ld A3 ((V1.step A1 S2).step A2 S3) e4) e5 fun u H4 x hv => ?_
    obtain ⟨m4, A4, S4, V4, N4⟩ := res_ok A3 x hv
    exact k u m4 H4 A4 (((S1.trans S2).trans S3).trans S4) V4 (N4.back ((S1.trans S2).trans S3))
def eRev (fa : G → Option (R × G)) : G → Option (R × G) := fun g => (fa g).bind fun p => match ld p.2 p.1 with
  | some (.lst l) => some (.nw l.reverse, p.2)
  | some (.sls l) => some (.nw l.reverse, p.2)
  | _ => none
theorem se_rev {k : Nat} {p1 p2 p3 pos : Pos} (ha : SE X c a fa) : SE X c (.Subscript a (.Slice none none (some (.UnaryOp .USub (.Constant (.int 1) k p1) p2)) p3) pos) (eRev fa) := (pe_revL ha).imp fun σ H Q q => by
  obtain ⟨m, g, r, g', A, e, k⟩ := q
  unfold eRev at e
  obtain ⟨⟨r1, g1⟩, e1, e⟩ := Option.bind_eq_some_iff.mp e
  refine ⟨m, g, r1, g1, A, e1, fun v1 m1 H1 A1 S1 V1 N1 => ?_⟩
  split at e
  · cases e
    obtain ⟨p, vs, h1, h2, t1⟩ := vw_lst (VR.ld A1 V1 ‹_›)
    refine ⟨p, vs, h1, .of h2, fun q hq => ?_⟩
    obtain ⟨m3, A3, S3, V3, N3⟩ := res_ok (v := .ref q) A1 (Ext.new hq) (nw_new hq t1.rev)
    exact k _ m3 _ A3 (S1.trans S3) V3 (N3.back S1)
  · cases e
    obtain ⟨p, vs, h1, h2, t1⟩ := vw_sls (VR.ld A1 V1 ‹_›)
    refine ⟨p, vs, h1, h2, fun q hq => ?_⟩
    obtain ⟨m3, A3, S3, V3, N3⟩ := res_ok (v := .ref q) A1 (Ext.new hq) (nw_new hq t1.rev)
    exact k _ m3 _ A3 (S1.trans S3) V3 (N3.back S1)
  · cases e

/-! ## built-in functions and types, called -/
def Vws (K : PySem.W.Frag) (mg : Str → Option Value) (m : List Addr) (H : Hp) : List V → List D → Prop
  | [], [] => True
  | v :: vs, d :: ds => Vw K mg m H v d ∧ Vws K mg m H vs ds
  | _, _ => False
def lds (g : G) : List R → Option (List D)
  | [] => some []
  | r :: rs => (ld g r).bind fun d => (lds g rs).bind fun ds => some (d :: ds)
theorem VRs.lds {K : PySem.W.Frag} {mg : Str → Option Value} {m : List Addr} {g : G} {σ : St} {H : Hp} (A : Abs K mg c m g σ H) : ∀ {vs : List V} {rs : List R} {ds : List D}, VRs K mg c m g σ H vs rs → lds g rs = some ds → Vws K mg m H vs ds
  | [], [], _, _, e => by cases e; trivial
  | v :: vs, r :: rs, _, h, e => by
    unfold Sm.lds at e
    obtain ⟨d, e1, e⟩ := Option.bind_eq_some_iff.mp e
    obtain ⟨ds, e2, e⟩ := Option.bind_eq_some_iff.mp e
    cases e
    exact ⟨VR.ld A h.1 e1, VRs.lds A h.2 e2⟩
  | [], _ :: _, _, h, _ => h.elim
  | _ :: _, [], _, h, _ => h.elim
def CallS (X : Cx) (f : Value) (h : List D → Option R) : Prop :=
  ∃ r : List V → Hp → VK → Prop, CallR X f r ∧ ∀ (m : List Addr) (H : Hp) (vs : List V) (ds : List D) (res : R) (Q : VK), (∀ a ∈ m, H a ≠ none) → Vws X.K X.mg m H vs ds → h ds = some res →
    (∀ u H', Ext H H' → ResV X.K X.mg m H H' u res → Q u H') → r vs H Q
def eCB (h : List D → Option R) (fs : G → Option (List R × G)) : G → Option (R × G) := fun g => (fs g).bind fun p => (lds p.2 p.1).bind fun ds => (h ds).bind fun r => some (r, p.2)
theorem cb_ok {h : List D → Option R} {r : List V → Hp → VK → Prop} {σ : St} {H : Hp} {Q : VK} (hr : ∀ (m : List Addr) (H : Hp) (vs : List V) (ds : List D) (res : R) (Q : VK), (∀ a ∈ m, H a ≠ none) → Vws X.K X.mg m H vs ds → h ds = some res →
    (∀ u H', Ext H H' → ResV X.K X.mg m H H' u res → Q u H') → r vs H Q) (q : tE X.K X.mg c (eCB h fs) σ H Q) : tCB r (tA X.K X.mg c fs) σ H Q := by
  obtain ⟨m, g, r, g', A, e, k⟩ := q
  unfold eCB at e
  obtain ⟨⟨rs, g1⟩, e1, e⟩ := Option.bind_eq_some_iff.mp e
  obtain ⟨ds, e2, e⟩ := Option.bind_eq_some_iff.mp e
  obtain ⟨r', e3, e⟩ := Option.bind_eq_some_iff.mp e
  cases e
  refine ⟨m, g, rs, g1, A, e1, fun vs m1 H1 A1 S1 V1 N1 => hr m1 H1 vs ds _ Q A1.trk (V1.lds A1 e2) e3 fun u H2 x hv => ?_⟩
  obtain ⟨m2, A2, S2, V2, N2⟩ := res_ok A1 x hv
  exact k u m2 H2 A2 (S1.trans S2) V2 (N2.back S1)
theorem se_cb {h : List D → Option R} {id : String} {x : Str} {p : Pos} (ho : CallS X (.builtin id) h) (hg : Gl X x) (hm : X.mg x = none) (hv : bootBuiltins x = some (.builtin id)) (ha : SA X c (e :: es) fs) (hn : x ≠ "__name__" := by decide) (hdb : (x == ("__debug__" : Str)) = false := by decide)
    (he : starEach (e :: es) X.env = (false, eval e X.env) :: starEach es X.env := by rfl) (hpl : (backTo pos (starEach es X.env)).any (·.1) = false := by rfl) : SE X c (.Call (.Name x p) (e :: es) [] pos) (eCB h fs) := by
  obtain ⟨r, h1, h2⟩ := ho
  exact (pe_callB h1 hg hm hv ha hn hdb he hpl).imp fun σ H Q => cb_ok h2
theorem se_cty {h : List D → Option R} {T : String} {x : Str} {p : Pos} (ho : CallS X (.type T) h) (hg : Gl X x) (hm : X.mg x = none) (hv : bootBuiltins x = some (.type T)) (ha : SA X c (e :: es) fs) (hn : x ≠ "__name__" := by decide) (hdb : (x == ("__debug__" : Str)) = false := by decide)
    (he : starEach (e :: es) X.env = (false, eval e X.env) :: starEach es X.env := by rfl) (hpl : (backTo pos (starEach es X.env)).any (·.1) = false := by rfl) : SE X c (.Call (.Name x p) (e :: es) [] pos) (eCB h fs) := by
  obtain ⟨r, h1, h2⟩ := ho
  exact (pe_callTy h1 hg hm hv ha hn hdb he hpl).imp fun σ H Q => cb_ok h2
theorem vws1 {K : PySem.W.Frag} {mg : Str → Option Value} {m : List Addr} {H : Hp} {vs : List V} {d : D} (h : Vws K mg m H vs [d]) : ∃ v, vs = [v] ∧ Vw K mg m H v d := by
  match vs, h with
  | [v], h => exact ⟨v, rfl, h.1⟩
theorem vws2 {K : PySem.W.Frag} {mg : Str → Option Value} {m : List Addr} {H : Hp} {vs : List V} {d e : D} (h : Vws K mg m H vs [d, e]) : ∃ v w, vs = [v, w] ∧ Vw K mg m H v d ∧ Vw K mg m H w e := by
  match vs, h with
  | [v, w], h => exact ⟨v, w, rfl, h.1, h.2.1⟩
def lenD : List D → Option R
  | [.lst l] => some (.d (.int (l.length : Int)))
  | [.sls l] => some (.d (.int (l.length : Int)))
  | [.tup l] => some (.d (.int (l.length : Int)))
  | [.str s] => if s.length ≤ sizeLine then some (.d (.int (s.length : Int))) else none
  | _ => none
theorem c_len : CallS X (.builtin "len") lenD := by
  refine ⟨_, call_len_seq.or call_len_str, fun m H vs ds res Q ht hv hr k => ?_⟩
  unfold lenD at hr
  split at hr
  · cases hr
    obtain ⟨v, rfl, hx⟩ := vws1 hv
    obtain ⟨p, vs, e1, h1, t1⟩ := vw_lst hx
    exact .inl ⟨p, vs, by rw [e1], .inl (.of h1), by rw [t1.length]; exact k _ _ (Ext.refl H) (.int _)⟩
  · cases hr
    obtain ⟨v, rfl, hx⟩ := vws1 hv
    obtain ⟨p, vs, e1, h1, t1⟩ := vw_sls hx
    exact .inl ⟨p, vs, by rw [e1], .inl h1, by rw [t1.length]; exact k _ _ (Ext.refl H) (.int _)⟩
  · cases hr
    obtain ⟨v, rfl, hx⟩ := vws1 hv
    obtain ⟨p, vs, e1, h1, t1⟩ := vw_tup hx
    exact .inl ⟨p, vs, by rw [e1], .inr h1, by rw [t1.length]; exact k _ _ (Ext.refl H) (.int _)⟩
  · split at hr
    · cases hr
      obtain ⟨v, rfl, hx⟩ := vws1 hv
      exact .inr ⟨_, by rw [vw_str hx], ‹_›, k _ _ (Ext.refl H) (.int _)⟩
    · cases hr
  · cases hr
def absD : List D → Option R
  | [.int i] => some (.d (.int (if i < 0 then -i else i)))
  | _ => none
theorem c_abs : CallS X (.builtin "abs") absD := by
  refine ⟨_, call_abs, fun m H vs ds res Q ht hv hr k => ?_⟩
  unfold absD at hr
  split at hr
  · cases hr
    obtain ⟨v, rfl, hx⟩ := vws1 hv
    exact ⟨_, by rw [vw_int hx], k _ _ (Ext.refl H) (.int _)⟩
  · cases hr
def maxD : List D → Option R
  | [.int i, .int j] => some (.d (.int (if j > i then j else i)))
  | _ => none
theorem c_max (hc : X.calm = true := by rfl) : CallS X (.builtin "max") maxD := by
  refine ⟨_, call_max2 hc, fun m H vs ds res Q ht hv hr k => ?_⟩
  unfold maxD at hr
  split at hr
  · cases hr
    obtain ⟨v, w, rfl, hx, hw⟩ := vws2 hv
    exact ⟨_, _, by rw [vw_int hx, vw_int hw], k _ _ (Ext.refl H) (.int _)⟩
  · cases hr
def minD : List D → Option R
  | [.int i, .int j] => some (.d (.int (if j < i then j else i)))
  | _ => none
theorem c_min (hc : X.calm = true := by rfl) : CallS X (.builtin "min") minD := by
  refine ⟨_, call_min2 hc, fun m H vs ds res Q ht hv hr k => ?_⟩
  unfold minD at hr
  split at hr
  · cases hr
    obtain ⟨v, w, rfl, hx, hw⟩ := vws2 hv
    exact ⟨_, _, by rw [vw_int hx, vw_int hw], k _ _ (Ext.refl H) (.int _)⟩
  · cases hr
def intD : List D → Option R
  | [.int i] => some (.d (.int i))
  | [.bl b] => some (.d (.int (if b then 1 else 0)))
  | [.str s] => if s.length ≤ 640 then (PySem.intText? s).map fun n => .d (.int n) else none
  | _ => none
theorem c_int : CallS X (.type "int") intD := by
  refine ⟨_, call_int1.or call_int_str, fun m H vs ds res Q ht hv hr k => ?_⟩
  unfold intD at hr
  split at hr
  · cases hr
    obtain ⟨v, rfl, hx⟩ := vws1 hv
    exact .inl (.inl ⟨_, by rw [vw_int hx], k _ _ (Ext.refl H) (.int _)⟩)
  · cases hr
    obtain ⟨v, rfl, hx⟩ := vws1 hv
    exact .inl (.inr ⟨_, by rw [vw_bl hx], k _ _ (Ext.refl H) (.int _)⟩)
  · split at hr
    · obtain ⟨n, h1, h2⟩ := Option.map_eq_some_iff.mp hr
      subst h2
      obtain ⟨v, rfl, hx⟩ := vws1 hv
      exact .inr ⟨_, n, by rw [vw_str hx], h1, ‹_›, k _ _ (Ext.refl H) (.int _)⟩
    · cases hr
  · cases hr
def listD : List D → Option R
  | [.lst l] => some (.nw l)
  | [.sls l] => some (.nw l)
  | [.tup l] => some (.nw l)
  | _ => none
theorem c_list : CallS X (.type "list") listD := by
  refine ⟨_, call_list_of, fun m H vs ds res Q ht hv hr k => ?_⟩
  unfold listD at hr
  split at hr
  · cases hr
    obtain ⟨v, rfl, hx⟩ := vws1 hv
    obtain ⟨p, vs, e1, h1, t1⟩ := vw_lst hx
    exact ⟨p, vs, by rw [e1], .inl (.of h1), fun l hl => k _ _ (Ext.new hl) (nw_new hl t1)⟩
  · cases hr
    obtain ⟨v, rfl, hx⟩ := vws1 hv
    obtain ⟨p, vs, e1, h1, t1⟩ := vw_sls hx
    exact ⟨p, vs, by rw [e1], .inl h1, fun l hl => k _ _ (Ext.new hl) (nw_new hl t1)⟩
  · cases hr
    obtain ⟨v, rfl, hx⟩ := vws1 hv
    obtain ⟨p, vs, e1, h1, t1⟩ := vw_tup hx
    exact ⟨p, vs, by rw [e1], .inr h1, fun l hl => k _ _ (Ext.new hl) (nw_new hl t1)⟩
  · cases hr
/-- the ints, the texts, the bools of a list -/
def intsD : List D → Option (List Int)
  | [] => some []
  | .int i :: l => (intsD l).map (i :: ·)
  | _ => none
def strsD : List D → Option (List Str)
  | [] => some []
  | .str i :: l => (strsD l).map (i :: ·)
  | _ => none
def blsD : List D → Option (List Bool)
  | [] => some []
  | .bl i :: l => (blsD l).map (i :: ·)
  | _ => none
theorem ints_vw {K : PySem.W.Frag} {mg : Str → Option Value} {m : List Addr} {H : Hp} : ∀ {vs : List V} {l : List D} {ns : List Int}, FzL K mg m H vs l → intsD l = some ns → vs = ns.map V.int
  | _, _, _, .nil, e => by cases e; rfl
  | _, .int i :: l, _, .cons h t, e => by
    unfold intsD at e
    obtain ⟨ms, e1, e2⟩ := Option.map_eq_some_iff.mp e
    subst e2
    cases h
    rw [ints_vw t e1]; rfl
  | _, .non :: _, _, .cons _ _, e => by cases e
  | _, .bl _ :: _, _, .cons _ _, e => by cases e
  | _, .str _ :: _, _, .cons _ _, e => by cases e
  | _, .tup _ :: _, _, .cons _ _, e => by cases e
  | _, .lst _ :: _, _, .cons _ _, e => by cases e
  | _, .sls _ :: _, _, .cons _ _, e => by cases e
  | _, .ins _ _ :: _, _, .cons _ _, e => by cases e
theorem strs_vw {K : PySem.W.Frag} {mg : Str → Option Value} {m : List Addr} {H : Hp} : ∀ {vs : List V} {l : List D} {ns : List Str}, FzL K mg m H vs l → strsD l = some ns → vs = ns.map V.str
  | _, _, _, .nil, e => by cases e; rfl
  | _, .str i :: l, _, .cons h t, e => by
    unfold strsD at e
    obtain ⟨ms, e1, e2⟩ := Option.map_eq_some_iff.mp e
    subst e2
    cases h
    rw [strs_vw t e1]; rfl
  | _, .non :: _, _, .cons _ _, e => by cases e
  | _, .bl _ :: _, _, .cons _ _, e => by cases e
  | _, .int _ :: _, _, .cons _ _, e => by cases e
  | _, .tup _ :: _, _, .cons _ _, e => by cases e
  | _, .lst _ :: _, _, .cons _ _, e => by cases e
  | _, .sls _ :: _, _, .cons _ _, e => by cases e
  | _, .ins _ _ :: _, _, .cons _ _, e => by cases e
theorem bls_vw {K : PySem.W.Frag} {mg : Str → Option Value} {m : List Addr} {H : Hp} : ∀ {vs : List V} {l : List D} {ns : List Bool}, FzL K mg m H vs l → blsD l = some ns → vs = ns.map V.bl
  | _, _, _, .nil, e => by cases e; rfl
  | _, .bl i :: l, _, .cons h t, e => by
    unfold blsD at e
    obtain ⟨ms, e1, e2⟩ := Option.map_eq_some_iff.mp e
    subst e2
    cases h
    rw [bls_vw t e1]; rfl
  | _, .non :: _, _, .cons _ _, e => by cases e
  | _, .str _ :: _, _, .cons _ _, e => by cases e
  | _, .int _ :: _, _, .cons _ _, e => by cases e
  | _, .tup _ :: _, _, .cons _ _, e => by cases e
  | _, .lst _ :: _, _, .cons _ _, e => by cases e
  | _, .sls _ :: _, _, .cons _ _, e => by cases e
  | _, .ins _ _ :: _, _, .cons _ _, e => by cases e
theorem fz_ints {K : PySem.W.Frag} {mg : Str → Option Value} {m : List Addr} {H : Hp} : ∀ ns : List Int, FzL K mg m H (ns.map V.int) (ns.map D.int)
  | [] => .nil
  | n :: ns => .cons (.int n) (fz_ints ns)
theorem fz_strs {K : PySem.W.Frag} {mg : Str → Option Value} {m : List Addr} {H : Hp} : ∀ ns : List Str, FzL K mg m H (ns.map V.str) (ns.map D.str)
  | [] => .nil
  | n :: ns => .cons (.str n) (fz_strs ns)
def sumD : List D → Option R
  | [.lst l] => (intsD l).map fun ns => .d (.int ns.sum)
  | _ => none
theorem c_sum (hc : X.calm = true := by rfl) : CallS X (.builtin "sum") sumD := by
  refine ⟨_, cr_sum hc, fun m H vs ds res Q ht hv hr k => ?_⟩
  unfold sumD at hr
  split at hr
  · obtain ⟨ns, h1, h2⟩ := Option.map_eq_some_iff.mp hr
    subst h2
    obtain ⟨v, rfl, hx⟩ := vws1 hv
    obtain ⟨p, vs, e1, h2, t1⟩ := vw_lst hx
    have h3 := ints_vw t1 h1
    subst h3
    exact ⟨p, ns, by rw [e1], .of h2, k _ _ (Ext.refl H) (.int _)⟩
  · cases hr
def allD : List D → Option R
  | [.lst l] => (blsD l).map fun ns => .d (.bl (ns.all id))
  | _ => none
theorem c_all (hc : X.calm = true := by rfl) : CallS X (.builtin "all") allD := by
  refine ⟨_, cr_all hc, fun m H vs ds res Q ht hv hr k => ?_⟩
  unfold allD at hr
  split at hr
  · obtain ⟨ns, h1, h2⟩ := Option.map_eq_some_iff.mp hr
    subst h2
    obtain ⟨v, rfl, hx⟩ := vws1 hv
    obtain ⟨p, vs, e1, h2, t1⟩ := vw_lst hx
    have h3 := bls_vw t1 h1
    subst h3
    exact ⟨p, ns, by rw [e1], .of h2, k _ _ (Ext.refl H) (.bl _)⟩
  · cases hr
/-- str(int), str(text) -/
theorem call_str_text : CallR X (.type "str") (fun xs H Q => ∃ a, xs = [.str a] ∧ Q (.str a) H) := by
  intro pins s σ H xs us Q I r h
  obtain ⟨a, rfl, q⟩ := h
  cases r with
  | cons r1 r2 =>
    cases r2
    obtain ⟨t, rfl⟩ := r1
    exact PySem.P.str_of_str ⟨.str a, H, I, ⟨t, rfl⟩, q⟩
def strD : List D → Option R
  | [.int i] => if i.natAbs.log2 < 1920 then some (.d (.str (toString i))) else none
  | [.str s] => some (.d (.str s))
  | _ => none
theorem c_str : CallS X (.type "str") strD := by
  refine ⟨_, call_str_int.or call_str_text, fun m H vs ds res Q ht hv hr k => ?_⟩
  unfold strD at hr
  split at hr
  · split at hr
    · cases hr
      obtain ⟨v, rfl, hx⟩ := vws1 hv
      exact .inl ⟨_, by rw [vw_int hx], ‹_›, k _ _ (Ext.refl H) (.str _)⟩
    · cases hr
  · cases hr
    obtain ⟨v, rfl, hx⟩ := vws1 hv
    exact .inr ⟨_, by rw [vw_str hx], k _ _ (Ext.refl H) (.str _)⟩
  · cases hr
end
end Sm

namespace Sm
open PySem L2

/-! ## a list owned by a slot, changed -/
section
variable {K : PySem.W.Frag} {mg : Str → Option Value} {c : C0} {m m1 m2 : List Addr} {g g1 g2 : G} {σ σ1 σ2 : St} {H H1 H2 : Hp} {v : V} {r : R} {d : D}
theorem Fz.updM {p : Addr} {o : HO} (hp : p ∈ m) (h : Fz K mg m H v d) : Fz K mg m (upd H p o) v d := h.map fun a u n e => ⟨n, by
  rw [upd_ne (fun z : a = p => n (by rw [z]; exact hp))]; exact e⟩
theorem FzL.updM {p : Addr} {o : HO} {vs : List V} {ds : List D} (hp : p ∈ m) (h : FzL K mg m H vs ds) : FzL K mg m (upd H p o) vs ds := h.map fun a u n e => ⟨n, by
  rw [upd_ne (fun z : a = p => n (by rw [z]; exact hp))]; exact e⟩
theorem Abs.put {i : Nat} {b : Bool} {l l' : List D} {p : Addr} {ws : List V} (A : Abs K mg c m g σ H) (hg : g[i]? = some (.ol b l)) (hσ : σ[i]? = some (some (.ref p))) (hw : FzL K mg m H ws l') :
    Abs K mg c m (g.set i (.ol b l')) σ (upd H p (.lst ws)) ∧ Stp m g σ H m (g.set i (.ol b l')) σ (upd H p (.lst ws)) := by
  have op : Own g σ p := ⟨i, b, l, hg, hσ⟩
  have pm : p ∈ m := A.own_mem op
  have hi := lt_of_get hg
  obtain ⟨q0, _, e0, _, _, _, hb⟩ := A.ol i b l hg
  rw [hσ] at e0; cases e0
  refine ⟨⟨by rw [List.length_set]; exact A.len, fun j d h => ?_, fun j b' l2 h => ?_, fun j k b1 l1 b2 l2 q h h' e e' => ?_, fun a h => ?_, fun a o n h => ?_, A.sub, fun j q h => ?_⟩, ⟨fun _ z => .inl z, fun a o n e => ?_, fun _ z _ => .inl z, fun a z => .inl ?_, fun a z => ?_⟩⟩
  · rcases get_set h with ⟨_, e⟩ | ⟨_, h⟩
    · cases e
    · obtain ⟨v, h1, h2⟩ := A.fz j d h
      exact ⟨v, h1, h2.updM pm⟩
  · rcases get_set h with ⟨rfl, e⟩ | ⟨ne, h⟩
    · cases e
      exact ⟨p, ws, hσ, pm, upd_same, hw.updM pm, hb⟩
    · obtain ⟨q, vs, h1, h2, h3, h4, h5⟩ := A.ol j b' l2 h
      have hq : q ≠ p := fun z => ne (A.ne i j _ _ _ _ p hg h hσ (z ▸ h1))
      exact ⟨q, vs, h1, h2, by rw [upd_ne hq]; exact h3, h4.updM pm, h5⟩
  · have back : ∀ {n : Nat} {b3 : Bool} {l3 : List D}, (g.set i (.ol b l'))[n]? = some (.ol b3 l3) → ∃ b4 l4, g[n]? = some (.ol b4 l4) := fun {n b3 l3} h => by
      rcases get_set h with ⟨rfl, _⟩ | ⟨_, h⟩
      · exact ⟨_, _, hg⟩
      · exact ⟨_, _, h⟩
    obtain ⟨_, _, z1⟩ := back h
    obtain ⟨_, _, z2⟩ := back h'
    exact A.ne j k _ _ _ _ q z1 z2 e e'
  · by_cases e : a = p
    · subst e; rw [upd_same]; exact fun z => nomatch z
    · rw [upd_ne e]; exact A.trk a h
  · have ne : a ≠ p := fun z => by
      subst z
      cases b with
      | true => exact n i hb
      | false => rw [show c.H0 a = none from hb] at h; cases h
    rw [upd_ne ne]
    exact A.keep a o n h
  · obtain ⟨h1, l2, h2⟩ := A.pas j q h
    refine ⟨h1, ?_⟩
    by_cases e : i = j
    · subst e
      rw [hg] at h2; cases h2
      exact ⟨l', List.getElem?_set_self hi⟩
    · exact ⟨l2, by rw [List.getElem?_set_ne e]; exact h2⟩
  · rw [upd_ne (fun z : a = p => n (by rw [z]; exact op))]; exact e
  · obtain ⟨j, b3, l3, h1, h2⟩ := z
    rcases get_set h1 with ⟨rfl, _⟩ | ⟨_, h1⟩
    · exact ⟨_, _, _, hg, h2⟩
    · exact ⟨j, _, _, h1, h2⟩
  · by_cases e : a = p
    · subst e; rw [upd_same]; exact fun w => nomatch w
    · rw [upd_ne e]; exact z
/-! ## a value stored in a slot -/
def notT (g : G) (i : Nat) : Bool := match g[i]? with
  | some (.ol true _) => false
  | some _ => true
  | none => false
theorem notT_lt {i : Nat} (h : notT g i = true) : i < g.length ∧ ∀ l, g[i]? ≠ some (.ol true l) := by
  unfold notT at h
  cases e : g[i]? with
  | none => rw [e] at h; cases h
  | some s =>
    refine ⟨lt_of_get e, fun l q => ?_⟩
    cases q
    rw [e] at h; cases h
theorem own_set {i : Nat} {s : D} {w : Option V} {a : Addr} (h : Own (g.set i (.fz s)) (σ.set i w) a) : Own g σ a := by
  obtain ⟨j, b, l, h1, h2⟩ := h
  rcases get_set h1 with ⟨_, e⟩ | ⟨ne, e⟩
  · cases e
  · rw [List.getElem?_set_ne ne] at h2
    exact ⟨j, b, l, e, h2⟩
theorem Abs.sto {i : Nat} (A : Abs K mg c m g σ H) (hn : notT g i = true) (h : Fz K mg m H v d) : Abs K mg c m (g.set i (.fz d)) (σ.set i (some v)) H ∧ Stp m g σ H m (g.set i (.fz d)) (σ.set i (some v)) H := by
  obtain ⟨hi, hn⟩ := notT_lt hn
  refine ⟨⟨by rw [List.length_set, List.length_set]; exact A.len, fun j x e => ?_, fun j b l e => ?_, fun j k b l b' l' p e e' z z' => ?_, A.trk, A.keep, A.sub, fun j p e => ?_⟩, ⟨fun _ z => .inl z, fun _ _ _ z => z, fun _ z _ => .inl z, fun a z => .inl (own_set z), fun _ z => z⟩⟩
  · rcases get_set e with ⟨rfl, q⟩ | ⟨ne, q⟩
    · cases q
      exact ⟨v, List.getElem?_set_self (by rw [← A.len]; exact hi), h⟩
    · rw [List.getElem?_set_ne ne]
      exact A.fz j x q
  · rcases get_set e with ⟨rfl, q⟩ | ⟨ne, q⟩
    · cases q
    · rw [List.getElem?_set_ne ne]
      exact A.ol j b l q
  · rcases get_set e with ⟨rfl, w⟩ | ⟨ne, w⟩
    · cases w
    · rcases get_set e' with ⟨rfl, w'⟩ | ⟨ne', w'⟩
      · cases w'
      · rw [List.getElem?_set_ne ne] at z
        rw [List.getElem?_set_ne ne'] at z'
        exact A.ne j k _ _ _ _ p w w' z z'
  · obtain ⟨h1, l, h2⟩ := A.pas j p e
    refine ⟨h1, l, ?_⟩
    have ne : i ≠ j := fun z => by subst z; exact hn l h2
    rw [List.getElem?_set_ne ne]
    exact h2
theorem Abs.stoN {i : Nat} {p : Addr} {vs : List V} {l : List D} (S : Stp m g σ H m1 g1 σ H1) (A : Abs K mg c m1 g1 σ H1) (hn : notT g1 i = true) (hm : p ∈ m1) (hp : H1 p = some (.lst vs)) (hv : FzL K mg m1 H1 vs l) (ho : ¬ Own g1 σ p) (h0 : c.H0 p = none) (hf : H p = none) :
    Abs K mg c m1 (g1.set i (.ol false l)) (σ.set i (some (.ref p))) H1 ∧ Stp m g σ H m1 (g1.set i (.ol false l)) (σ.set i (some (.ref p))) H1 := by
  obtain ⟨hi, hn⟩ := notT_lt hn
  refine ⟨⟨by rw [List.length_set, List.length_set]; exact A.len, fun j x e => ?_, fun j b l e => ?_, fun j k b l b' l' q e e' z z' => ?_, A.trk, A.keep, A.sub, fun j p e => ?_⟩, ⟨S.fr, S.kp, S.mo, fun a z => ?_, S.tk⟩⟩
  · rcases get_set e with ⟨rfl, q⟩ | ⟨ne, q⟩
    · cases q
    · rw [List.getElem?_set_ne ne]
      exact A.fz j x q
  · rcases get_set e with ⟨rfl, q⟩ | ⟨ne, q⟩
    · cases q
      exact ⟨p, vs, List.getElem?_set_self (by rw [← A.len]; exact hi), hm, hp, hv, h0⟩
    · rw [List.getElem?_set_ne ne]
      exact A.ol j b l q
  · rcases get_set e with ⟨rfl, w⟩ | ⟨ne, w⟩
    · rcases get_set e' with ⟨rfl, w'⟩ | ⟨ne', w'⟩
      · rfl
      · rw [List.getElem?_set_self (by rw [← A.len]; exact hi)] at z
        cases z
        rw [List.getElem?_set_ne ne'] at z'
        exact absurd ⟨k, _, _, w', z'⟩ ho
    · rcases get_set e' with ⟨rfl, w'⟩ | ⟨ne', w'⟩
      · rw [List.getElem?_set_self (by rw [← A.len]; exact hi)] at z'
        cases z'
        rw [List.getElem?_set_ne ne] at z
        exact absurd ⟨j, _, _, w, z⟩ ho
      · rw [List.getElem?_set_ne ne] at z
        rw [List.getElem?_set_ne ne'] at z'
        exact A.ne j k _ _ _ _ q w w' z z'
  · obtain ⟨h1, l, h2⟩ := A.pas j p e
    refine ⟨h1, l, ?_⟩
    have ne : i ≠ j := fun z => by subst z; exact hn l h2
    rw [List.getElem?_set_ne ne]
    exact h2
  · obtain ⟨j, b, l, h1, h2⟩ := z
    rcases get_set h1 with ⟨rfl, e⟩ | ⟨ne, e⟩
    · rw [List.getElem?_set_self (by rw [← A.len]; exact hi)] at h2
      cases h2
      exact .inr hf
    · rw [List.getElem?_set_ne ne] at h2
      exact S.ow a ⟨j, b, l, e, h2⟩
/-- a result stored in slot i -/
def stS (i : Nat) (r : R) (g : G) : Option G := match r with
  | .nw l => if notT g i = true then some (g.set i (.ol false l)) else none
  | r => (frz g r).bind fun q => if notT q.2 i = true then some (q.2.set i (.fz q.1)) else none
theorem stS_ok {i : Nat} (S : Stp m g σ H m1 g1 σ H1) (A1 : Abs K mg c m1 g1 σ H1) (h : VR K mg c m1 g1 σ H1 v r) (n : Nw H v r) (e : stS i r g1 = some g2) :
    ∃ m2, Abs K mg c m2 g2 (σ.set i (some v)) H1 ∧ Stp m g σ H m2 g2 (σ.set i (some v)) H1 := by
  have gen : ∀ r, VR K mg c m1 g1 σ H1 v r → Nw H v r → ((frz g1 r).bind fun q => if notT q.2 i = true then some (q.2.set i (.fz q.1)) else none) = some g2 → ∃ m2, Abs K mg c m2 g2 (σ.set i (some v)) H1 ∧ Stp m g σ H m2 g2 (σ.set i (some v)) H1 := fun r h n e => by
    obtain ⟨⟨d, g3⟩, e1, e⟩ := Option.bind_eq_some_iff.mp e
    split at e
    · cases e
      obtain ⟨m2, A2, S2, F2, _⟩ := frz_ok S A1 h.w n e1
      obtain ⟨A3, S3⟩ := A2.sto ‹_› F2
      exact ⟨m2, A3, S2.trans S3⟩
    · cases e
  cases r with
  | d x => exact gen _ h n e
  | sl j => exact gen _ h n e
  | nw l =>
    simp only [stS] at e
    split at e
    · cases e
      obtain ⟨p, vs, e, hm, hp, hv, ho, h0⟩ := h
      subst e
      obtain ⟨A2, S2⟩ := Abs.stoN S A1 ‹_› hm hp hv ho h0 (n l rfl p rfl)
      exact ⟨m1, A2, S2⟩
    · cases e
end

section
variable {X : Cx} {c : C0} {a b e cnd o : Expr} {es : List Expr} {pos : Pos} {fa fb fe fo : G → Option (R × G)} {ft fu : G → Option (Bool × G)} {st : Stmt} {rest sts sts' : List Stmt} {f f' : G → Option O} {fs : G → Option (List R × G)}

/-! ## methods of texts -/
def eM1 (h : Str → D → Option R) (fo fe : G → Option (R × G)) : G → Option (R × G) := fun g => (fo g).bind fun p => match p.1 with
  | .d (.str s) => (fe p.2).bind fun q => (ld q.2 q.1).bind fun y => (h s y).bind fun r => some (r, q.2)
  | _ => none
def MtS (X : Cx) (id : String) (h : Str → D → Option R) : Prop :=
  ∃ r : V → List V → Hp → VK → Prop, MtR X id r ∧ ∀ (m : List Addr) (H : Hp) (s : Str) (w : V) (e : D) (res : R) (Q : VK), (∀ a ∈ m, H a ≠ none) → Vw X.K X.mg m H w e → h s e = some res →
    (∀ u H', Ext H H' → ResV X.K X.mg m H H' u res → Q u H') → r (.str s) [w] H Q
theorem se_m1 {id : String} {name : Str} {apos : Pos} {h : Str → D → Option R} (rule : MtS X id h) (slot : PySem.Slot "str" name id) (ty : typeOf (.builtin id) = pure (.type "method_descriptor")) (ho : SE X c o fo) (he : SE X c e fe)
    (hs : starEach [e] X.env = [(false, eval e X.env)] := by rfl) (hbase : attributeBase o name X.env (eval o X.env) = eval o X.env := by rfl) (hline : (apos.endLine == pos.line) = true := by rfl) :
    SE X c (.Call (.Attribute o name apos) [e] [] pos) (eM1 h fo fe) := by
  obtain ⟨r, h1, h2⟩ := rule
  refine (pe_m1 slot ty h1 ho he hs hbase hline).imp fun σ H Q q => ?_
  obtain ⟨m, g, r, g', A, e, k⟩ := q
  unfold eM1 at e
  obtain ⟨⟨r1, g1⟩, e1, e⟩ := Option.bind_eq_some_iff.mp e
  refine ⟨m, g, r1, g1, A, e1, fun v1 m1 H1 A1 S1 V1 N1 => ?_⟩
  dsimp only at e
  split at e
  · have V1 : Fz X.K X.mg m1 H1 v1 (.str _) := V1
    cases V1
    obtain ⟨⟨r2, g2⟩, e2, e⟩ := Option.bind_eq_some_iff.mp e
    obtain ⟨d, e3, e⟩ := Option.bind_eq_some_iff.mp e
    obtain ⟨r', e4, e⟩ := Option.bind_eq_some_iff.mp e
    cases e
    refine ⟨⟨_, rfl⟩, m1, g1, r2, g2, A1, e2, fun v2 m2 H2 A2 S2 V2 N2 => ?_⟩
    refine h2 m2 H2 _ v2 d _ Q A2.trk (VR.ld A2 V2 e3) e4 fun u H3 x hv => ?_
    obtain ⟨m3, A3, S3, V3, N3⟩ := res_ok A2 x hv
    exact k u m3 H3 A3 ((S1.trans S2).trans S3) V3 (N3.back (S1.trans S2))
  · cases e
def joinD (s : Str) : D → Option R
  | .lst l => (strsD l).bind fun ys => if (ys.map (·.length)).sum + ys.length * s.length ≤ 16777216 then some (.d (.str (Txt.join s ys))) else none
  | _ => none
theorem m_join : MtS X "str.join" joinD := by
  refine ⟨_, mt_join, fun m H s w e res Q ht hw hr k => ?_⟩
  unfold joinD at hr
  split at hr
  · obtain ⟨ys, e1, hr⟩ := Option.bind_eq_some_iff.mp hr
    split at hr
    · cases hr
      obtain ⟨p, vs, e2, h1, t1⟩ := vw_lst hw
      have h3 := strs_vw t1 e1
      subst h3
      exact ⟨s, p, ys, rfl, by rw [e2], .inl (.of h1), ‹_›, k _ _ (Ext.refl H) (.str _)⟩
    · cases hr
  · cases hr
def splitD (s : Str) : D → Option R
  | .str b => if (b.length == 0) = false ∧ s.length + 2 ≤ sizeLine then some (.nw ((Txt.split s b).map .str)) else none
  | _ => none
theorem m_split : MtS X "str.split" splitD := by
  refine ⟨_, mt_split, fun m H s w e res Q ht hw hr k => ?_⟩
  unfold splitD at hr
  split at hr
  · split at hr
    · cases hr
      rename_i hz
      exact ⟨s, _, rfl, by rw [vw_str hw], hz.1, hz.2, fun p hp => k _ _ (Ext.new hp) (nw_new hp (fz_strs _))⟩
    · cases hr
  · cases hr
def partD (s : Str) : D → Option R
  | .str b => if (b.length == 0) = false ∧ s.length ≤ sizeLine then some (.d (.tup [.str (Txt.partition s b).1, .str (Txt.partition s b).2.1, .str (Txt.partition s b).2.2])) else none
  | _ => none
theorem m_part : MtS X "str.partition" partD := by
  refine ⟨_, mt_partition, fun m H s w e res Q ht hw hr k => ?_⟩
  unfold partD at hr
  split at hr
  · split at hr
    · cases hr
      rename_i hz
      exact ⟨s, _, rfl, by rw [vw_str hw], hz.1, hz.2, fun p hp => k _ _ (Ext.new hp) (tup_new ht hp (.cons (.str _) (.cons (.str _) (.cons (.str _) .nil))))⟩
    · cases hr
  · cases hr
def startsD (s : Str) : D → Option R
  | .str b => some (.d (.bl (Txt.startswith s b)))
  | _ => none
theorem m_starts : MtS X "str.startswith" startsD := by
  refine ⟨_, mt_startswith, fun m H s w e res Q ht hw hr k => ?_⟩
  unfold startsD at hr
  split at hr
  · cases hr
    exact ⟨s, _, rfl, by rw [vw_str hw], k _ _ (Ext.refl H) (.bl _)⟩
  · cases hr

/-! ## methods of a list that a slot owns -/
theorem own_ty {K : PySem.W.Frag} {mg : Str → Option Value} {m : List Addr} {g : G} {σ : St} {H : Hp} {i : Nat} {b : Bool} {l : List D} (A : Abs K mg c m g σ H) (hg : g[i]? = some (.ol b l)) :
    ∃ p vs, σ[i]? = some (some (.ref p)) ∧ H p = some (.lst vs) ∧ FzL K mg m H vs l ∧ tyV K "list" (.ref p) H := by
  obtain ⟨p, vs, h1, h2, h3, h4, _⟩ := A.ol i b l hg
  exact ⟨p, vs, h1, h3, h4, .inl ⟨rfl, vs, .of h3⟩⟩
def eApp (i : Nat) (fe : G → Option (R × G)) : G → Option (R × G) := fun g => match g[i]? with
  | some (.ol _ _) => (fe g).bind fun p => (frz p.2 p.1).bind fun q => match q.2[i]? with
    | some (.ol b l) => if l.length ≤ 100000 then some (.d .non, q.2.set i (.ol b (l ++ [q.1]))) else none
    | _ => none
  | _ => none
theorem lt_size {n : Nat} (h : n ≤ 100000) : n < sizeLine := Nat.lt_of_le_of_lt h (by decide)
theorem se_append {i : Nat} {x : Str} {p apos : Pos} (ho : PE X (.Name x p) (tVar i)) (he : SE X c e fe)
    (hbase : attributeBase (.Name x p) "append" X.env (eval (.Name x p) X.env) = eval (.Name x p) X.env := by rfl)
    (hfew : ((backTo pos (starEach [e] X.env)).all (fun x => !x.1) && (backToKw pos (keywordEach [] X.env)).all (fun x => x.1.isSome)
      && decide (([e] : List Expr).length + ([] : List Keyword).length + (if ([] : List Keyword).isEmpty then 0 else 1) < 30)) = true := by rfl)
    (hline : (apos.endLine == pos.line) = true := by rfl) (hs : starEach [e] X.env = (false, eval e X.env) :: starEach [] X.env := by rfl) (hplain : (backTo pos (starEach [] X.env)).any (·.1) = false := by rfl) :
    SE X c (.Call (.Attribute (.Name x p) "append" apos) [e] [] pos) (eApp i fe) :=
  (pe_bm PySem.F.plainAttrs_list PySem.F.slot_list_append PySem.F.type_list_append mt_append ho (pa_cons he pa_nil hs) hbase hfew hline hs hplain).imp fun σ H Q q => by
    obtain ⟨m, g, r, g', A, e, k⟩ := q
    unfold eApp at e
    split at e
    · rename_i b0 l0 hg0
      obtain ⟨p0, vs0, h1, h2, h3, hty⟩ := own_ty A hg0
      obtain ⟨⟨r1, g1⟩, e1, e⟩ := Option.bind_eq_some_iff.mp e
      obtain ⟨⟨d, g2⟩, e2, e⟩ := Option.bind_eq_some_iff.mp e
      dsimp only at e
      split at e
      · rename_i b l hg
        split at e
        · cases e
          refine ⟨_, h1, hty, m, g, r1, g1, A, e1, fun v1 m1 H1 A1 S1 V1 N1 => ?_⟩
          obtain ⟨m2, A2, S2, F2, _⟩ := frz_ok S1 A1 V1.w N1 e2
          obtain ⟨p, vs, h4, h5, h6, _⟩ := own_ty A2 hg
          rw [h1] at h4; cases h4
          refine ⟨p0, vs, v1, rfl, rfl, h5, by rw [h6.length]; exact lt_size ‹_›, ?_⟩
          obtain ⟨A3, S3⟩ := A2.put hg h1 (h6.app (.one F2))
          exact k .non m2 _ A3 (S2.trans S3) .non fun _ z => nomatch z
        · cases e
      · cases e
    · cases e
def ePop (i : Nat) : G → Option (R × G) := fun g => match g[i]? with
  | some (.ol b l) => match l[l.length - 1]? with
    | some d => some (.d d, g.set i (.ol b l.dropLast))
    | none => none
  | _ => none
theorem se_pop {i : Nat} {x : Str} {p apos : Pos} (ho : PE X (.Name x p) (tVar i))
    (hbase : attributeBase (.Name x p) "pop" X.env (eval (.Name x p) X.env) = eval (.Name x p) X.env := by rfl) (hline : (apos.endLine == pos.line) = true := by rfl) :
    SE X c (.Call (.Attribute (.Name x p) "pop" apos) [] [] pos) (ePop i) :=
  (pe_bm0 PySem.F.plainAttrs_list PySem.F.slot_list_pop PySem.F.type_list_pop mt_pop ho hbase hline).imp fun σ H Q q => by
    obtain ⟨m, g, r, g', A, e, k⟩ := q
    unfold ePop at e
    split at e
    · rename_i b l hg
      obtain ⟨p0, vs, h1, h2, h3, hty⟩ := own_ty A hg
      split at e
      · cases e
        rename_i d hd
        obtain ⟨v, h4, h5⟩ := h3.get hd
        obtain ⟨A3, S3⟩ := A.put hg h1 h3.dropLast
        refine ⟨_, h1, hty, p0, vs, v, rfl, rfl, h2, by rw [h3.length]; exact h4, ?_⟩
        exact k v m _ A3 S3 (h5.updM (A.own_mem ⟨i, b, l, hg, h1⟩)) fun _ z => nomatch z
      · cases e
    · cases e
def ePopAt (i : Nat) (fe : G → Option (R × G)) : G → Option (R × G) := fun g => match g[i]? with
  | some (.ol _ _) => (fe g).bind fun p => match p.1, p.2[i]? with
    | .d (.int n), some (.ol b l) => if 0 ≤ n ∧ n < 100000 then match l[n.toNat]? with
      | some d => some (.d d, p.2.set i (.ol b (l.eraseIdx n.toNat)))
      | none => none else none
    | _, _ => none
  | _ => none
theorem seqIx {n : Int} {k : Nat} (h0 : 0 ≤ n) (h : n.toNat < k) : seqIndex? n k = some n.toNat := by
  unfold seqIndex?
  first
    | (simp only [] <;> split <;> first | rfl | omega | (split <;> first | rfl | omega))
    | (simp <;> omega)
theorem se_popAt {i : Nat} {x : Str} {p apos : Pos} (ho : PE X (.Name x p) (tVar i)) (he : SE X c e fe)
    (hbase : attributeBase (.Name x p) "pop" X.env (eval (.Name x p) X.env) = eval (.Name x p) X.env := by rfl)
    (hfew : ((backTo pos (starEach [e] X.env)).all (fun x => !x.1) && (backToKw pos (keywordEach [] X.env)).all (fun x => x.1.isSome)
      && decide (([e] : List Expr).length + ([] : List Keyword).length + (if ([] : List Keyword).isEmpty then 0 else 1) < 30)) = true := by rfl)
    (hline : (apos.endLine == pos.line) = true := by rfl) (hs : starEach [e] X.env = (false, eval e X.env) :: starEach [] X.env := by rfl) (hplain : (backTo pos (starEach [] X.env)).any (·.1) = false := by rfl) :
    SE X c (.Call (.Attribute (.Name x p) "pop" apos) [e] [] pos) (ePopAt i fe) :=
  (pe_bm PySem.F.plainAttrs_list PySem.F.slot_list_pop PySem.F.type_list_pop mt_popAt ho (pa_cons he pa_nil hs) hbase hfew hline hs hplain).imp fun σ H Q q => by
    obtain ⟨m, g, r, g', A, e, k⟩ := q
    unfold ePopAt at e
    split at e
    · rename_i b0 l0 hg0
      obtain ⟨p0, vs0, h1, h2, h3, hty⟩ := own_ty A hg0
      obtain ⟨⟨r1, g1⟩, e1, e⟩ := Option.bind_eq_some_iff.mp e
      dsimp only at e
      split at e
      · rename_i n b l hg
        split at e
        · rename_i hz
          split at e
          · rename_i d hd
            cases e
            refine ⟨_, h1, hty, m, g, _, g1, A, e1, fun v1 m1 H1 A1 S1 V1 N1 => ?_⟩
            have V1 : Fz X.K X.mg m1 H1 v1 (.int n) := V1
            cases V1
            obtain ⟨p, vs, h4, h5, h6, _⟩ := own_ty A1 hg
            rw [h1] at h4; cases h4
            obtain ⟨v, h7, h8⟩ := h6.get hd
            obtain ⟨A3, S3⟩ := A1.put hg h1 (h6.erase n.toNat)
            refine ⟨p0, vs, n, n.toNat, v, rfl, rfl, h5, by omega, by omega, seqIx hz.1 (lt_of_get h7), h7, ?_⟩
            exact k v m1 _ A3 (S1.trans S3) (h8.updM (A1.own_mem ⟨i, b, l, hg, h1⟩)) fun _ z => nomatch z
          · cases e
        · cases e
      · cases e
    · cases e
def eRevM (i : Nat) : G → Option (R × G) := fun g => match g[i]? with
  | some (.ol b l) => some (.d .non, g.set i (.ol b l.reverse))
  | _ => none
theorem se_revM {i : Nat} {x : Str} {p apos : Pos} (ho : PE X (.Name x p) (tVar i))
    (hbase : attributeBase (.Name x p) "reverse" X.env (eval (.Name x p) X.env) = eval (.Name x p) X.env := by rfl) (hline : (apos.endLine == pos.line) = true := by rfl) :
    SE X c (.Call (.Attribute (.Name x p) "reverse" apos) [] [] pos) (eRevM i) :=
  (pe_bm0 PySem.F.plainAttrs_list PySem.F.slot_list_reverse PySem.F.type_list_reverse mt_reverse ho hbase hline).imp fun σ H Q q => by
    obtain ⟨m, g, r, g', A, e, k⟩ := q
    unfold eRevM at e
    split at e
    · cases e
      rename_i b l hg
      obtain ⟨p0, vs, h1, h2, h3, hty⟩ := own_ty A hg
      obtain ⟨A3, S3⟩ := A.put hg h1 h3.rev
      exact ⟨_, h1, hty, p0, vs, rfl, rfl, h2, k .non m _ A3 S3 .non fun _ z => nomatch z⟩
    · cases e

/-! ## statements -/
def sSeq (f f' : G → Option O) : G → Option O := fun g => (f g).bind fun o => match o with
  | .nx g' => f' g'
  | o => some o
def sNext : G → Option O := fun g => some (.nx g)
theorem ss_nil : SSs X c [] sNext := pss_nil.imp fun D σ H q => by
  obtain ⟨m, g, o, A, e, k⟩ := q
  cases e
  exact k m σ H A Stp.refl
theorem ss_pass : SS X c (.Pass pos) sNext := ps_pass.imp fun D σ H q => by
  obtain ⟨m, g, o, A, e, k⟩ := q
  cases e
  exact k m σ H A Stp.refl
theorem ss_one (h : SS X c st f) : SSs X c [st] f := pss_one h
theorem ss_cons (h : SS X c st f) (h' : SSs X c rest f') : SSs X c (st :: rest) (sSeq f f') := (pss_cons h h').imp fun D σ H q => by
  obtain ⟨m, g, o, A, e, k⟩ := q
  unfold sSeq at e
  obtain ⟨o1, e1, e⟩ := Option.bind_eq_some_iff.mp e
  refine ⟨m, g, o1, A, e1, ?_⟩
  cases o1 with
  | nx g1 =>
    refine fun m1 σ1 H1 A1 S1 => ⟨m1, g1, o, A1, e, ?_⟩
    cases o with
    | nx g2 => exact fun m2 σ2 H2 A2 S2 => k m2 σ2 H2 A2 (S1.trans S2)
    | bk g2 => exact fun m2 σ2 H2 A2 S2 => k m2 σ2 H2 A2 (S1.trans S2)
    | ct g2 => exact fun m2 σ2 H2 A2 S2 => k m2 σ2 H2 A2 (S1.trans S2)
    | rt r g2 => exact k
  | bk g1 => cases e; exact k
  | ct g1 => cases e; exact k
  | rt r g1 => cases e; exact k
def sExpr (fe : G → Option (R × G)) : G → Option O := fun g => (fe g).bind fun p => some (.nx p.2)
theorem ss_expr (h : SE X c e fe) (hs : swapsWith e none pos.line X.env = pure false := by rfl) : SS X c (.Expr e pos) (sExpr fe) := (ps_expr h hs).imp fun D σ H q => by
  obtain ⟨m, g, o, A, e, k⟩ := q
  unfold sExpr at e
  obtain ⟨⟨r, g1⟩, e1, e⟩ := Option.bind_eq_some_iff.mp e
  cases e
  exact ⟨m, g, r, g1, A, e1, fun v m1 H1 A1 S1 _ _ => k m1 σ H1 A1 S1⟩
def sRet (fe : G → Option (R × G)) : G → Option O := fun g => (fe g).bind fun p => some (.rt p.1 p.2)
theorem ss_ret (h : SE X c e fe) : SS X c (.Return (some e) pos) (sRet fe) := (ps_ret h).imp fun D σ H q => by
  obtain ⟨m, g, o, A, e, k⟩ := q
  unfold sRet at e
  obtain ⟨⟨r, g1⟩, e1, e⟩ := Option.bind_eq_some_iff.mp e
  cases e
  exact ⟨m, g, r, g1, A, e1, fun v m1 H1 A1 S1 V1 _ => k v m1 σ H1 A1 V1⟩
def sRetN : G → Option O := fun g => some (.rt (.d .non) g)
theorem ss_retN : SS X c (.Return none pos) sRetN := ps_retN.imp fun D σ H q => by
  obtain ⟨m, g, o, A, e, k⟩ := q
  cases e
  exact k .non m σ H A .non
def sCont : G → Option O := fun g => some (.ct g)
theorem ss_cont : SS X c (.Continue pos) sCont := ps_continue.imp fun D σ H q => by
  obtain ⟨m, g, o, A, e, k⟩ := q
  cases e
  exact k m σ H A Stp.refl
/-- a statement that is never reached -/
def sBad : G → Option O := fun _ => none
theorem ss_bad : SS X c st sBad := ps_never.imp fun D σ H q => by
  obtain ⟨m, g, o, A, e, k⟩ := q
  cases e
def sIf (ft : G → Option (Bool × G)) (f f' : G → Option O) : G → Option O := fun g => (ft g).bind fun p => if p.1 = true then f p.2 else f' p.2
theorem ss_if (hc : ST X c cnd ft) (h : SSs X c sts f) (h' : SSs X c sts' f') : SS X c (.If cnd sts sts' pos) (sIf ft f f') := (ps_if hc h h').imp fun D σ H q => by
  obtain ⟨m, g, o, A, e, k⟩ := q
  unfold sIf at e
  obtain ⟨⟨t, g1⟩, e1, e⟩ := Option.bind_eq_some_iff.mp e
  refine ⟨m, g, t, g1, A, e1, fun m1 H1 A1 S1 => ?_⟩
  have fin : Fin X.K X.mg c D m1 g1 σ H1 o := by
    cases o with
    | nx g2 => exact fun m2 σ2 H2 A2 S2 => k m2 σ2 H2 A2 (S1.trans S2)
    | bk g2 => exact fun m2 σ2 H2 A2 S2 => k m2 σ2 H2 A2 (S1.trans S2)
    | ct g2 => exact fun m2 σ2 H2 A2 S2 => k m2 σ2 H2 A2 (S1.trans S2)
    | rt r g2 => exact k
  cases t with
  | true => exact iteT ⟨m1, g1, o, A1, e, fin⟩
  | false => exact iteF ⟨m1, g1, o, A1, e, fin⟩
def sAsg (i : Nat) (fe : G → Option (R × G)) : G → Option O := fun g => (fe g).bind fun p => (stS i p.1 p.2).bind fun g' => some (.nx g')
theorem ss_asgG {i : Nat} {te : TE} (h : PS X st (tAsg te (gName i))) (he : ∀ σ H Q, tE X.K X.mg c fe σ H Q → te σ H Q) : SS X c st (sAsg i fe) := h.imp fun D σ H q => by
  obtain ⟨m, g, o, A, e, k⟩ := q
  unfold sAsg at e
  obtain ⟨⟨r, g1⟩, e1, e⟩ := Option.bind_eq_some_iff.mp e
  obtain ⟨g2, e2, e⟩ := Option.bind_eq_some_iff.mp e
  cases e
  refine he _ _ _ ⟨m, g, r, g1, A, e1, fun v m1 H1 A1 S1 V1 N1 => ?_⟩
  obtain ⟨m2, A2, S2⟩ := stS_ok S1 A1 V1 N1 e2
  exact k m2 _ H1 A2 S2
theorem ss_set {i : Nat} {x : Str} {pos' : Pos} (hN : X.N.Nodup) (hi : X.N[i]? = some x) (hx : Loc X.env.scope x) (he : SE X c e fe) (hs : swapsWith e (some (.Name x pos')) pos.line X.env = pure false := by rfl) (hf : X.fn x = true ∨ X.env.scope.names.lookup x = some .local := by first | exact .inl rfl | exact .inr rfl | assumption) :
    SS X c (.Assign [.Name x pos'] e pos) (sAsg i fe) := ss_asgG (ps_set hN hi hx he hs hf) fun _ _ _ q => q
/-- two names at once -/
def sPar (i j : Nat) (fs : G → Option (List R × G)) : G → Option O := fun g => (fs g).bind fun p => match p.1 with
  | [r1, r2] => (frz p.2 r1).bind fun q1 => (frz q1.2 r2).bind fun q2 => if notT q2.2 i = true ∧ notT q2.2 j = true then some (.nx ((q2.2.set i (.fz q1.1)).set j (.fz q2.1))) else none
  | _ => none
theorem notT_set {g : G} {i j : Nat} {d : D} (h : notT g j = true) : notT (g.set i (.fz d)) j = true := by
  obtain ⟨h1, h2⟩ := notT_lt h
  unfold notT
  by_cases e : i = j
  · subst e
    rw [List.getElem?_set_self h1]
  · rw [List.getElem?_set_ne e]
    exact h
/-- fresh lists stay the name's own -/
def sPar' (i j : Nat) (fs : G → Option (List R × G)) : G → Option O := fun g => (fs g).bind fun p => match p.1 with
  | [r1, .nw l] => (frz p.2 r1).bind fun q1 => if notT q1.2 i = true ∧ notT (q1.2.set i (.fz q1.1)) j = true then some (.nx ((q1.2.set i (.fz q1.1)).set j (.ol false l))) else none
  | _ => none
theorem ss_par {i j : Nat} {x y : Str} {px py pt : Pos} {kt k2 pt2} (hc : X.calm = true) (hN : X.N.Nodup) (hi : X.N[i]? = some x) (hj : X.N[j]? = some y) (hij : i ≠ j)
    (hx : X.env.scope.names.lookup x = some .local) (hy : X.env.scope.names.lookup y = some .local) (ha : SA X c [a, b] fs)
    (hw : swappedStores [.Tuple [.Name x px, .Name y py] kt pt] (.Tuple [a, b] k2 pt2) X.env = pure (some [x, y]))
    (hs : swapsWithSole [.Tuple [.Name x px, .Name y py] kt pt] (.Tuple [a, b] k2 pt2) pos.line X.env = pure false := by rfl) :
    SS X c (.Assign [.Tuple [.Name x px, .Name y py] kt pt] (.Tuple [a, b] k2 pt2) pos) (sPar i j fs) := (ps_par hc hN hi hj hij hx hy ha hw hs).imp fun D σ H q => by
  obtain ⟨m, g, o, A, e, k⟩ := q
  unfold sPar at e
  obtain ⟨⟨rs, g1⟩, e1, e⟩ := Option.bind_eq_some_iff.mp e
  refine ⟨m, g, rs, g1, A, e1, fun vs m1 H1 A1 S1 V1 N1 => ?_⟩
  dsimp only at e
  split at e
  · rename_i r1 r2
    obtain ⟨⟨d1, g2⟩, e2, e⟩ := Option.bind_eq_some_iff.mp e
    obtain ⟨⟨d2, g3⟩, e3, e⟩ := Option.bind_eq_some_iff.mp e
    split at e
    · rename_i hn
      cases e
      match vs, V1, N1 with
      | [v, w], V1, N1 =>
        refine ⟨v, w, rfl, ?_⟩
        obtain ⟨m3, A3, S3, F3, _⟩ := frzs_ok (rs := [r1, r2]) (ds := [d1, d2]) (g2 := g3) S1 A1 V1.w N1 (by simp only [frzs, e2, e3, Option.bind_some])
        cases F3 with
        | cons F3 F4 =>
          cases F4 with
          | cons F4 _ =>
            obtain ⟨A4, S4⟩ := A3.sto hn.1 F3
            obtain ⟨A5, S5⟩ := A4.sto (i := j) (notT_set hn.2) F4
            exact k m3 _ H1 A5 ((S3.trans S4).trans S5)
    · cases e
  · cases e
/-- x op= e -/
def sAug (i : Nat) (h : D → D → Option R) (fe : G → Option (R × G)) : G → Option O := fun g => match g[i]? with
  | some (.fz (.int n)) => (fe g).bind fun p => (ld p.2 p.1).bind fun d => match h (.int n) d with
    | some (.d x) => if notT p.2 i = true then some (.nx (p.2.set i (.fz x))) else none
    | _ => none
  | _ => none
def IpS (X : Cx) (op : Operator) (h : D → D → Option R) : Prop :=
  ∃ t : TIp, PIp X op t ∧ ∀ (m : List Addr) (H : Hp) (n : Int) (w : V) (e x : D) (Q : VK), Vw X.K X.mg m H w e → h (.int n) e = some (.d x) → (∀ u, Fz X.K X.mg m H u x → Q u H) → t (.int n) w H Q
theorem ss_aug {i : Nat} {x : Str} {op : Operator} {h : D → D → Option R} {pos' : Pos} (ho : IpS X op h) (hN : X.N.Nodup) (hi : X.N[i]? = some x) (hx : Loc X.env.scope x) (he : SE X c e fe) (hf : X.fn x = true ∨ X.env.scope.names.lookup x = some .local := by first | exact .inl rfl | exact .inr rfl | assumption) :
    SS X c (.AugAssign (.Name x pos') op e pos) (sAug i h fe) := by
  obtain ⟨t, h1, h2⟩ := ho
  refine (ps_aug hN hi hx he h1 hf).imp fun D σ H q => ?_
  obtain ⟨m, g, o, A, e, k⟩ := q
  unfold sAug at e
  split at e
  · rename_i n hg
    obtain ⟨⟨r, g1⟩, e1, e⟩ := Option.bind_eq_some_iff.mp e
    obtain ⟨d, e2, e⟩ := Option.bind_eq_some_iff.mp e
    split at e
    · rename_i y hy
      split at e
      · cases e
        obtain ⟨v, h3, h4⟩ := A.fz i _ hg
        cases h4
        refine ⟨_, h3, m, g, r, g1, A, e1, fun w m1 H1 A1 S1 V1 N1 => ?_⟩
        refine h2 m1 H1 n w d y _ (VR.ld A1 V1 e2) hy fun u hu => ?_
        obtain ⟨A2, S2⟩ := A1.sto ‹_› hu
        exact k m1 _ H1 A2 (S1.trans S2)
      · cases e
    · cases e
  · cases e
theorem ip_addS : IpS X .Add addD := ⟨_, ip_add, fun m H n w e x Q hw hr k => by
  unfold addD at hr
  split at hr
  · rename_i i j hi
    cases hi
    cases hr
    exact ⟨n, _, rfl, vw_int hw, k _ (.int _)⟩
  · rename_i hi; cases hi
  · rename_i hi; cases hi
  · cases hr⟩
theorem ip_subS : IpS X .Sub subD := ⟨_, ip_sub, fun m H n w e x Q hw hr k => by
  unfold subD at hr
  split at hr
  · rename_i i j hi
    cases hi
    cases hr
    exact ⟨n, _, rfl, vw_int hw, k _ (.int _)⟩
  · cases hr⟩
/-- x[i] = e, x a list that a slot owns -/
def sSetIx (i : Nat) (fi fe : G → Option (R × G)) : G → Option O := fun g => (fe g).bind fun p => (frz p.2 p.1).bind fun q => match q.2[i]? with
  | some (.ol _ _) => (fi q.2).bind fun s => match s.1, s.2[i]? with
    | .d (.int n), some (.ol b l) => match ixN l.length n with
      | some j => some (.nx (s.2.set i (.ol b (l.set j q.1))))
      | none => none
    | _, _ => none
  | _ => none
theorem ss_setIx {i : Nat} {x : Str} {p p' : Pos} {ix : Expr} {fi : G → Option (R × G)} (ho : PE X (.Name x p) (tVar i)) (hi : SE X c ix fi) (he : SE X c e fe)
    (ha : ∀ v, assign (.Subscript (.Name x p) ix p') X.env v = (do
      let ov ← holding [v] (eval (.Name x p) X.env)
      let iv ← holding [v, ov] (eval ix X.env)
      standAt p'
      holding [v, ov, iv] (setItem ov iv v)
      release [v, ov, iv] []) := by intro _; rfl) (hs : swapsWithSole [.Subscript (.Name x p) ix p'] e pos.line X.env = pure false := by rfl) (hw : swappedStores [.Subscript (.Name x p) ix p'] e X.env = pure none := by rfl)
    (h1 : (assignEach [.Subscript (.Name x p) ix p'] X.env).map (·.2) = [assign (.Subscript (.Name x p) ix p') X.env] := by rfl) :
    SS X c (.Assign [.Subscript (.Name x p) ix p'] e pos) (sSetIx i fi fe) := (ps_asg he (pg_sub ho hi set_list ha) hs hw h1).imp fun D σ H q => by
  obtain ⟨m, g, o, A, e, k⟩ := q
  unfold sSetIx at e
  obtain ⟨⟨r1, g1⟩, e1, e⟩ := Option.bind_eq_some_iff.mp e
  obtain ⟨⟨d, g2⟩, e2, e⟩ := Option.bind_eq_some_iff.mp e
  dsimp only at e
  split at e
  · rename_i b0 l0 hg0
    obtain ⟨⟨r3, g3⟩, e3, e⟩ := Option.bind_eq_some_iff.mp e
    dsimp only at e
    split at e
    · rename_i n b l hg
      split at e
      · rename_i j hj
        cases e
        refine ⟨m, g, r1, g1, A, e1, fun v1 m1 H1 A1 S1 V1 N1 => ?_⟩
        obtain ⟨m2, A2, S2, F2, _⟩ := frz_ok S1 A1 V1.w N1 e2
        obtain ⟨p0, vs0, h4, _⟩ := own_ty A2 hg0
        refine ⟨_, h4, m2, g2, _, g3, A2, e3, fun v3 m3 H3 A3 S3 V3 N3 => ?_⟩
        have V3 : Fz X.K X.mg m3 H3 v3 (.int n) := V3
        cases V3
        obtain ⟨p, vs, h5, h6, h7, _⟩ := own_ty A3 hg
        rw [h4] at h5; cases h5
        obtain ⟨A4, S4⟩ := A3.put hg h4 (h7.set (Fz.step A2 S3 F2) j)
        exact ⟨p0, vs, n, j, rfl, rfl, h6, by rw [h7.length]; exact hj, k m3 σ _ A4 ((S2.trans S3).trans S4)⟩
      · cases e
    · cases e
  · cases e
end
end Sm

namespace Sm
open PySem L2
/-! ## targets; ws: the slots that are written -/
section
variable (K : PySem.W.Frag) (mg : Str → Option Value) (c : C0)
def tGw (ws : List Nat) (f : D → G → Option G) : TG := fun v σ H Q => ∃ m g d g', Abs K mg c m g σ H ∧ Fz K mg m H v d ∧ f d g = some g' ∧
  ∀ m' σ' H', Abs K mg c m' g' σ' H' → Stp m g σ H m' g' σ' H' → ((∀ j, j ∉ ws → σ'[j]? = σ[j]?) ∧ σ'.length = σ.length) → Q σ' H'
def tGs (ws : List Nat) (f : List D → G → Option G) : TGs := fun vs σ H Q => ∃ m g ds g', Abs K mg c m g σ H ∧ FzL K mg m H vs ds ∧ f ds g = some g' ∧
  ∀ m' σ' H', Abs K mg c m' g' σ' H' → Stp m g σ H m' g' σ' H' → ((∀ j, j ∉ ws → σ'[j]? = σ[j]?) ∧ σ'.length = σ.length) → Q σ' H'
end
abbrev SGw (X : Cx) (c : C0) (ws : List Nat) (t : Expr) (f : D → G → Option G) : Prop := PG X t (tGw X.K X.mg c ws f)
abbrev SGs (X : Cx) (c : C0) (ws : List Nat) (t : List Expr) (f : List D → G → Option G) : Prop := PGs X t (tGs X.K X.mg c ws f)
theorem _root_.L2.PGs.imp {X : Cx} {e : List Expr} {t t' : TGs} (h : PGs X e t) (k : ∀ v σ H Q, t' v σ H Q → t v σ H Q) : PGs X e t' := ⟨fun pins s σ H v u Q I r q => h.run pins s σ H v u Q I r (k v σ H Q q)⟩
section
variable {X : Cx} {c : C0} {a b e cnd o tg iter : Expr} {es : List Expr} {pos : Pos} {ws ws' : List Nat} {gf : D → G → Option G} {gs : List D → G → Option G}
def gN (i : Nat) : D → G → Option G := fun d g => if notT g i = true then some (g.set i (.fz d)) else none
theorem sg_name {i : Nat} {x : Str} (hN : X.N.Nodup) (hi : X.N[i]? = some x) (hx : Loc X.env.scope x) (hf : X.fn x = true ∨ X.env.scope.names.lookup x = some .local := by first | exact .inl rfl | exact .inr rfl | assumption) : SGw X c [i] (.Name x pos) (gN i) :=
  (pg_name hN hi hx hf).imp fun v σ H Q q => by
    obtain ⟨m, g, d, g', A, F, e, k⟩ := q
    unfold gN at e
    split at e
    · cases e
      obtain ⟨A1, S1⟩ := A.sto ‹_› F
      refine k m _ H A1 S1 ⟨fun j hj => ?_, List.length_set⟩
      rw [List.getElem?_set_ne]
      intro z
      exact hj (by rw [z]; exact List.mem_singleton.mpr rfl)
    · cases e
def gNil' : List D → G → Option G := fun ds g => match ds with
  | [] => some g
  | _ => none
def gCons' (gf : D → G → Option G) (gs : List D → G → Option G) : List D → G → Option G := fun ds g => match ds with
  | d :: ds => (gf d g).bind fun g' => gs ds g'
  | _ => none
theorem sgs_nil : SGs X c [] [] gNil' := pgs_nil.imp fun vs σ H Q q => by
  obtain ⟨m, g, ds, g', A, F, e, k⟩ := q
  cases F with
  | nil => cases e; exact ⟨rfl, k m σ H A Stp.refl ⟨fun _ _ => rfl, rfl⟩⟩
  | cons _ _ => cases e
theorem sgs_cons (h : SGw X c ws e gf) (h' : SGs X c ws' es gs) (hs : (assignEach (e :: es) X.env).map (·.2) = assign e X.env :: (assignEach es X.env).map (·.2) := by rfl) : SGs X c (ws ++ ws') (e :: es) (gCons' gf gs) := (pgs_cons h h' hs).imp fun vs σ H Q q => by
  obtain ⟨m, g, ds, g', A, F, e, k⟩ := q
  cases F with
  | nil => cases e
  | cons F1 F2 =>
    simp only [gCons'] at e
    obtain ⟨g1, e1, e2⟩ := Option.bind_eq_some_iff.mp e
    refine ⟨_, _, rfl, m, g, _, g1, A, F1, e1, fun m1 σ1 H1 A1 S1 W1 => ⟨m1, g1, _, g', A1, F2.step A S1, e2, fun m2 σ2 H2 A2 S2 W2 => ?_⟩⟩
    refine k m2 σ2 H2 A2 (S1.trans S2) ⟨fun j hj => ?_, W2.2.trans W1.2⟩
    rw [W2.1 j fun z => hj (List.mem_append_right _ z), W1.1 j fun z => hj (List.mem_append_left _ z)]
def gT (n : Nat) (gs : List D → G → Option G) : D → G → Option G := fun d g => match d with
  | .tup ds => if ds.length = n then gs ds g else none
  | _ => none
theorem sg_tup {k n : Nat} (hc : X.calm = true) (h : SGs X c ws es gs) (hn : (assignEach es X.env).length = n := by rfl) (hst : (assignEach es X.env).findIdx? (·.1) = none := by rfl) : SGw X c ws (.Tuple es k pos) (gT n gs) := (pg_tup hc h hn hst).imp fun v σ H Q q => by
  obtain ⟨m, g, d, g', A, F, e, k⟩ := q
  unfold gT at e
  split at e
  · split at e
    · cases F with
      | tup hx t =>
        exact ⟨_, _, rfl, sq_tup hx, by rw [t.length]; assumption, m, g, _, g', A, t, e, k⟩
    · cases e
  · cases e
theorem ss_asgT {fe : G → Option (R × G)} (he : SE X c e fe) (hg : SGw X c ws tg gf) (hs : swapsWithSole [tg] e pos.line X.env = pure false := by rfl) (hw : swappedStores [tg] e X.env = pure none := by rfl)
    (h1 : (assignEach [tg] X.env).map (·.2) = [assign tg X.env] := by rfl) : SS X c (.Assign [tg] e pos) (fun g => (fe g).bind fun p => (frz p.2 p.1).bind fun q => (gf q.1 q.2).bind fun g' => some (.nx g')) := (ps_asg he hg hs hw h1).imp fun D σ H q => by
  obtain ⟨m, g, o, A, e, k⟩ := q
  obtain ⟨⟨r1, g1⟩, e1, e⟩ := Option.bind_eq_some_iff.mp e
  obtain ⟨⟨d, g2⟩, e2, e⟩ := Option.bind_eq_some_iff.mp e
  obtain ⟨g3, e3, e⟩ := Option.bind_eq_some_iff.mp e
  cases e
  refine ⟨m, g, r1, g1, A, e1, fun v m1 H1 A1 S1 V1 N1 => ?_⟩
  obtain ⟨m2, A2, S2, F2, _⟩ := frz_ok S1 A1 V1.w N1 e2
  exact ⟨m2, g2, d, g3, A2, F2, e3, fun m3 σ3 H3 A3 S3 _ => k m3 σ3 H3 A3 (S2.trans S3)⟩
def sAsgT (gf : D → G → Option G) (fe : G → Option (R × G)) : G → Option O := fun g => (fe g).bind fun p => (frz p.2 p.1).bind fun q => (gf q.1 q.2).bind fun g' => some (.nx g')

/-! ## what is walked -/
def seqD : D → Option (List D)
  | .lst l => some l
  | .sls l => some l
  | _ => none
def iL (fe : G → Option (R × G)) : G → Option (List D × G) := fun g => (fe g).bind fun p => (frz p.2 p.1).bind fun q => match q.1 with
  | .lst l => some (l, q.2)
  | .sls l => some (l, q.2)
  | _ => none
theorem jok_list {K : PySem.W.Frag} {mg : Str → Option Value} {m : List Addr} {g : G} {σ : St} {H : Hp} {a : Addr} {vs : List V} {l : List D} (hx : ∀ (m' : List Addr) (g' : G) (σ' : St) (H' : Hp), Abs K mg c m' g' σ' H' → Stp m g σ H m' g' σ' H' → SqL K H' a vs ∧ FzL K mg m' H' vs l) (hj : ∀ (H : Hp) (xs ys : List V), SqL K H a xs → SqL K H a ys → xs = ys) :
    JOk K mg c (Itl K a) l m g σ H := fun m' g' σ' H' A' S' => by
  obtain ⟨h1, h2⟩ := hx m' g' σ' H' A' S'
  refine ⟨⟨vs, h1, by rw [h2.length]; exact Nat.le_refl _⟩, fun i d hd => ?_⟩
  obtain ⟨v, h3, h4⟩ := h2.get hd
  refine ⟨⟨vs, v, h1, h3⟩, fun x H'' y => ?_⟩
  obtain ⟨rfl, y⟩ := y
  have := y vs h1
  rw [h3] at this; cases this
  exact ⟨m', A', Stp.refl, h4⟩
theorem jok_frz {K : PySem.W.Frag} {mg : Str → Option Value} {m : List Addr} {g : G} {σ : St} {H : Hp} {a : Addr} {vs : List V} {l : List D} (A : Abs K mg c m g σ H) (h1 : SqL K H a vs ∧ (a ∈ m → False) ∨ SqL K (fun _ => none) a vs) (h2 : FzL K mg m H vs l) : JOk K mg c (Itl K a) l m g σ H := fun m' g' σ' H' A' S' => by
  have h3 : SqL K H' a vs := by
    rcases h1 with ⟨h1, n⟩ | h1
    · rcases h1 with (h1 | ⟨o, h1⟩) | h1
      · exact .inl (.inl (Stp.fzk A S' _ _ n h1).2)
      · exact .inl (.inr ⟨o, (Stp.fzk A S' _ _ n h1).2⟩)
      · exact .inr h1
    · exact sqL_any h1
  have h2' := h2.step A S'
  refine ⟨⟨vs, h3, by rw [h2'.length]; exact Nat.le_refl _⟩, fun i d hd => ?_⟩
  obtain ⟨v, h4, h5⟩ := h2'.get hd
  refine ⟨⟨vs, v, h3, h4⟩, fun x H'' y => ?_⟩
  obtain ⟨rfl, y⟩ := y
  have := y vs h3
  rw [h4] at this; cases this
  exact ⟨m', A', Stp.refl, h5⟩
theorem fz_seq {K : PySem.W.Frag} {mg : Str → Option Value} {m : List Addr} {H : Hp} {v : V} {d : D} {l : List D} (h : Fz K mg m H v d) (e : seqD d = some l) :
    ∃ a vs, v = .ref a ∧ (SqL K H a vs ∧ (a ∈ m → False) ∨ SqL K (fun _ => none) a vs) ∧ FzL K mg m H vs l := by
  cases h with
  | lst h1 h2 t => cases e; exact ⟨_, _, rfl, .inl ⟨.of h2, h1⟩, t⟩
  | sls h1 t =>
    cases e
    rcases h1 with ⟨h1, o, h2⟩ | h1
    · exact ⟨_, _, rfl, .inl ⟨.inl (.inr ⟨o, h2⟩), h1⟩, t⟩
    · exact ⟨_, _, rfl, .inr h1, t⟩
  | _ => cases e
theorem iL_inv {fe : G → Option (R × G)} {g g' : G} {l : List D} (e : iL fe g = some (l, g')) : ∃ r g1 d, fe g = some (r, g1) ∧ frz g1 r = some (d, g') ∧ seqD d = some l := by
  unfold iL at e
  obtain ⟨⟨r1, g1⟩, e1, e⟩ := Option.bind_eq_some_iff.mp e
  obtain ⟨⟨d, g2⟩, e2, e⟩ := Option.bind_eq_some_iff.mp e
  refine ⟨r1, g1, d, e1, ?_⟩
  cases d <;> cases e <;> exact ⟨e2, rfl⟩
theorem si_list {fe : G → Option (R × G)} (h : SE X c e fe) : SI X c tg e (iL fe) := (pi_list h).imp fun σ H Q q => by
  obtain ⟨m, g, l, g', A, e, k⟩ := q
  obtain ⟨r, g1, d, e1, e2, e3⟩ := iL_inv e
  refine ⟨m, g, r, g1, A, e1, fun v m1 H1 A1 S1 V1 N1 => ?_⟩
  obtain ⟨m2, A2, S2, F2, _⟩ := frz_ok S1 A1 V1.w N1 e2
  obtain ⟨a, vs, h1, h2, h3⟩ := fz_seq F2 e3
  refine ⟨a, h1, ⟨vs, ?_⟩, k _ m2 H1 A2 S2 (jok_frz A2 h2 h3)⟩
  rcases h2 with ⟨h2, _⟩ | h2
  · exact h2
  · exact sqL_any h2
def iT (fe : G → Option (R × G)) : G → Option (List D × G) := fun g => (fe g).bind fun p => match p.1 with
  | .d (.tup l) => some (l, p.2)
  | _ => none
theorem si_tup {fe : G → Option (R × G)} (h : SE X c e fe) : SI X c tg e (iT fe) := (pi_tup h).imp fun σ H Q q => by
  obtain ⟨m, g, l, g', A, e, k⟩ := q
  unfold iT at e
  obtain ⟨⟨r1, g1⟩, e1, e⟩ := Option.bind_eq_some_iff.mp e
  refine ⟨m, g, r1, g1, A, e1, fun v m1 H1 A1 S1 V1 N1 => ?_⟩
  dsimp only at e
  split at e
  · cases e
    have V1 : Fz X.K X.mg m1 H1 v (.tup l) := V1
    cases V1 with
    | tup hx t =>
      rename_i a vs
      refine ⟨a, rfl, ⟨vs, sq_tup hx⟩, k _ m1 H1 A1 S1 fun m' g' σ' H' A' S' => ?_⟩
      have h3 : SqT X.K H' a vs := by
        rcases hx with ⟨n, h1 | ⟨o, h1⟩⟩ | h1
        · exact .inl (.inl (Stp.fzk A1 S' _ _ n h1).2)
        · exact .inl (.inr ⟨o, (Stp.fzk A1 S' _ _ n h1).2⟩)
        · exact sqT_any h1
      have h2' := t.step A1 S'
      refine ⟨⟨vs, h3, by rw [h2'.length]; exact Nat.le_refl _⟩, fun i d hd => ?_⟩
      obtain ⟨v, h4, h5⟩ := h2'.get hd
      refine ⟨⟨vs, v, h3, h4⟩, fun x H'' y => ?_⟩
      obtain ⟨rfl, y⟩ := y
      have := y vs h3
      rw [h4] at this; cases this
      exact ⟨m', A', Stp.refl, h5⟩
  · cases e
def iS (fe : G → Option (R × G)) : G → Option (List D × G) := fun g => (fe g).bind fun p => match p.1 with
  | .d (.str s) => some (s.cps.toList.map fun x => .str ⟨#[x]⟩, p.2)
  | _ => none
theorem si_str {fe : G → Option (R × G)} (h : SE X c e fe) : SI X c tg e (iS fe) := (pi_str h).imp fun σ H Q q => by
  obtain ⟨m, g, l, g', A, e, k⟩ := q
  unfold iS at e
  obtain ⟨⟨r1, g1⟩, e1, e⟩ := Option.bind_eq_some_iff.mp e
  refine ⟨m, g, r1, g1, A, e1, fun v m1 H1 A1 S1 V1 N1 => ?_⟩
  dsimp only at e
  split at e
  · cases e
    rename_i s
    have V1 : Fz X.K X.mg m1 H1 v (.str s) := V1
    cases V1
    refine ⟨s, rfl, k _ m1 H1 A1 S1 fun m' g' σ' H' A' S' => ⟨?_, fun i d hd => ?_⟩⟩
    · show s.cps.size ≤ _
      rw [List.length_map, Array.length_toList]
      exact Nat.le_refl _
    · rw [List.getElem?_map] at hd
      obtain ⟨x, h1, h2⟩ := Option.map_eq_some_iff.mp hd
      subst h2
      have hlt := lt_of_get h1
      rw [Array.length_toList] at hlt
      refine ⟨hlt, fun y H'' z => ?_⟩
      obtain ⟨rfl, x', h3, h4⟩ := z
      rw [Array.getElem?_toList] at h1
      rw [h1] at h3; cases h3
      subst h4
      exact ⟨m', A', Stp.refl, .str _⟩
  · cases e
def rangeD (lo : Int) (n : Nat) : List D := (List.range n).map fun i => .int (lo + (i : Nat))
theorem jok_range {K : PySem.W.Frag} {mg : Str → Option Value} {m : List Addr} {g : G} {σ : St} {H : Hp} {lo : Int} {n : Nat} : JOk K mg c (Itr lo n) (rangeD lo n) m g σ H := fun m' g' σ' H' A' S' => by
  unfold rangeD
  refine ⟨by show n ≤ _; rw [List.length_map, List.length_range]; exact Nat.le_refl _, fun i d hd => ?_⟩
  rw [List.getElem?_map] at hd
  obtain ⟨x, h1, h2⟩ := Option.map_eq_some_iff.mp hd
  have hlt := lt_of_get h1
  rw [List.length_range] at hlt
  rw [List.getElem?_range hlt] at h1
  cases h1
  subst h2
  refine ⟨hlt, fun y H'' z => ?_⟩
  obtain ⟨rfl, rfl⟩ := z
  exact ⟨m', A', Stp.refl, .int _⟩
def iR1 (fe : G → Option (R × G)) : G → Option (List D × G) := fun g => (fe g).bind fun p => match p.1 with
  | .d (.int n) => if -(2 ^ 62) ≤ n ∧ n < 2 ^ 62 then some (rangeD 0 n.toNat, p.2) else none
  | _ => none
def iR2 (fa fe : G → Option (R × G)) : G → Option (List D × G) := fun g => (fa g).bind fun p => (fe p.2).bind fun q => match p.1, q.1 with
  | .d (.int i), .d (.int n) => if -(2 ^ 62) ≤ n ∧ n < 2 ^ 62 ∧ -(2 ^ 62) ≤ i ∧ i < 2 ^ 62 then some (rangeD i (n - i).toNat, q.2) else none
  | _, _ => none
theorem si_range1 {fe : G → Option (R × G)} {p : Pos} (hg : Gl X "range") (hm : X.mg "range" = none) (h : SE X c a fe) (hs : starEach [a] X.env = [(false, eval a X.env)] := by rfl) (hs' : starEach [a] X.env = (false, eval a X.env) :: starEach [] X.env := by rfl) : SI X c tg (.Call (.Name "range" p) [a] [] pos) (iR1 fe) :=
  (pi_range1 hg hm (pa_cons h pa_nil hs') hs).imp fun σ H Q q => by
    obtain ⟨m, g, l, g', A, e, k⟩ := q
    unfold iR1 at e
    obtain ⟨⟨r1, g1⟩, e1, e⟩ := Option.bind_eq_some_iff.mp e
    refine ⟨m, g, r1, g1, A, e1, fun v m1 H1 A1 S1 V1 N1 => ?_⟩
    dsimp only at e
    split at e
    · rename_i n
      split at e
      · rename_i hz
        cases e
        have V1 : Fz X.K X.mg m1 H1 v (.int n) := V1
        cases V1
        exact ⟨n, rfl, hz.1, hz.2, k _ m1 H1 A1 S1 jok_range⟩
      · cases e
    · cases e
theorem si_range2 {fa fe : G → Option (R × G)} {p : Pos} (hg : Gl X "range") (hm : X.mg "range" = none) (h0 : SE X c a fa) (h : SE X c b fe) (hs : starEach [a, b] X.env = [(false, eval a X.env), (false, eval b X.env)] := by rfl) (hs2 : starEach [b] X.env = [(false, eval b X.env)] := by rfl)
    (hs' : starEach [a, b] X.env = (false, eval a X.env) :: starEach [b] X.env := by rfl) (hs3 : starEach [b] X.env = (false, eval b X.env) :: starEach [] X.env := by rfl) : SI X c tg (.Call (.Name "range" p) [a, b] [] pos) (iR2 fa fe) :=
  (pi_range2 hg hm (pa_cons h0 (pa_cons h pa_nil hs3) hs') hs hs2).imp fun σ H Q q => by
    obtain ⟨m, g, l, g', A, e, k⟩ := q
    unfold iR2 at e
    obtain ⟨⟨r1, g1⟩, e1, e3⟩ := Option.bind_eq_some_iff.mp e
    obtain ⟨⟨r2, g2⟩, e2, e4⟩ := Option.bind_eq_some_iff.mp e3
    clear e3 e
    refine ⟨m, g, r1, g1, A, e1, fun v m1 H1 A1 S1 V1 N1 => ⟨m1, g1, r2, g2, A1, e2, fun w m2 H2 A2 S2 V2 N2 => ?_⟩⟩
    dsimp only at e4
    split at e4
    · rename_i i n
      split at e4
      · rename_i hz
        cases e4
        have V1 : Fz X.K X.mg m1 H1 v (.int i) := V1
        have V2 : Fz X.K X.mg m2 H2 w (.int n) := V2
        cases V1
        cases V2
        exact ⟨i, n, rfl, ⟨hz.2.2.1, hz.2.2.2, hz.1, hz.2.1⟩, k _ m2 H2 A2 (S1.trans S2) jok_range⟩
      · cases e4
    · cases e4
def enumD (l : List D) : List D := l.zipIdx.map fun p => .tup [.int (p.2 : Nat), p.1]
def iEn (fe : G → Option (R × G)) : G → Option (List D × G) := fun g => (iL fe g).bind fun p => some (enumD p.1, p.2)
theorem si_enum {fe : G → Option (R × G)} {p tpos : Pos} {elts : List Expr} {kk : Nat} (hg : Gl X "enumerate") (hm : X.mg "enumerate" = none) (h : SE X c e fe) (hs : starEach [e] X.env = [(false, eval e X.env)] := by rfl) (hs' : starEach [e] X.env = (false, eval e X.env) :: starEach [] X.env := by rfl) :
    SI X c (.Tuple elts kk tpos) (.Call (.Name "enumerate" p) [e] [] pos) (iEn fe) := (pi_enum hg hm (pa_cons h pa_nil hs') hs).imp fun σ H Q q => by
  obtain ⟨m, g, l, g', A, e, k⟩ := q
  unfold iEn at e
  obtain ⟨⟨l0, g0⟩, e0, e⟩ := Option.bind_eq_some_iff.mp e
  cases e
  obtain ⟨r, g1, d, e1, e2, e3⟩ := iL_inv e0
  refine ⟨m, g, r, g1, A, e1, fun v m1 H1 A1 S1 V1 N1 => ?_⟩
  obtain ⟨m2, A2, S2, F2, _⟩ := frz_ok S1 A1 V1.w N1 e2
  obtain ⟨a, vs, h1, h2, h3⟩ := fz_seq F2 e3
  subst h1
  have hq : SqL X.K H1 a vs := by
    rcases h2 with ⟨h2, _⟩ | h2
    · exact h2
    · exact sqL_any h2
  refine ⟨a, vs, rfl, hq, k _ m2 H1 A2 S2 fun m' g' σ' H' A' S' => ?_⟩
  have h3' : SqL X.K H' a vs := by
    rcases h2 with ⟨h1, n⟩ | h1
    · rcases h1 with (h1 | ⟨o, h1⟩) | h1
      · exact .inl (.inl (Stp.fzk A2 S' _ _ n h1).2)
      · exact .inl (.inr ⟨o, (Stp.fzk A2 S' _ _ n h1).2⟩)
      · exact .inr h1
    · exact sqL_any h1
  have h2' := h3.step A2 S'
  unfold enumD
  refine ⟨⟨vs, h3', by rw [List.length_map, List.length_zipIdx, h2'.length]; exact Nat.le_refl _⟩, fun i d hd => ?_⟩
  rw [List.getElem?_map, List.getElem?_zipIdx, Option.map_map] at hd
  obtain ⟨x, hx, hd⟩ := Option.map_eq_some_iff.mp hd
  obtain ⟨w, h4, h5⟩ := h2'.get hx
  refine ⟨⟨vs, w, h3', h4⟩, fun y H'' z => ?_⟩
  obtain ⟨T, x', rfl, hT, rfl, z⟩ := z
  have := z vs h3'
  rw [h4] at this; cases this
  refine ⟨m', A'.ext (Ext.new hT), Stp.ext (Ext.new hT), ?_⟩
  subst hd
  refine tup_new A'.trk hT (.cons ?_ (.cons h5 .nil))
  have : ((0 + i : Nat) : Int) = ((i : Nat) : Int) := by omega
  show Fz _ _ _ _ _ (.int ((0 + i : Nat) : Int))
  rw [this]
  exact .int _
def zipD (l l' : List D) : List D := (l.zip l').map fun p => .tup [p.1, p.2]
def iZ (fa fe : G → Option (R × G)) : G → Option (List D × G) := fun g => (fa g).bind fun p => (fe p.2).bind fun q => (frzs q.2 [p.1, q.1]).bind fun s => match s.1 with
  | [.lst l, .lst l'] => some (zipD l l', s.2)
  | _ => none
theorem si_zip {fa fe : G → Option (R × G)} {p tpos : Pos} {elts : List Expr} {kk : Nat} (hg : Gl X "zip") (hm : X.mg "zip" = none) (h : SE X c a fa) (h' : SE X c b fe)
    (hs : starEach [a, b] X.env = (false, eval a X.env) :: starEach [b] X.env := by rfl) (hs2 : starEach [b] X.env = (false, eval b X.env) :: starEach [] X.env := by rfl) (hpl : (backTo pos (starEach [b] X.env)).any (·.1) = false := by rfl) :
    SI X c (.Tuple elts kk tpos) (.Call (.Name "zip" p) [a, b] [] pos) (iZ fa fe) := (pi_zip hg hm (pa_cons h (pa_cons h' pa_nil hs2) hs) hs hpl).imp fun σ H Q q => by
  obtain ⟨m, g, l, g', A, e, k⟩ := q
  unfold iZ at e
  obtain ⟨⟨r1, g1⟩, e1, e⟩ := Option.bind_eq_some_iff.mp e
  obtain ⟨⟨r2, g2⟩, e2, e⟩ := Option.bind_eq_some_iff.mp e
  obtain ⟨⟨ds, g3⟩, e3, e⟩ := Option.bind_eq_some_iff.mp e
  refine ⟨m, g, r1, g1, A, e1, fun v m1 H1 A1 S1 V1 N1 => ⟨m1, g1, r2, g2, A1, e2, fun w m2 H2 A2 S2 V2 N2 => ?_⟩⟩
  obtain ⟨m3, A3, S3, F3, _⟩ := frzs_ok (vs := [v, w]) (rs := [r1, r2]) (S1.trans S2) A2 (VRs.w ⟨V1.step A1 S2, V2, trivial⟩) ⟨N1, N2.back S1, trivial⟩ e3
  dsimp only at e
  split at e
  · rename_i l1 l2
    cases e
    cases F3 with
    | cons F4 F5 =>
      cases F5 with
      | cons F5 _ =>
        cases F4 with
        | lst n1 x1 t1 =>
          cases F5 with
          | lst n2 x2 t2 =>
            rename_i a1 vs1 a2 vs2
            refine ⟨a1, a2, vs1, vs2, rfl, .of x1, .of x2, k _ m3 H2 A3 S3 fun m' g' σ' H' A' S' => ?_⟩
            have y1 : SqL X.K H' a1 vs1 := .of (Stp.fzk A3 S' _ _ n1 x1).2
            have y2 : SqL X.K H' a2 vs2 := .of (Stp.fzk A3 S' _ _ n2 x2).2
            have u1 := t1.step A3 S'
            have u2 := t2.step A3 S'
            unfold zipD
            refine ⟨⟨vs1, vs2, y1, y2, ?_⟩, fun i d hd => ?_⟩
            · rw [List.length_map, List.length_zip, u1.length, u2.length]
              omega
            · rw [List.getElem?_map] at hd
              obtain ⟨⟨d1, d2⟩, hx, hd⟩ := Option.map_eq_some_iff.mp hd
              obtain ⟨hx1, hx2⟩ := List.getElem?_zip_eq_some.mp hx
              obtain ⟨w1, h4, h5⟩ := u1.get hx1
              obtain ⟨w2, h6, h7⟩ := u2.get hx2
              refine ⟨⟨vs1, vs2, w1, w2, y1, y2, h4, h6⟩, fun y H'' z => ?_⟩
              obtain ⟨T, x', y', rfl, hT, rfl, z1, z2⟩ := z
              have q1 := z1 vs1 y1
              have q2 := z2 vs2 y2
              rw [h4] at q1; cases q1
              rw [h6] at q2; cases q2
              refine ⟨m', A'.ext (Ext.new hT), Stp.ext (Ext.new hT), ?_⟩
              subst hd
              exact tup_new A'.trk hT (.cons h5 (.cons h7 .nil))
  · cases e
end
end Sm

namespace Sm
open PySem L2
section
variable {X : Cx} {c : C0} {a b e cnd o tg iter elt : Expr} {es : List Expr} {pos : Pos} {ws : List Nat} {gf : D → G → Option G} {fi : G → Option (List D × G)} {fb : G → Option O} {ft : G → Option (Bool × G)} {fe : G → Option (R × G)} {body : List Stmt}
/-! ## for -/
def forL (gf : D → G → Option G) (fb : G → Option O) : List D → G → Option O
  | [], g => some (.nx g)
  | d :: l, g => (gf d g).bind fun g1 => (fb g1).bind fun o => match o with
    | .nx g2 => forL gf fb l g2
    | .ct g2 => forL gf fb l g2
    | .bk g2 => some (.nx g2)
    | .rt r g2 => some (.rt r g2)
def sFor (fi : G → Option (List D × G)) (gf : D → G → Option G) (fb : G → Option O) : G → Option O := fun g => (fi g).bind fun p => forL gf fb p.1 p.2
theorem ss_for (hp : PassesOwn (model X.prog X.w) X.A X.env X.xe) (hc : X.calm = true) (hi : SI X c tg iter fi) (hg : SGw X c ws tg gf) (hb : SSs X c body fb)
    (hs : ∀ x, foldedSetIterable iter X.env x = pure x := by intro _; rfl) : SS X c (.For tg iter body [] pos) (sFor fi gf fb) := (ps_for hp hc hi hg hb hs).imp fun D σ H q => by
  obtain ⟨m, g, o, A, e, k⟩ := q
  unfold sFor at e
  obtain ⟨⟨l, g1⟩, e1, e2⟩ := Option.bind_eq_some_iff.mp e
  refine ⟨m, g, l, g1, A, e1, fun J m1 H1 A1 S1 jok => ?_⟩
  refine ⟨fun i n σi Hi => n = l.length - i ∧ i ≤ l.length ∧ ∃ mi gi, Abs X.K X.mg c mi gi σi Hi ∧ Stp m1 g1 σ H1 mi gi σi Hi ∧ forL gf fb (l.drop i) gi = some o, ⟨l.length, rfl, Nat.zero_le _, m1, g1, A1, Stp.refl, e2⟩, ?_⟩
  rintro i n σi Hi ⟨rfl, hle, mi, gi, Ai, Si, ei⟩
  obtain ⟨js, jg⟩ := jok mi gi σi Hi Ai Si
  by_cases hlt : i < l.length
  · have hd : l[i]? = some l[i] := List.getElem?_eq_getElem hlt
    obtain ⟨go, hy⟩ := jg i _ hd
    rw [List.drop_eq_getElem_cons hlt] at ei
    simp only [forL] at ei
    obtain ⟨g2, e3, e4⟩ := Option.bind_eq_some_iff.mp ei
    obtain ⟨o1, e5, e6⟩ := Option.bind_eq_some_iff.mp e4
    refine .inr ⟨go, fun σ' H' => ∃ mi gi, Abs X.K X.mg c mi gi σ' H' ∧ Stp m1 g1 σ H1 mi gi σ' H' ∧ forL gf fb (l.drop (i + 1)) gi = some o, fun σ' H' ⟨mj, gj, Aj, Sj, ej⟩ => ⟨l.length - (i + 1), by omega, rfl, hlt, mj, gj, Aj, Sj, ej⟩, fun x H' y => ?_⟩
    obtain ⟨m2, A2, S2, F2⟩ := hy x H' y
    refine ⟨m2, gi, _, g2, A2, F2, e3, fun m3 σ3 H3 A3 S3 _ => ⟨m3, g2, o1, A3, e5, ?_⟩⟩
    cases o1 with
    | nx g4 => exact fun m4 σ4 H4 A4 S4 => ⟨m4, g4, A4, ((Si.trans S2).trans S3).trans S4, e6⟩
    | ct g4 => exact fun m4 σ4 H4 A4 S4 => ⟨m4, g4, A4, ((Si.trans S2).trans S3).trans S4, e6⟩
    | bk g4 =>
      cases e6
      exact fun m4 σ4 H4 A4 S4 => k m4 σ4 H4 A4 (S1.trans (((Si.trans S2).trans S3).trans S4))
    | rt r g4 =>
      cases e6
      exact fun v m4 σ4 H4 A4 V4 => k v m4 σ4 H4 A4 V4
  · have ei' : i = l.length := by omega
    subst ei'
    rw [List.drop_length] at ei
    cases ei
    exact .inl ⟨js, k mi σi Hi Ai (S1.trans Si)⟩

/-! ## while -/
def whL (ft : G → Option (Bool × G)) (fb : G → Option O) : Nat → G → Option O
  | 0, _ => none
  | n + 1, g => (ft g).bind fun p => if p.1 = true then (fb p.2).bind fun o => match o with
    | .nx g2 => whL ft fb n g2
    | .ct g2 => whL ft fb n g2
    | .bk g2 => some (.nx g2)
    | .rt r g2 => some (.rt r g2) else some (.nx p.2)
open Classical in
noncomputable def sWhile (ft : G → Option (Bool × G)) (fb : G → Option O) : G → Option O := fun g =>
  if h : ∃ n o, whL ft fb n g = some o then whL ft fb (Classical.choose h) g else none
theorem whL_more : ∀ (n k : Nat) (g : G) (o : O), whL ft fb n g = some o → whL ft fb (n + k) g = some o
  | 0, _, _, _, h => nomatch h
  | n + 1, k, g, o, h => by
    rw [Nat.add_right_comm]
    simp only [whL] at h ⊢
    obtain ⟨⟨t, g1⟩, e1, e2⟩ := Option.bind_eq_some_iff.mp h
    rw [e1, Option.bind_some]
    cases t with
    | false => exact e2
    | true =>
      rw [if_pos rfl] at e2 ⊢
      obtain ⟨o1, e3, e4⟩ := Option.bind_eq_some_iff.mp e2
      dsimp only at e3 ⊢
      rw [e3, Option.bind_some]
      cases o1 with
      | nx g2 => exact whL_more n k g2 o e4
      | ct g2 => exact whL_more n k g2 o e4
      | bk g2 => exact e4
      | rt r g2 => exact e4
theorem sWhile_of {n : Nat} {g : G} {o : O} (h : whL ft fb n g = some o) : sWhile ft fb g = some o := by
  have hx : ∃ n o, whL ft fb n g = some o := ⟨n, o, h⟩
  unfold sWhile
  rw [dif_pos hx]
  obtain ⟨o', h'⟩ := Classical.choose_spec hx
  have h1 := whL_more _ n _ _ h'
  have h2 := whL_more _ (Classical.choose hx) _ _ h
  rw [Nat.add_comm] at h1
  rw [h1] at h2
  cases h2
  exact h'
theorem sWhile_inv {g : G} {o : O} (h : sWhile ft fb g = some o) : ∃ n, whL ft fb n g = some o := by
  unfold sWhile at h
  split at h
  · exact ⟨_, h⟩
  · cases h
theorem ss_while (hp : PassesOwn (model X.prog X.w) X.A X.env X.xe) (hc : ST X c cnd ft) (hb : SSs X c body fb) : SS X c (.While cnd body [] pos) (sWhile ft fb) := (ps_while hp hc hb).imp fun D σ H q => by
  obtain ⟨m, g, o, A, e, k⟩ := q
  obtain ⟨n, e⟩ := sWhile_inv e
  refine ⟨fun n σi Hi => ∃ mi gi, Abs X.K X.mg c mi gi σi Hi ∧ Stp m g σ H mi gi σi Hi ∧ whL ft fb n gi = some o, ⟨n, m, g, A, Stp.refl, e⟩, ?_⟩
  rintro n σi Hi ⟨mi, gi, Ai, Si, ei⟩
  cases n with
  | zero => cases ei
  | succ n =>
    simp only [whL] at ei
    obtain ⟨⟨t, g1⟩, e1, e2⟩ := Option.bind_eq_some_iff.mp ei
    refine ⟨mi, gi, t, g1, Ai, e1, fun m1 H1 A1 S1 => ?_⟩
    cases t with
    | false =>
      cases e2
      exact iteF (k m1 σi H1 A1 (Si.trans S1))
    | true =>
      rw [if_pos rfl] at e2
      obtain ⟨o1, e3, e4⟩ := Option.bind_eq_some_iff.mp e2
      refine iteT ⟨fun σ' H' => ∃ mi gi, Abs X.K X.mg c mi gi σ' H' ∧ Stp m g σ H mi gi σ' H' ∧ whL ft fb n gi = some o, fun σ' H' ⟨mj, gj, Aj, Sj, ej⟩ => ⟨n, Nat.lt_succ_self _, mj, gj, Aj, Sj, ej⟩, m1, g1, o1, A1, e3, ?_⟩
      cases o1 with
      | nx g4 => exact fun m4 σ4 H4 A4 S4 => ⟨m4, g4, A4, (Si.trans S1).trans S4, e4⟩
      | ct g4 => exact fun m4 σ4 H4 A4 S4 => ⟨m4, g4, A4, (Si.trans S1).trans S4, e4⟩
      | bk g4 =>
        cases e4
        exact fun m4 σ4 H4 A4 S4 => k m4 σ4 H4 A4 ((Si.trans S1).trans S4)
      | rt r g4 =>
        cases e4
        exact fun v m4 σ4 H4 A4 V4 => k v m4 σ4 H4 A4 V4

/-! ## comprehensions -/
def wipeG (g : G) : List Nat → G
  | [] => g
  | v :: vs => (wipeG g vs).set v .un
def restG (g g0 : G) : List Nat → G
  | [] => g
  | v :: vs => (restG g g0 vs).set v (g0[v]?.getD .un)
theorem wipeG_len (g : G) : ∀ vs : List Nat, (wipeG g vs).length = g.length
  | [] => rfl
  | v :: vs => by unfold wipeG; rw [List.length_set, wipeG_len g vs]
theorem restG_len (g g0 : G) : ∀ vs : List Nat, (restG g g0 vs).length = g.length
  | [] => rfl
  | v :: vs => by unfold restG; rw [List.length_set, restG_len g g0 vs]
theorem wipeG_out {g : G} {j : Nat} : ∀ {vs : List Nat}, j ∉ vs → (wipeG g vs)[j]? = g[j]?
  | [], _ => rfl
  | v :: vs, h => by
    unfold wipeG
    rw [List.getElem?_set_ne (fun z => h (by rw [z]; exact List.mem_cons_self)), wipeG_out fun z => h (List.mem_cons_of_mem _ z)]
theorem wipeG_in {g : G} {j : Nat} {s : Slot} : ∀ {vs : List Nat}, j ∈ vs → (wipeG g vs)[j]? = some s → s = .un
  | v :: vs, h, e => by
    unfold wipeG at e
    rcases get_set e with ⟨_, e⟩ | ⟨ne, e⟩
    · exact e
    · rcases List.mem_cons.mp h with h | h
      · exact absurd h.symm ne
      · exact wipeG_in h e
theorem restG_out {g g0 : G} {j : Nat} : ∀ {vs : List Nat}, j ∉ vs → (restG g g0 vs)[j]? = g[j]?
  | [], _ => rfl
  | v :: vs, h => by
    unfold restG
    rw [List.getElem?_set_ne (fun z => h (by rw [z]; exact List.mem_cons_self)), restG_out fun z => h (List.mem_cons_of_mem _ z)]
theorem restG_in {g g0 : G} {j : Nat} {s : Slot} : ∀ {vs : List Nat}, j ∈ vs → (restG g g0 vs)[j]? = some s → s = g0[j]?.getD .un
  | v :: vs, h, e => by
    unfold restG at e
    rcases get_set e with ⟨h1, q⟩ | ⟨ne, e⟩
    · subst h1; exact q
    · rcases List.mem_cons.mp h with h | h
      · exact absurd h.symm ne
      · exact restG_in h e
theorem wipe_out' {σ : St} {j : Nat} : ∀ {vs : List Nat}, j ∉ vs → (wipe σ vs)[j]? = σ[j]?
  | [], _ => rfl
  | v :: vs, h => by
    unfold wipe
    rw [List.getElem?_set_ne (fun z => h (by rw [z]; exact List.mem_cons_self)), wipe_out' fun z => h (List.mem_cons_of_mem _ z)]
theorem wipe_in' {σ : St} {j : Nat} : ∀ {vs : List Nat}, j ∈ vs → (wipe σ vs)[j]? = if j < σ.length then some none else none
  | v :: vs, h => by
    unfold wipe
    by_cases e : v = j
    · subst e
      by_cases hl : v < σ.length
      · rw [if_pos hl, List.getElem?_set_self (by rw [wipe_length]; exact hl)]
      · rw [if_neg hl, List.getElem?_eq_none (by rw [List.length_set, wipe_length]; omega)]
    · rw [List.getElem?_set_ne e]
      rcases List.mem_cons.mp h with h | h
      · exact absurd h.symm e
      · exact wipe_in' h
theorem wipe_again {σ σ' : St} {vs : List Nat} (hl : σ'.length = σ.length) (h : ∀ j, j ∉ vs → σ'[j]? = (wipe σ vs)[j]?) : wipe σ' vs = wipe σ vs := by
  apply List.ext_getElem?
  intro j
  by_cases hj : j ∈ vs
  · rw [wipe_in' hj, wipe_in' hj, hl]
  · rw [wipe_out' hj, h j hj]
def notOl (g : G) (vs : List Nat) : Bool := vs.all fun v => match g[v]? with
  | some (.ol _ _) => false
  | _ => true
theorem notOl_in {g : G} {vs : List Nat} (h : notOl g vs = true) {j : Nat} (hj : j ∈ vs) {b : Bool} {l : List D} (e : g[j]? = some (.ol b l)) : False := by
  unfold notOl at h
  have q := List.all_eq_true.mp h j hj
  rw [e] at q
  cases q
section
variable {K : PySem.W.Frag} {mg : Str → Option Value} {m m1 m2 : List Addr} {g g1 g2 : G} {σ σ1 σ2 : St} {H H1 H2 : Hp} {v : V} {r : R} {d : D} {vs : List Nat}
theorem own_wipe {a : Addr} (h : Own (wipeG g vs) (wipe σ vs) a) : Own g σ a := by
  obtain ⟨j, b, l, h1, h2⟩ := h
  by_cases hj : j ∈ vs
  · cases wipeG_in hj h1
  · rw [wipeG_out hj] at h1
    rw [wipe_out' hj] at h2
    exact ⟨j, b, l, h1, h2⟩
theorem Abs.wipe (A : Abs K mg c m g σ H) (hp : ∀ j ∈ vs, c.pa j = none) : Abs K mg c m (wipeG g vs) (L2.wipe σ vs) H where
  len := by rw [wipeG_len, wipe_length]; exact A.len
  fz := fun i d h => by
    by_cases hj : i ∈ vs
    · cases wipeG_in hj h
    · rw [wipeG_out hj] at h
      rw [wipe_out' hj]
      exact A.fz i d h
  ol := fun i b l h => by
    by_cases hj : i ∈ vs
    · cases wipeG_in hj h
    · rw [wipeG_out hj] at h
      rw [wipe_out' hj]
      exact A.ol i b l h
  ne := fun i j b l b' l' p h h' e e' => by
    by_cases hi : i ∈ vs
    · cases wipeG_in hi h
    · by_cases hj : j ∈ vs
      · cases wipeG_in hj h'
      · rw [wipeG_out hi] at h
        rw [wipeG_out hj] at h'
        rw [wipe_out' hi] at e
        rw [wipe_out' hj] at e'
        exact A.ne i j _ _ _ _ p h h' e e'
  trk := A.trk
  keep := A.keep
  sub := A.sub
  pas := fun i p h => by
    obtain ⟨h1, l, h2⟩ := A.pas i p h
    refine ⟨h1, l, ?_⟩
    rw [wipeG_out fun z => by rw [hp i z] at h; cases h]
    exact h2
theorem Stp.wipe : Stp m g σ H m (wipeG g vs) (L2.wipe σ vs) H := ⟨fun _ z => .inl z, fun _ _ _ z => z, fun _ z _ => .inl z, fun _ z => .inl (own_wipe z), fun _ z => z⟩
theorem own_rest {a : Addr} (hn : notOl g1 vs = true) (h : Own (restG g g1 vs) σ a) : Own g (L2.wipe σ vs) a := by
  obtain ⟨j, b, l, h1, h2⟩ := h
  by_cases hj : j ∈ vs
  · have q := restG_in hj h1
    cases e : g1[j]? with
    | none => rw [e] at q; cases q
    | some s' =>
      rw [e] at q
      have q : Slot.ol b l = s' := q
      subst q
      exact (notOl_in hn hj e).elim
  · rw [restG_out hj] at h1
    exact ⟨j, b, l, h1, by rw [wipe_out' hj]; exact h2⟩
theorem Abs.unwipe (A1 : Abs K mg c m1 g1 σ H1) (hn : notOl g1 vs = true) (A : Abs K mg c m g (L2.wipe σ vs) H) (S : Stp m1 g1 σ H1 m g (L2.wipe σ vs) H) : Abs K mg c m (restG g g1 vs) σ H ∧ Stp m1 g1 σ H1 m (restG g g1 vs) σ H := by
  have hin : ∀ {i : Nat} {s : Slot}, i ∈ vs → (restG g g1 vs)[i]? = some s → s = .un ∨ g1[i]? = some s := fun {i s} hj h => by
    have q := restG_in hj h
    cases e : g1[i]? with
    | none => rw [e] at q; exact .inl q
    | some s' => rw [e] at q; exact .inr (by rw [q]; rfl)
  refine ⟨⟨by rw [restG_len]; have := A.len; rw [wipe_length] at this; exact this, fun i d h => ?_, fun i b l h => ?_, fun i j b l b' l' p h h' e e' => ?_, A.trk, A.keep, A.sub, fun i p h => ?_⟩, ⟨S.fr, S.kp, S.mo, fun a z => S.ow a ?_, S.tk⟩⟩
  · by_cases hj : i ∈ vs
    · rcases hin hj h with q | q
      · cases q
      · obtain ⟨v, h1, h2⟩ := A1.fz i d q
        exact ⟨v, h1, h2.step A1 S⟩
    · rw [restG_out hj] at h
      obtain ⟨v, h1, h2⟩ := A.fz i d h
      rw [wipe_out' hj] at h1
      exact ⟨v, h1, h2⟩
  · by_cases hj : i ∈ vs
    · rcases hin hj h with q | q
      · cases q
      · exact (notOl_in hn hj q).elim
    · rw [restG_out hj] at h
      have := A.ol i b l h
      rw [wipe_out' hj] at this
      exact this
  · have out : ∀ {n : Nat} {b : Bool} {l : List D}, (restG g g1 vs)[n]? = some (.ol b l) → n ∉ vs := fun {n b l} h z => by
      rcases hin z h with q | q
      · cases q
      · exact notOl_in hn z q
    have hi := out h
    have hj := out h'
    rw [restG_out hi] at h
    rw [restG_out hj] at h'
    exact A.ne i j _ _ _ _ p h h' (by rw [wipe_out' hi]; exact e) (by rw [wipe_out' hj]; exact e')
  · obtain ⟨h1, l, h2⟩ := A.pas i p h
    obtain ⟨_, l1, h3⟩ := A1.pas i p h
    refine ⟨h1, l, ?_⟩
    rw [restG_out fun z => notOl_in hn z h3]
    exact h2
  · obtain ⟨j, b, l, h1, h2⟩ := z
    by_cases hj : j ∈ vs
    · rcases hin hj h1 with q | q
      · cases q
      · exact (notOl_in hn hj q).elim
    · rw [restG_out hj] at h1
      exact ⟨j, b, l, h1, by rw [wipe_out' hj]; exact h2⟩
/-- a mutable address that nobody owns is written -/
theorem Abs.poke {p : Addr} {o : HO} (A : Abs K mg c m g σ H) (hm : p ∈ m) (ho : ¬ Own g σ p) (h0 : c.H0 p = none) : Abs K mg c m g σ (upd H p o) where
  len := A.len
  fz := fun i d h => let ⟨v, h1, h2⟩ := A.fz i d h; ⟨v, h1, h2.updM hm⟩
  ol := fun i b l h => by
    obtain ⟨q, vs, h1, h2, h3, h4, h5⟩ := A.ol i b l h
    exact ⟨q, vs, h1, h2, by rw [upd_ne (fun z : q = p => ho (by rw [← z]; exact ⟨i, b, l, h, h1⟩))]; exact h3, h4.updM hm, h5⟩
  ne := A.ne
  trk := fun a h => by
    by_cases e : a = p
    · subst e; rw [upd_same]; exact fun z => nomatch z
    · rw [upd_ne e]; exact A.trk a h
  keep := fun a o n h => by
    rw [upd_ne (fun z : a = p => by rw [z, h0] at h; cases h)]
    exact A.keep a o n h
  sub := A.sub
  pas := A.pas
theorem Stp.poke {p : Addr} {o : HO} (S : Stp m g σ H m1 g1 σ1 H1) (h : H p = none) : Stp m g σ H m1 g1 σ1 (upd H1 p o) := ⟨S.fr, fun a u n e => by
  rw [upd_ne (fun z : a = p => by rw [z, h] at e; cases e)]
  exact S.kp a u n e, S.mo, S.ow, fun a e => by
  by_cases z : a = p
  · subst z; exact absurd h e
  · rw [upd_ne z]; exact S.tk a e⟩
end
def lcL (gf : D → G → Option G) (ft : G → Option (Bool × G)) (fe : G → Option (R × G)) (vs : List Nat) : List D → G → Option (List D × G)
  | [], g => some ([], g)
  | d :: l, g => (gf d g).bind fun g1 => (ft g1).bind fun p => if p.1 = true then (fe p.2).bind fun q => (frz q.2 q.1).bind fun s => (lcL gf ft fe vs l (wipeG s.2 vs)).bind fun t => some (s.1 :: t.1, t.2)
    else lcL gf ft fe vs l (wipeG p.2 vs)
def eLc (fi : G → Option (List D × G)) (gf : D → G → Option G) (ft : G → Option (Bool × G)) (fe : G → Option (R × G)) (vs : List Nat) : G → Option (R × G) := fun g =>
  (fi g).bind fun p => if notOl p.2 vs = true ∧ p.1.length ≤ 100000 then (lcL gf ft fe vs p.1 (wipeG p.2 vs)).bind fun q => some (.nw q.1, restG q.2 p.2 vs) else none
theorem lc_ok {wi : TI} {g0 : TG} {tt : TT} {te : TE} {vs : List Nat} (hi : ∀ σ H Q, tI X.K X.mg c fi σ H Q → wi σ H Q) (hg : ∀ v σ H Q, tGw X.K X.mg c ws gf v σ H Q → g0 v σ H Q) (ht : ∀ σ H Q, tT X.K X.mg c ft σ H Q → tt σ H Q) (he : ∀ σ H Q, tE X.K X.mg c fe σ H Q → te σ H Q)
    (hw : ∀ j ∈ ws, j ∈ vs) {σ : St} {H : Hp} {Q : VK} (q : tE X.K X.mg c (eLc fi gf ft fe vs) σ H Q) : tLc wi g0 tt te vs σ H Q := by
  obtain ⟨m, g, r, g', A, e, k⟩ := q
  unfold eLc at e
  obtain ⟨⟨l, g1⟩, e1, e2⟩ := Option.bind_eq_some_iff.mp e
  dsimp only at e2
  split at e2
  · rename_i hn
    obtain ⟨hn, hz⟩ := hn
    obtain ⟨⟨fin, gE⟩, e3, e4⟩ := Option.bind_eq_some_iff.mp e2
    cases e4
    refine hi _ _ _ ⟨m, g, l, g1, A, e1, fun J m1 H1 A1 S1 jok => fun Da hD => ?_⟩
    have npa : ∀ j ∈ vs, c.pa j = none := fun j hj => by
      cases w : c.pa j with
      | none => rfl
      | some p =>
        obtain ⟨_, l1, h3⟩ := A1.pas j p w
        exact (notOl_in hn hj h3).elim
    have D0 : c.H0 Da = none := A1.h0 hD
    have A2 : Abs X.K X.mg c (Da :: m1) g1 σ (upd H1 Da (.lst [])) := A1.more (Ext.new hD) hD (by rw [upd_same]; exact fun z => nomatch z)
    have A2' := A2.wipe npa
    have S2 : Stp m1 g1 σ H1 (Da :: m1) (wipeG g1 vs) (wipe σ vs) (upd H1 Da (.lst [])) := (Stp.more A1 (Ext.new hD) hD).trans Stp.wipe
    have oD : ∀ {m2 : List Addr} {g2 : G} {σ2 : St} {H2 : Hp}, Stp m1 g1 σ H1 m2 g2 σ2 H2 → Own g2 σ2 Da → Own g1 σ Da ∨ True := fun _ _ => .inr trivial
    have nD : ¬ Own g1 σ Da := fun w => A1.trk Da (A1.own_mem w) hD
    refine ⟨fun i n Hi => n = l.length - i ∧ i ≤ l.length ∧ ∃ mi gi acc ds out, Abs X.K X.mg c mi gi (wipe σ vs) Hi ∧ Stp m1 g1 σ H1 mi gi (wipe σ vs) Hi ∧ Da ∈ mi ∧ Hi Da = some (.lst acc) ∧ FzL X.K X.mg mi Hi acc ds ∧ ¬ Own gi (wipe σ vs) Da ∧
      lcL gf ft fe vs (l.drop i) gi = some (out, gE) ∧ ds ++ out = fin ∧ acc.length ≤ i, ⟨l.length, rfl, Nat.zero_le _, Da :: m1, wipeG g1 vs, [], [], fin, A2', S2, List.mem_cons_self, upd_same, .nil, fun w => nD (own_wipe w), e3, rfl, Nat.le_refl _⟩, ?_⟩
    rintro i n Hi ⟨rfl, hle, mi, gi, acc, ds, out, Ai, Si, Dm, Dh, Df, Do, ei, eo, ea⟩
    obtain ⟨js, jg⟩ := jok mi gi _ Hi Ai Si
    by_cases hlt : i < l.length
    · have hd : l[i]? = some l[i] := List.getElem?_eq_getElem hlt
      obtain ⟨go, hy⟩ := jg i _ hd
      rw [List.drop_eq_getElem_cons hlt] at ei
      simp only [lcL] at ei
      obtain ⟨g2, e5, e6⟩ := Option.bind_eq_some_iff.mp ei
      obtain ⟨⟨t, g3⟩, e7, e8⟩ := Option.bind_eq_some_iff.mp e6
      refine .inr ⟨go, fun Hj => ∃ mi gi acc ds out, Abs X.K X.mg c mi gi (wipe σ vs) Hj ∧ Stp m1 g1 σ H1 mi gi (wipe σ vs) Hj ∧ Da ∈ mi ∧ Hj Da = some (.lst acc) ∧ FzL X.K X.mg mi Hj acc ds ∧ ¬ Own gi (wipe σ vs) Da ∧
        lcL gf ft fe vs (l.drop (i + 1)) gi = some (out, gE) ∧ ds ++ out = fin ∧ acc.length ≤ i + 1, fun Hj h => ⟨l.length - (i + 1), by omega, rfl, hlt, h⟩, fun x H' y => ?_⟩
      obtain ⟨m2, A2, S2, F2⟩ := hy x H' y
      have Dh2 : H' Da = some (.lst acc) := S2.kp Da _ Do Dh
      have dt : Hi Da ≠ none := by rw [Dh]; exact fun z => nomatch z
      have Dm2 : Da ∈ m2 := (S2.mo Da Dm dt).resolve_right Do
      refine hg _ _ _ _ ⟨m2, gi, _, g2, A2, F2, e5, fun m3 σ3 H3 A3 S3 W3 => ?_⟩
      have Dh3 : H3 Da = some (.lst acc) := S3.kp Da _ Do Dh2
      have dt2 : H' Da ≠ none := by rw [Dh2]; exact fun z => nomatch z
      have Dm3 : Da ∈ m3 := (S3.mo Da Dm2 dt2).resolve_right Do
      have ownD : ∀ {m4 : List Addr} {g4 : G} {σ4 : St} {H4 : Hp}, Stp mi gi (wipe σ vs) Hi m4 g4 σ4 H4 → ¬ Own g4 σ4 Da := fun S w => by
        rcases S.ow Da w with w | w
        · exact Do w
        · exact dt w
      have S3' : Stp mi gi (wipe σ vs) Hi m3 g2 σ3 H3 := S2.trans S3
      have hl3 : σ3.length = σ.length := by rw [W3.2, wipe_length]
      have hw3 : wipe σ3 vs = wipe σ vs := wipe_again hl3 fun j hj => W3.1 j fun z => hj (hw j z)
      refine ⟨hw3, ht _ _ _ ⟨m3, g2, t, g3, A3, e7, fun m4 H4 A4 S4 => ?_⟩⟩
      have Dh4 : H4 Da = some (.lst acc) := S4.kp Da _ (ownD S3') Dh3
      have Dm4 : Da ∈ m4 := (S4.mo Da Dm3 (by rw [Dh3]; exact fun z => nomatch z)).resolve_right (ownD S3')
      have S4' := S3'.trans S4
      have Df4 : FzL X.K X.mg m4 H4 acc ds := Df.step Ai S4'
      cases t with
      | true =>
        rw [if_pos rfl] at e8
        obtain ⟨⟨r5, g5⟩, e9, e10⟩ := Option.bind_eq_some_iff.mp e8
        obtain ⟨⟨d6, g6⟩, e11, e12⟩ := Option.bind_eq_some_iff.mp e10
        obtain ⟨⟨out2, g7⟩, e13, e14⟩ := Option.bind_eq_some_iff.mp e12
        cases e14
        refine iteT (he _ _ _ ⟨m4, g3, r5, g5, A4, e9, fun v5 m5 H5 A5 S5 V5 N5 => ?_⟩)
        obtain ⟨m6, A6, S6, F6, _⟩ := frz_ok S5 A5 V5.w N5 e11
        have Dh5 : H5 Da = some (.lst acc) := S5.kp Da _ (ownD S4') Dh4
        have Dm6 : Da ∈ m6 := (S6.mo Da Dm4 (by rw [Dh4]; exact fun z => nomatch z)).resolve_right (ownD S4')
        have S6' := S4'.trans S6
        have Df6 := Df.step Ai S6'
        refine ⟨acc, Dh5, Nat.lt_of_le_of_lt (Nat.le_trans ea (Nat.le_trans hle hz)) (by decide), ?_⟩
        have A7 := (A6.wipe npa)
        rw [hw3] at A7
        have S7 : Stp m1 g1 σ H1 m6 (wipeG g6 vs) (wipe σ vs) H5 := by
          have q := (Si.trans S6').trans (Stp.wipe (vs := vs))
          rw [hw3] at q
          exact q
        have o7 : ¬ Own (wipeG g6 vs) (wipe σ vs) Da := fun w => by
          rw [← hw3] at w
          exact ownD S6' (own_wipe w)
        exact ⟨m6, wipeG g6 vs, acc ++ [v5], ds ++ [d6], out2, A7.poke Dm6 o7 D0, S7.poke hD, Dm6, upd_same, (Df6.app (.one F6)).updM Dm6, o7, e13, by rw [List.append_assoc]; exact eo, by rw [List.length_append]; exact Nat.succ_le_succ ea⟩
      | false =>
        rw [if_neg Bool.false_ne_true] at e8
        refine iteF ?_
        have A7 := (A4.wipe npa)
        rw [hw3] at A7
        have S7 : Stp m1 g1 σ H1 m4 (wipeG g3 vs) (wipe σ vs) H4 := by
          have q := (Si.trans S4').trans (Stp.wipe (vs := vs))
          rw [hw3] at q
          exact q
        have o7 : ¬ Own (wipeG g3 vs) (wipe σ vs) Da := fun w => by
          rw [← hw3] at w
          exact ownD S4' (own_wipe w)
        exact ⟨m4, wipeG g3 vs, acc, ds, out, A7, S7, Dm4, Dh4, Df4, o7, e8, eo, Nat.le_succ_of_le ea⟩
    · have ei' : i = l.length := by omega
      subst ei'
      rw [List.drop_length] at ei
      cases ei
      rw [List.append_nil] at eo
      subst eo
      obtain ⟨A9, S9⟩ := Abs.unwipe A1 hn Ai Si
      refine .inl ⟨js, k _ mi Hi A9 (S1.trans S9) ⟨Da, acc, rfl, Dm, Dh, Df, fun w => ?_, D0⟩ fun _ _ p e => ?_⟩
      · exact Do (own_rest hn w)
      · cases e
        exact Classical.byContradiction fun w => S1.tk Da w hD
  · cases e2
end
end Sm

namespace Sm
open PySem L2
section
variable {X : Cx} {c : C0} {a b e cnd o tg iter elt : Expr} {es : List Expr} {pos : Pos} {ws : List Nat} {gf : D → G → Option G} {fi : G → Option (List D × G)} {fb : G → Option O} {ft : G → Option (Bool × G)} {fe : G → Option (R × G)} {body : List Stmt} {fs : G → Option (List R × G)}
def tYesG : G → Option (Bool × G) := fun g => some (true, g)
abbrev STs (X : Cx) (c : C0) (e : List Expr) (f : G → Option (Bool × G)) : Prop := PTs X e (tT X.K X.mg c f)
theorem _root_.L2.PTs.imp {X : Cx} {e : List Expr} {t t' : TT} (h : PTs X e t) (k : ∀ σ H Q, t' σ H Q → t σ H Q) : PTs X e t' := ⟨fun pins s σ H Q I q => h.run pins s σ H Q I (k σ H Q q)⟩
theorem sts_nil : STs X c [] tYesG := pts_nil.imp fun σ H Q q => by
  obtain ⟨m, g, b, g', A, e, k⟩ := q
  cases e
  exact k m H A Stp.refl
theorem sts_one (h : ST X c e ft) : STs X c [e] ft := pts_one h
theorem se_lc {ifs : List Expr} {scope : Scope} {own : List (Str × Nat)} (hc : X.calm = true) (hN : X.N.Nodup) (hi : SI X c tg iter fi) (ok : BlkOk X.N X.env.scope scope own)
    (hg : ∀ (s : Shared) (H : Hp) (C : Addr) (cl : List (Str × Addr)) (fp : List Addr), SGw (X.blk s H scope (compEnvC scope cl C X.env) fp) c ws tg gf) (ht : ∀ (s : Shared) (H : Hp) (C : Addr) (cl : List (Str × Addr)) (fp : List Addr), STs (X.blk s H scope (compEnvC scope cl C X.env) fp) c ifs ft)
    (he : ∀ (s : Shared) (H : Hp) (C : Addr) (cl : List (Str × Addr)) (fp : List Addr), SE (X.blk s H scope (compEnvC scope cl C X.env) fp) c elt fe) (hw : ∀ j ∈ ws, j ∈ own.map (·.2)) (hs : ∀ x, foldedSetIterable iter X.env x = pure x := by intro _; rfl) :
    SE X c (.ListComp elt [⟨tg, iter, ifs, 0⟩] scope pos) (eLc fi gf ft fe (own.map (·.2))) :=
  (pe_lc hc hN hi ok hg ht he hs).imp fun σ H Q q => lc_ok (fun _ _ _ z => z) (fun _ _ _ _ z => z) (fun _ _ _ z => z) (fun _ _ _ z => z) hw q
theorem ss_setLc {i : Nat} {y : Str} {py spos : Pos} {ifs : List Expr} {scope : Scope} {own : List (Str × Nat)} (hc : X.calm = true) (hN : X.N.Nodup) (hy : X.N[i]? = some y) (hyl : X.env.scope.names.lookup y = some .local)
    (hsw : swapsWith (.ListComp elt [⟨tg, iter, ifs, 0⟩] scope pos) (some (.Name y py)) spos.line X.env = pure true) (hi : SI X c tg iter fi) (ok : BlkOk X.N X.env.scope scope own)
    (hg : ∀ (s : Shared) (H : Hp) (C : Addr) (cl : List (Str × Addr)) (fp : List Addr), SGw (X.blk s H scope (compEnvC scope cl C X.env) fp) c ws tg gf) (ht : ∀ (s : Shared) (H : Hp) (C : Addr) (cl : List (Str × Addr)) (fp : List Addr), STs (X.blk s H scope (compEnvC scope cl C X.env) fp) c ifs ft)
    (he : ∀ (s : Shared) (H : Hp) (C : Addr) (cl : List (Str × Addr)) (fp : List Addr), SE (X.blk s H scope (compEnvC scope cl C X.env) fp) c elt fe) (hw : ∀ j ∈ ws, j ∈ own.map (·.2)) (hs : ∀ x, foldedSetIterable iter X.env x = pure x := by intro _; rfl) :
    SS X c (.Assign [.Name y py] (.ListComp elt [⟨tg, iter, ifs, 0⟩] scope pos) spos) (sAsg i (eLc fi gf ft fe (own.map (·.2)))) :=
  ss_asgG (ps_setLc hc hN hy hyl hsw hi ok hg ht he hs) fun σ H Q q => lc_ok (fun _ _ _ z => z) (fun _ _ _ _ z => z) (fun _ _ _ z => z) (fun _ _ _ z => z) hw q
end

/-! ## defs -/
section
variable (K : PySem.W.Frag) (mg : Str → Option Value) (m : List Addr)
structure ArgOk (g : G) (vs : List V) (H : Hp) : Prop where
  len : g.length = vs.length
  fz : ∀ (i : Nat) (d : D), g[i]? = some (.fz d) → ∃ v, vs[i]? = some v ∧ Fz K mg m H v d
  ol : ∀ (i : Nat) (b : Bool) (l : List D), g[i]? = some (.ol b l) → b = true ∧ ∃ p ws, vs[i]? = some (.ref p) ∧ p ∈ m ∧ H p = some (.lst ws) ∧ FzL K mg m H ws l
  ne : ∀ (i j : Nat) (b : Bool) (l : List D) (b' : Bool) (l' : List D) (p : Addr), g[i]? = some (.ol b l) → g[j]? = some (.ol b' l') → vs[i]? = some (.ref p) → vs[j]? = some (.ref p) → i = j
  trk : ∀ a ∈ m, H a ≠ none
/-- the mutable addresses behind the call -/
def mAft (r : R) (v : V) : List Addr := match r, v with
  | .nw _, .ref p => p :: m
  | _, _ => m
structure RetOk (g : G) (vs : List V) (H : Hp) (g' : G) (r : R) (v : V) (H' : Hp) : Prop where
  keep : ∀ a o, (∀ (i : Nat) (b : Bool) (l : List D), g[i]? = some (.ol b l) → vs[i]? ≠ some (.ref a)) → H a = some o → H' a = some o
  ol : ∀ (i : Nat) (b : Bool) (l : List D), g[i]? = some (.ol b l) → ∃ l' p ws, g'[i]? = some (.ol true l') ∧ vs[i]? = some (.ref p) ∧ H' p = some (.lst ws) ∧ FzL K mg (mAft m r v) H' ws l'
  res : ResV K mg m H H' v r
end
def spM (K : PySem.W.Frag) (mg : Str → Option Value) (n : Nat) (F : G → Option (R × G)) : Sp := fun vs H Q _ => vs.length = n ∧ ∃ m g r g', ArgOk K mg m g vs H ∧ F g = some (r, g') ∧ ∀ v H', RetOk K mg m g vs H g' r v H' → Q v H'
def uns (n : Nat) : G := List.replicate n .un
def retR (g : G) : R → Option R
  | .d x => some (.d x)
  | .nw l => some (.nw l)
  | .sl i => match g[i]? with
    | some (.ol false l) => some (.nw l)
    | some (.fz d) => some (.d d)
    | _ => none
/-- a def by its body: n parameters, k names in all -/
def fnM (n k : Nat) (f : G → Option O) : G → Option (R × G) := fun g => (f (g ++ uns (k - n))).bind fun o => match o with
  | .rt r g' => (retR g' r).map fun r' => (r', g'.take n)
  | .nx g' => some (.d .non, g'.take n)
  | _ => none
def paOf (g : G) (vs : List V) : Nat → Option Addr := fun i => match g[i]?, vs[i]? with
  | some (.ol _ _), some (.ref p) => some p
  | _, _ => none
theorem paOf_inv {g : G} {vs : List V} {i : Nat} {p : Addr} (h : paOf g vs i = some p) : ∃ b l, g[i]? = some (.ol b l) ∧ vs[i]? = some (.ref p) := by
  unfold paOf at h
  split at h
  · cases h
    exact ⟨_, _, ‹_›, ‹_›⟩
  · cases h
theorem paOf_of {g : G} {vs : List V} {i : Nat} {p : Addr} {b : Bool} {l : List D} (h : g[i]? = some (.ol b l)) (h' : vs[i]? = some (.ref p)) : paOf g vs i = some p := by
  unfold paOf
  rw [h, h']
def c0Of (m : List Addr) (g : G) (vs : List V) (H : Hp) : C0 := ⟨H, m, paOf g vs⟩
section
variable {K : PySem.W.Frag} {mg : Str → Option Value} {m : List Addr} {g g' : G} {vs : List V} {H H' : Hp} {N : List Str} {r : R} {v : V}
theorem uns_get {n i : Nat} {s : Slot} (h : (uns n)[i]? = some s) : s = .un := by
  unfold uns at h
  rw [List.getElem?_replicate] at h
  split at h
  · cases h; rfl
  · cases h
theorem app_uns {n i : Nat} {s : Slot} (h : (g ++ uns n)[i]? = some s) : (i < g.length ∧ g[i]? = some s) ∨ s = .un := by
  by_cases hi : i < g.length
  · rw [List.getElem?_append_left hi] at h
    exact .inl ⟨hi, h⟩
  · rw [List.getElem?_append_right (by omega)] at h
    exact .inr (uns_get h)
theorem start_get {i : Nat} (hi : i < vs.length) : (L2.start N vs)[i]? = (vs[i]?).map some := by
  unfold L2.start
  rw [List.getElem?_append_left (by rw [List.length_map]; exact hi), List.getElem?_map]
theorem abs_start (A : ArgOk K mg m g vs H) (hn : vs.length ≤ N.length) : Abs K mg (c0Of m g vs H) m (g ++ uns (N.length - vs.length)) (L2.start N vs) H where
  len := by
    unfold L2.start uns
    rw [List.length_append, List.length_append, List.length_replicate, List.length_replicate, List.length_map, A.len]
  fz := fun i d h => by
    rcases app_uns h with ⟨hi, h⟩ | h
    · obtain ⟨v, h1, h2⟩ := A.fz i d h
      exact ⟨v, by rw [start_get (by rw [← A.len]; exact hi), h1]; rfl, h2⟩
    · cases h
  ol := fun i b l h => by
    rcases app_uns h with ⟨hi, h⟩ | h
    · obtain ⟨hb, p, ws, h1, h2, h3, h4⟩ := A.ol i b l h
      exact ⟨p, ws, by rw [start_get (by rw [← A.len]; exact hi), h1]; rfl, h2, h3, h4, by rw [if_pos hb]; exact paOf_of h h1⟩
    · cases h
  ne := fun i j b l b' l' p h h' e e' => by
    rcases app_uns h with ⟨hi, h⟩ | h
    · rcases app_uns h' with ⟨hj, h'⟩ | h'
      · rw [start_get (by rw [← A.len]; exact hi)] at e
        rw [start_get (by rw [← A.len]; exact hj)] at e'
        obtain ⟨x, e, x1⟩ := Option.map_eq_some_iff.mp e
        obtain ⟨y, e', y1⟩ := Option.map_eq_some_iff.mp e'
        cases x1; cases y1
        exact A.ne i j _ _ _ _ p h h' e e'
      · cases h'
    · cases h
  trk := A.trk
  keep := fun a o _ h => h
  sub := fun a h => ⟨h, A.trk a h⟩
  pas := fun i p h => by
    obtain ⟨b, l, h1, h2⟩ := paOf_inv h
    obtain ⟨hb, q, ws, h3, h4, _⟩ := A.ol i b l h1
    rw [h2] at h3; cases h3
    subst hb
    exact ⟨h4, l, by rw [List.getElem?_append_left (lt_of_get h1)]; exact h1⟩
theorem take_get {α : Type} {l : List α} {n i : Nat} {x : α} (h : l[i]? = some x) (hi : i < n) : (l.take n)[i]? = some x := by
  rw [List.getElem?_take, if_pos hi]
  exact h
theorem ret_ok {m' : List Addr} {g1 : G} {σ : St} {r' : R} (A0 : ArgOk K mg m g vs H) (A : Abs K mg (c0Of m g vs H) m' g1 σ H') (V : VR K mg (c0Of m g vs H) m' g1 σ H' v r) (e : retR g1 r = some r') : RetOk K mg m g vs H (g1.take vs.length) r' v H' := by
  have hs : ∀ a ∈ m, a ∈ m' := fun a h => (A.sub a h).1
  have km : ∀ a o, a ∉ m' → H' a = some o → a ∉ m ∧ H' a = some o := fun a o n q => ⟨fun z => n (hs a z), q⟩
  -- the result, less sharp
  have res : (∃ x, r' = .d x ∧ Fz K mg m' H' v x) ∨ (∃ l p ws, r' = .nw l ∧ v = .ref p ∧ p ∈ m' ∧ H p = none ∧ H' p = some (.lst ws) ∧ FzL K mg m' H' ws l) := by
    cases r with
    | d x => cases e; exact .inl ⟨x, rfl, V⟩
    | nw l =>
      cases e
      obtain ⟨p, ws, h1, h2, h3, h4, _, h6⟩ := V
      exact .inr ⟨l, p, ws, rfl, h1, h2, h6, h3, h4⟩
    | sl i =>
      have V : σ[i]? = some (some v) := V
      unfold retR at e
      dsimp only at e
      split at e
      · cases e
        rename_i l hg
        obtain ⟨p, ws, h1, h2, h3, h4, h5⟩ := A.ol i _ l hg
        rw [V] at h1; cases h1
        exact .inr ⟨l, p, ws, rfl, rfl, h2, h5, h3, h4⟩
      · cases e
        rename_i d hg
        obtain ⟨w, h1, h2⟩ := A.fz i d hg
        rw [V] at h1; cases h1
        exact .inl ⟨d, rfl, h2⟩
      · cases e
  have hm : ∀ a ∈ mAft m r' v, a ∈ m' := fun a h => by
    rcases res with ⟨x, rfl, _⟩ | ⟨l, p, ws, rfl, rfl, h2, _⟩
    · exact hs a h
    · rcases List.mem_cons.mp h with h | h
      · rw [h]; exact h2
      · exact hs a h
  have km2 : ∀ a o, a ∉ m' → H' a = some o → a ∉ mAft m r' v ∧ H' a = some o := fun a o n q => ⟨fun z => n (hm a z), q⟩
  refine ⟨fun a o n h => A.keep a o (fun i z => ?_) h, fun i b l h => ?_, ?_⟩
  · obtain ⟨b, l, h1, h2⟩ := paOf_inv z
    exact n i b l h1 h2
  · obtain ⟨hb, p, ws, h1, _⟩ := A0.ol i b l h
    have hp : (c0Of m g vs H).pa i = some p := paOf_of h h1
    obtain ⟨_, l', h2⟩ := A.pas i p hp
    obtain ⟨q, ws', h3, h4, h5, h6, h7⟩ := A.ol i true l' h2
    rw [if_pos rfl, hp] at h7
    cases h7
    exact ⟨l', p, ws', take_get h2 (lt_of_get h1), h1, h5, h6.map km2⟩
  · rcases res with ⟨x, rfl, h2⟩ | ⟨l, p, ws, rfl, rfl, h2, h3, h4, h5⟩
    · exact h2.map km
    · exact ⟨p, ws, rfl, h3, h4, h5.map fun a o n q => ⟨fun z => by
        rcases List.mem_cons.mp z with z | z
        · exact n (by rw [z]; exact h2)
        · exact n (hs a z), q⟩⟩
end
section
variable {P : Program} {w : World} {K : PySem.W.Frag} {mg : Str → Option Value} {base : Heap}
/-- a def keeps the promise of its mirror -/
theorem fn_ok {x qual : Str} {st : Stmt} {f : Addr} {fd : FuncData} {N ps : List Str} {k : Nat} {B : G → Option O} (F : Fun K x qual st f fd) (S : FnScope N ps (defScope st))
    (body : ∀ (cdv : Value) (A : Around) (outer : List Env) (s : Shared) (H : Hp) (E : XK) (c : C0), Room k (A.deeper (PyProof.Rows.envOfC qual (defScope st) s.heap.objs.size f cdv)) →
      SSs (cxOf CX0 P w K mg base N qual (defScope st) f cdv A outer s H E).nox c (defBody st) B) : FnOk P w K mg base CX0 (k + 1) f fd ps (spM K mg ps.length (fnM ps.length N.length B)) := by
  have hpl : ps.length ≤ N.length := by have := congrArg List.length S.pre; rw [List.length_take] at this; omega
  refine F.ok S (fun vs H Q E h => h.1) (fun cdv A outer s H vs Q E hr h => ?_)
  obtain ⟨hv, m, g, r, g', A0, e, kq⟩ := h
  refine ⟨_, body cdv A outer s H E (c0Of m g vs H) hr, ?_⟩
  unfold fnM at e
  obtain ⟨o, e1, e2⟩ := Option.bind_eq_some_iff.mp e
  have A1 := abs_start (N := N) A0 (by omega)
  rw [hv] at A1
  refine ⟨m, _, o, A1, e1, ?_⟩
  cases o with
  | nx g1 =>
    cases e2
    refine fun m' σ' H' A' S' => kq .non H' ?_
    have := ret_ok (r := .d .non) (v := .non) A0 A' .non rfl
    rw [hv] at this
    exact this
  | rt r1 g1 =>
    obtain ⟨r2, e3, e4⟩ := Option.map_eq_some_iff.mp e2
    cases e4
    refine fun v m' σ' H' A' V' => kq v H' ?_
    have := ret_ok A0 A' V' e3
    rw [hv] at this
    exact this
  | bk g1 => cases e2
  | ct g1 => cases e2
end

/-! ## calls -/
/-! no list within -/
mutual
def noL : D → Bool
  | .tup l => noLs l
  | .lst _ => false
  | .sls _ => false
  | .ins _ _ => false
  | .non => true
  | .bl _ => true
  | .int _ => true
  | .str _ => true
def noLs : List D → Bool
  | [] => true
  | d :: l => noL d && noLs l
end
section
variable {K : PySem.W.Frag} {mg : Str → Option Value} {m m' : List Addr} {H : Hp}
mutual
theorem Fz.noL (k : ∀ a ∈ m', a ∈ m ∨ ∃ ws, H a = some (.lst ws)) : ∀ {v : V} {d : D}, Fz K mg m H v d → Sm.noL d = true → Fz K mg m' H v d
  | _, _, .non, _ => .non
  | _, _, .bl b, _ => .bl b
  | _, _, .int i, _ => .int i
  | _, _, .str s, _ => .str s
  | _, _, .tup h t, e => .tup (by
      rcases h with ⟨h1, h2⟩ | h
      · refine .inl ⟨fun z => ?_, h2⟩
        rcases k _ z with q | ⟨ws, q⟩
        · exact h1 q
        · rcases h2 with h2 | ⟨o, h2⟩
          · rw [h2] at q; cases q
          · rw [h2] at q; cases q
      · exact .inr h) (FzL.noL k t (by simpa only [Sm.noL] using e))
  | _, _, .lst h e t, q => by simp only [Sm.noL] at q; cases q
  | _, _, .sls h t, q => by simp only [Sm.noL] at q; cases q
  | _, _, .ins h e hc t, q => by simp only [Sm.noL] at q; cases q
theorem FzL.noL (k : ∀ a ∈ m', a ∈ m ∨ ∃ ws, H a = some (.lst ws)) : ∀ {v : List V} {d : List D}, FzL K mg m H v d → Sm.noLs d = true → FzL K mg m' H v d
  | _, _, .nil, _ => .nil
  | _, _, .cons h t, e => by
    simp only [Sm.noLs, Bool.and_eq_true] at e
    exact .cons (Fz.noL k h e.1) (FzL.noL k t e.2)
end
end
/-- the slots that are lent -/
def lent : List R → List Nat
  | [] => []
  | .sl i :: rs => i :: lent rs
  | _ :: rs => lent rs
def noRs : R → Bool
  | .d x => noL x
  | .nw l => noLs l
  | .sl _ => false
/-- the lists lent to be read are owned no more -/
def meltAll (g : G) : List Nat → Option G
  | [] => some g
  | i :: is => (meltAll g is).bind fun g' => match g'[i]? with
    | some (.ol false l) => some (g'.set i (.fz (.lst l)))
    | some (.ol true _) => none
    | _ => some g'
theorem melt_at {g : G} : ∀ {is : List Nat} {g1 : G}, meltAll g is = some g1 → g1.length = g.length ∧ ∀ j, (j ∉ is → g1[j]? = g[j]?) ∧ (j ∈ is → (∃ l, g[j]? = some (.ol false l) ∧ g1[j]? = some (.fz (.lst l))) ∨ ((∀ b l, g[j]? ≠ some (.ol b l)) ∧ g1[j]? = g[j]?))
  | [], g1, e => by
    cases e
    exact ⟨rfl, fun j => ⟨fun _ => rfl, fun h => nomatch h⟩⟩
  | i :: is, g1, e => by
    unfold meltAll at e
    obtain ⟨g', e1, e2⟩ := Option.bind_eq_some_iff.mp e
    obtain ⟨hl, ih⟩ := melt_at e1
    have old : ∀ {s : Slot}, g'[i]? = some s → (∀ b l, s ≠ .ol b l) → (∃ l, g[i]? = some (.ol false l) ∧ g'[i]? = some (.fz (.lst l))) ∨ ((∀ b l, g[i]? ≠ some (.ol b l)) ∧ g'[i]? = g[i]?) := fun {s} h n => by
      by_cases hi : i ∈ is
      · exact (ih i).2 hi
      · have q := (ih i).1 hi
        exact .inr ⟨fun b l z => by rw [← q, h] at z; cases z; exact n b l rfl, q⟩
    cases hq : g'[i]? with
    | none =>
      rw [hq] at e2
      cases e2
      refine ⟨hl, fun j => ⟨fun h => (ih j).1 fun z => h (List.mem_cons_of_mem _ z), fun h => ?_⟩⟩
      rcases List.mem_cons.mp h with rfl | h
      · have : g[j]? = none := by
          rw [List.getElem?_eq_none_iff] at hq ⊢
          omega
        exact .inr ⟨fun b l z => (by rw [this] at z; cases z), by rw [hq, this]⟩
      · exact (ih j).2 h
    | some s =>
      rw [hq] at e2
      cases s with
      | un =>
        cases e2
        refine ⟨hl, fun j => ⟨fun h => (ih j).1 fun z => h (List.mem_cons_of_mem _ z), fun h => ?_⟩⟩
        rcases List.mem_cons.mp h with rfl | h
        · exact old hq fun _ _ z => nomatch z
        · exact (ih j).2 h
      | fz d =>
        cases e2
        refine ⟨hl, fun j => ⟨fun h => (ih j).1 fun z => h (List.mem_cons_of_mem _ z), fun h => ?_⟩⟩
        rcases List.mem_cons.mp h with rfl | h
        · exact old hq fun _ _ z => nomatch z
        · exact (ih j).2 h
      | ol b l =>
        cases b with
        | true => cases e2
        | false =>
          cases e2
          have gi : g[i]? = some (.ol false l) := by
            by_cases hi : i ∈ is
            · rcases (ih i).2 hi with ⟨l', _, h⟩ | ⟨h, h'⟩
              · rw [hq] at h; cases h
              · rw [← h', hq] at h; exact absurd rfl (h false l)
            · rw [← (ih i).1 hi]; exact hq
          refine ⟨by rw [List.length_set]; exact hl, fun j => ⟨fun h => ?_, fun h => ?_⟩⟩
          · rw [List.getElem?_set_ne fun z => h (by rw [z]; exact List.mem_cons_self)]
            exact (ih j).1 fun z => h (List.mem_cons_of_mem _ z)
          · by_cases hj : i = j
            · subst hj
              exact .inl ⟨l, gi, List.getElem?_set_self (lt_of_get hq)⟩
            · rw [List.getElem?_set_ne hj]
              rcases List.mem_cons.mp h with h | h
              · exact absurd h.symm hj
              · exact (ih j).2 h
/-- the addresses of the lists that slots own -/
def bAd (g : G) (σ : St) (is : List Nat) : List Addr := is.filterMap fun (j : Nat) => match g[j]?, σ[j]? with
  | some (.ol _ _), some (some (.ref p)) => some p
  | _, _ => none
theorem bAd_mem {g : G} {σ : St} {is : List Nat} {p : Addr} : p ∈ bAd g σ is ↔ ∃ (j : Nat), j ∈ is ∧ ∃ (b : Bool) (l : List D), g[j]? = some (.ol b l) ∧ σ[j]? = some (some (.ref p)) := by
  unfold bAd
  rw [List.mem_filterMap]
  constructor
  · rintro ⟨j, hj, e⟩
    split at e
    · cases e
      exact ⟨j, hj, _, _, ‹_›, ‹_›⟩
    · cases e
  · rintro ⟨j, hj, b, l, h1, h2⟩
    exact ⟨j, hj, by rw [h1, h2]⟩
def lessL (m : List Addr) (l : List Addr) : List Addr := m.filter fun a => decide (a ∉ l)
theorem mem_lessL {m l : List Addr} {a : Addr} : a ∈ lessL m l ↔ a ∈ m ∧ a ∉ l := by
  unfold lessL
  rw [List.mem_filter, decide_eq_true_eq]
section
variable {K : PySem.W.Frag} {mg : Str → Option Value} {c : C0} {m m1 m2 : List Addr} {g g1 g2 : G} {σ σ1 σ2 : St} {H H1 H2 : Hp} {v : V} {r : R} {d : D}
theorem Fz.lessL {l : List Addr} (h : Fz K mg m H v d) : Fz K mg (Sm.lessL m l) H v d := h.map fun a o n e => ⟨fun q => n (mem_lessL.mp q).1, e⟩
theorem FzL.lessL {l : List Addr} {vs : List V} {ds : List D} (h : FzL K mg m H vs ds) : FzL K mg (Sm.lessL m l) H vs ds := h.map fun a o n e => ⟨fun q => n (mem_lessL.mp q).1, e⟩
theorem Abs.meltAll {is : List Nat} (A : Abs K mg c m g σ H) (e : Sm.meltAll g is = some g1) : Abs K mg c (Sm.lessL m (bAd g σ is)) g1 σ H ∧ Stp m g σ H (Sm.lessL m (bAd g σ is)) g1 σ H := by
  obtain ⟨hl, hx⟩ := melt_at e
  have ob : ∀ {j : Nat} {b : Bool} {l : List D}, g1[j]? = some (.ol b l) → j ∉ is ∧ g[j]? = some (.ol b l) := fun {j b l} h => by
    by_cases hj : j ∈ is
    · rcases (hx j).2 hj with ⟨l', _, h'⟩ | ⟨h1, h2⟩
      · rw [h] at h'; cases h'
      · rw [h2] at h; exact absurd h (h1 b l)
    · exact ⟨hj, by rw [← (hx j).1 hj]; exact h⟩
  have nb : ∀ {j : Nat} {b : Bool} {l : List D} {p : Addr}, j ∉ is → g[j]? = some (.ol b l) → σ[j]? = some (some (.ref p)) → p ∉ bAd g σ is := fun {j b l p} hj h h' z => by
    obtain ⟨k, hk, b', l', h1, h2⟩ := bAd_mem.mp z
    exact hj (by rw [A.ne j k _ _ _ _ p h h1 h' h2]; exact hk)
  have nt : ∀ {j : Nat} {l : List D}, j ∈ is → g[j]? ≠ some (.ol true l) := fun {j l} hj h => by
    rcases (hx j).2 hj with ⟨l', h', _⟩ | ⟨h1, _⟩
    · rw [h] at h'; cases h'
    · exact h1 _ _ h
  refine ⟨⟨by rw [hl]; exact A.len, fun i d h => ?_, fun i b l h => ?_, fun i j b l b' l' p h h' => A.ne i j _ _ _ _ p (ob h).2 (ob h').2, fun a h => A.trk a (mem_lessL.mp h).1, A.keep, fun a h => ⟨mem_lessL.mpr ⟨(A.sub a h).1, fun z => ?_⟩, (A.sub a h).2⟩, fun i p h => ?_⟩,
    ⟨fun a h => .inl (mem_lessL.mp h).1, fun _ _ _ h => h, fun a h _ => ?_, fun a h => .inl ?_, fun _ h => h⟩⟩
  · by_cases hj : i ∈ is
    · rcases (hx i).2 hj with ⟨l', h1, h2⟩ | ⟨_, h2⟩
      · rw [h] at h2; cases h2
        obtain ⟨p, vs, h3, h4, h5, h6, _⟩ := A.ol i _ _ h1
        exact ⟨.ref p, h3, .lst (fun z => (mem_lessL.mp z).2 (bAd_mem.mpr ⟨i, hj, _, _, h1, h3⟩)) h5 h6.lessL⟩
      · rw [h2] at h
        obtain ⟨v, h3, h4⟩ := A.fz i d h
        exact ⟨v, h3, h4.lessL⟩
    · rw [(hx i).1 hj] at h
      obtain ⟨v, h3, h4⟩ := A.fz i d h
      exact ⟨v, h3, h4.lessL⟩
  · obtain ⟨hj, h⟩ := ob h
    obtain ⟨p, vs, h3, h4, h5, h6, h7⟩ := A.ol i _ _ h
    exact ⟨p, vs, h3, mem_lessL.mpr ⟨h4, nb hj h h3⟩, h5, h6.lessL, h7⟩
  · obtain ⟨k, hk, b', l', h1, h2⟩ := bAd_mem.mp z
    obtain ⟨p, vs, h3, h4, h5, h6, h7⟩ := A.ol k _ _ h1
    rw [h2] at h3; cases h3
    cases b' with
    | true => exact nt hk h1
    | false => exact (A.sub a h).2 h7
  · obtain ⟨h1, l, h2⟩ := A.pas i p h
    refine ⟨h1, l, ?_⟩
    rw [(hx i).1 fun z => nt z h2]
    exact h2
  · by_cases z : a ∈ bAd g σ is
    · obtain ⟨k, hk, b', l', h1, h2⟩ := bAd_mem.mp z
      exact .inr ⟨k, _, _, h1, h2⟩
    · exact .inl (mem_lessL.mpr ⟨h, z⟩)
  · obtain ⟨j, b, l, h1, h2⟩ := h
    exact ⟨j, b, l, (ob h1).2, h2⟩
/-- the fresh lists among results are handed over -/
theorem dropNw : ∀ {vs : List V} {rs : List R} {m1 : List Addr}, Stp m g σ H m1 g1 σ H1 → Abs K mg c m1 g1 σ H1 → VRws K mg c m1 g1 σ H1 vs rs → Nws H vs rs →
    ∃ m2, Abs K mg c m2 g1 σ H1 ∧ Stp m g σ H m2 g1 σ H1 ∧ (∀ a ∈ m2, a ∈ m1) ∧ VRws K mg c m2 g1 σ H1 vs rs ∧ ∀ (j : Nat) (l : List D), rs[j]? = some (.nw l) → ∃ p ws, vs[j]? = some (.ref p) ∧ p ∉ m2 ∧ H1 p = some (.lst ws) ∧ FzL K mg m2 H1 ws l
  | [], [], m1, S, A, _, _ => ⟨m1, A, S, fun _ z => z, trivial, fun j l h => nomatch h⟩
  | v :: vs, .nw l :: rs, m1, S, A, h, n => by
    obtain ⟨p, ws, e, hp, hv, ho, h0⟩ := h.1
    obtain ⟨m2, A2, S2, F2, M2, O2⟩ := frz_ok (r := .nw l) (d := .lst l) (g2 := g1) S A h.1 n.1 rfl
    obtain ⟨m3, A3, S3, M3, V3, W3⟩ := dropNw S2 A2 (h.2.sub M2 O2) n.2
    refine ⟨m3, A3, S3, fun a z => M2 a (M3 a z), ⟨h.1.sub (fun a z => M2 a (M3 a z)) fun _ z => z, V3⟩, fun j l' hj => ?_⟩
    cases j with
    | zero =>
      cases hj
      cases F2 with
      | lst n1 x1 t1 =>
        cases e
        exact ⟨_, _, rfl, fun z => n1 (M3 _ z), x1, t1.map fun a o z w => ⟨fun q => z (M3 a q), w⟩⟩
    | succ j => exact W3 j l' hj
  | v :: vs, .d x :: rs, m1, S, A, h, n => by
    obtain ⟨m3, A3, S3, M3, V3, W3⟩ := dropNw S A h.2 n.2
    refine ⟨m3, A3, S3, M3, ⟨h.1.sub M3 fun _ z => z, V3⟩, fun j l' hj => ?_⟩
    cases j with
    | zero => cases hj
    | succ j => exact W3 j l' hj
  | v :: vs, .sl i :: rs, m1, S, A, h, n => by
    obtain ⟨m3, A3, S3, M3, V3, W3⟩ := dropNw S A h.2 n.2
    refine ⟨m3, A3, S3, M3, ⟨h.1, V3⟩, fun j l' hj => ?_⟩
    cases j with
    | zero => cases hj
    | succ j => exact W3 j l' hj
  | [], _ :: _, _, _, _, h, _ => h.elim
  | _ :: _, [], _, _, _, h, _ => h.elim
/-- the arguments that are read, as frozen data -/
theorem args_fz (A : Abs K mg c m g σ H) : ∀ {vs : List V} {rs : List R} {ds : List D} {is : List Nat}, VRws K mg c m g σ H vs rs → (∀ i ∈ lent rs, i ∈ is) → (∀ (j : Nat) (l : List D), rs[j]? = some (.nw l) → ∃ p ws, vs[j]? = some (.ref p) ∧ p ∉ m ∧ H p = some (.lst ws) ∧ FzL K mg m H ws l) → lds g rs = some ds →
    FzL K mg (Sm.lessL m (bAd g σ is)) H vs ds
  | [], [], _, _, _, _, _, e => by cases e; exact .nil
  | v :: vs, r :: rs, _, is, h, hi, hn, e => by
    unfold lds at e
    obtain ⟨d, e1, e2⟩ := Option.bind_eq_some_iff.mp e
    obtain ⟨ds, e3, e4⟩ := Option.bind_eq_some_iff.mp e2
    cases e4
    refine .cons ?_ (args_fz A h.2 (fun i z => hi i (by cases r <;> first | exact z | exact List.mem_cons_of_mem _ z)) (fun j l z => hn (j + 1) l z) e3)
    cases r with
    | d x => cases e1; exact Fz.lessL h.1
    | nw l =>
      cases e1
      obtain ⟨p, ws, h1, h2, h3, h4⟩ := hn 0 l rfl
      cases h1
      exact .lst (fun z => h2 (mem_lessL.mp z).1) h3 h4.lessL
    | sl i =>
      have hs : σ[i]? = some (some v) := h.1
      simp only [ld] at e1
      cases q : g[i]? with
      | none => rw [q] at e1; cases e1
      | some s =>
        rw [q] at e1
        cases s with
        | un => cases e1
        | fz x =>
          cases e1
          obtain ⟨w, h1, h2⟩ := A.fz i _ q
          rw [hs] at h1; cases h1
          exact h2.lessL
        | ol b l =>
          cases e1
          obtain ⟨p, ws, h1, h2, h3, h4, _⟩ := A.ol i b l q
          rw [hs] at h1; cases h1
          exact .lst (fun z => (mem_lessL.mp z).2 (bAd_mem.mpr ⟨i, hi i List.mem_cons_self, b, l, q, hs⟩)) h3 h4.lessL
  | [], _ :: _, _, _, h, _, _, _ => h.elim
  | _ :: _, [], _, _, h, _, _, _ => h.elim
/-- behind a call that changed nothing tracked but, if anything, the list at p that slot i owns -/
theorem after (A : Abs K mg c m g σ H) {P : Addr → Prop} (keep : ∀ a o, ¬ P a → H a = some o → H2 a = some o)
    (hg : g2.length = g.length) (hP : ∀ a, P a → Own g σ a)
    (hs : ∀ (j : Nat), (g2[j]? = g[j]? ∧ ∀ (b : Bool) (l : List D) (p : Addr), g[j]? = some (.ol b l) → σ[j]? = some (some (.ref p)) → ¬ P p) ∨
      ∃ (b : Bool) (l l' : List D) (p : Addr) (ws : List V), g[j]? = some (.ol b l) ∧ σ[j]? = some (some (.ref p)) ∧ g2[j]? = some (.ol b l') ∧ H2 p = some (.lst ws) ∧ FzL K mg (mAft m r v) H2 ws l')
    (res : ResV K mg m H H2 v r) :
    ∃ m2, Abs K mg c m2 g2 σ H2 ∧ Stp m g σ H m2 g2 σ H2 ∧ VR K mg c m2 g2 σ H2 v r ∧ Nw H v r := by
  have nP : ∀ a, a ∉ m → ¬ P a := fun a n z => n (A.own_mem (hP a z))
  have shape : ∀ a ∈ mAft m r v, a ∈ m ∨ (H a = none ∧ H2 a ≠ none) := fun a h => by
    cases r with
    | d x => exact .inl h
    | sl i => exact res.elim
    | nw l =>
      obtain ⟨p, ws, rfl, h1, h2, _⟩ := res
      rcases List.mem_cons.mp h with h | h
      · subst h; exact .inr ⟨h1, by rw [h2]; exact fun z => nomatch z⟩
      · exact .inl h
  have inc : ∀ a ∈ m, a ∈ mAft m r v := fun a h => by
    cases r with
    | d x => exact h
    | sl i => exact res.elim
    | nw l =>
      obtain ⟨p, ws, rfl, _⟩ := res
      exact List.mem_cons_of_mem _ h
  have up : ∀ a o, a ∉ m → H a = some o → a ∉ mAft m r v ∧ H2 a = some o := fun a o n e => ⟨fun z => (shape a z).elim n fun q => (by
    have q1 := q.1
    rw [e] at q1
    cases q1), keep a o (nP a n) e⟩
  have lists : ∀ {j : Nat} {b : Bool} {l : List D}, g[j]? = some (.ol b l) → ∃ l', g2[j]? = some (.ol b l') := fun {j b l} h => by
    rcases hs j with ⟨h1, _⟩ | ⟨b', l0, l', p, ws, h1, _, h3, _⟩
    · exact ⟨l, by rw [h1]; exact h⟩
    · rw [h] at h1; cases h1; exact ⟨l', h3⟩
  have back : ∀ {j : Nat} {b : Bool} {l' : List D}, g2[j]? = some (.ol b l') → ∃ l, g[j]? = some (.ol b l) := fun {j b l'} h => by
    rcases hs j with ⟨h1, _⟩ | ⟨b', l0, l2, p, ws, h1, _, h3, _⟩
    · exact ⟨l', by rw [← h1]; exact h⟩
    · rw [h] at h3; cases h3; exact ⟨l0, h1⟩
  have trk2 : ∀ a, H a ≠ none → H2 a ≠ none := fun a h => by
    by_cases z : P a
    · obtain ⟨j, b, l, h1, h2⟩ := hP a z
      rcases hs j with ⟨_, n⟩ | ⟨b', l0, l', p, ws, _, h4, _, h6, _⟩
      · exact absurd z (n b l a h1 h2)
      · rw [h2] at h4; cases h4
        rw [h6]; exact fun z => nomatch z
    · cases q : H a with
      | none => exact absurd q h
      | some o => rw [keep a o z q]; exact fun z => nomatch z
  have A2 : Abs K mg c (mAft m r v) g2 σ H2 := by
    refine ⟨by rw [hg]; exact A.len, fun i d h => ?_, fun i b l h => ?_, fun i j b l b' l' p h h' => ?_, fun a h => ?_, fun a o n h => ?_, fun a h => ⟨inc a (A.sub a h).1, (A.sub a h).2⟩, fun i p h => ?_⟩
    · rcases hs i with ⟨h1, _⟩ | ⟨b', l0, l', p, ws, _, _, h3, _⟩
      · rw [h1] at h
        obtain ⟨w, h2, h3⟩ := A.fz i d h
        exact ⟨w, h2, h3.map up⟩
      · rw [h] at h3; cases h3
    · rcases hs i with ⟨h1, n⟩ | ⟨b', l0, l', p, ws, h1, h2, h3, h4, h5⟩
      · rw [h1] at h
        obtain ⟨p, ws, h2, h3, h4, h5, h6⟩ := A.ol i b l h
        exact ⟨p, ws, h2, inc p h3, keep p _ (n b l p h h2) h4, h5.map up, h6⟩
      · rw [h] at h3; cases h3
        obtain ⟨q, ws', h6, h7, h8, h9, h10⟩ := A.ol i b _ h1
        rw [h2] at h6; cases h6
        exact ⟨p, ws, h2, inc p h7, h4, h5, h10⟩
    · obtain ⟨l1, h1⟩ := back h
      obtain ⟨l2, h2⟩ := back h'
      exact A.ne i j _ _ _ _ p h1 h2
    · rcases shape a h with q | ⟨_, q⟩
      · exact trk2 a (A.trk a q)
      · exact q
    · refine keep a o (fun z => ?_) (A.keep a o n h)
      obtain ⟨j, b, l, h1, h2⟩ := hP a z
      obtain ⟨q, ws, h3, _, _, _, h4⟩ := A.ol j b l h1
      rw [h2] at h3; cases h3
      cases b with
      | true => exact n j h4
      | false => rw [show c.H0 a = none from h4] at h; cases h
    · obtain ⟨h1, l, h2⟩ := A.pas i p h
      obtain ⟨l', h3⟩ := lists h2
      exact ⟨h1, l', h3⟩
  have S2 : Stp m g σ H (mAft m r v) g2 σ H2 := ⟨fun a h => (shape a h).imp id fun z => z.1, fun a o n h => keep a o (fun z => n (hP a z)) h, fun a h _ => .inl (inc a h), fun a h => by
    obtain ⟨j, b, l, h1, h2⟩ := h
    obtain ⟨l', h3⟩ := back h1
    exact .inl ⟨j, b, l', h3, h2⟩, trk2⟩
  refine ⟨_, A2, S2, ?_, fun l e p q => ?_⟩
  · cases r with
    | d x => exact res
    | sl i => exact res.elim
    | nw l =>
      obtain ⟨p, ws, rfl, h1, h2, h3⟩ := res
      exact ⟨p, ws, rfl, List.mem_cons_self, h2, h3, fun w => by
        rcases S2.ow p w with w | w
        · exact A.trk p (A.own_mem w) h1
        · obtain ⟨j, b, l, h4, h5⟩ := ‹Own g2 σ p›
          obtain ⟨l', h6⟩ := back h4
          exact A.trk p (A.own_mem ⟨j, b, l', h6, h5⟩) h1, A.h0 h1⟩
  · subst e
    subst q
    obtain ⟨p', ws, e, h1, _⟩ := res
    cases e
    exact h1
end
end Sm

namespace Sm
open PySem L2
section
variable {K : PySem.W.Frag} {mg : Str → Option Value} {c : C0} {m m1 m2 : List Addr} {g g1 g2 : G} {σ σ1 σ2 : St} {H H1 H2 : Hp} {v : V} {r : R} {d : D}
theorem fzs_get {ds : List D} {i : Nat} {s : Slot} (h : (ds.map Slot.fz)[i]? = some s) : ∃ d, ds[i]? = some d ∧ s = .fz d := by
  rw [List.getElem?_map] at h
  obtain ⟨d, h1, h2⟩ := Option.map_eq_some_iff.mp h
  exact ⟨d, h1, h2.symm⟩
theorem arg0 {vs : List V} {ds : List D} (t : FzL K mg m H vs ds) (ht : ∀ a ∈ m, H a ≠ none) : ArgOk K mg m (ds.map .fz) vs H where
  len := by rw [List.length_map, t.length]
  fz := fun i d h => by
    obtain ⟨d', h1, h2⟩ := fzs_get h
    cases h2
    exact t.get h1
  ol := fun i b l h => by obtain ⟨d', h1, h2⟩ := fzs_get h; cases h2
  ne := fun i j b l b' l' p h => by obtain ⟨d', h1, h2⟩ := fzs_get h; cases h2
  trk := ht
theorem arg1 {p : Addr} {ws : List V} {l : List D} {vs : List V} {ds : List D} (hm : p ∈ m) (hp : H p = some (.lst ws)) (hw : FzL K mg m H ws l) (t : FzL K mg m H vs ds) (ht : ∀ a ∈ m, H a ≠ none) : ArgOk K mg m (.ol true l :: ds.map .fz) (.ref p :: vs) H where
  len := by rw [List.length_cons, List.length_cons, List.length_map, t.length]
  fz := fun i d h => by
    cases i with
    | zero => cases h
    | succ i =>
      obtain ⟨d', h1, h2⟩ := fzs_get h
      cases h2
      exact t.get h1
  ol := fun i b l h => by
    cases i with
    | zero => cases h; exact ⟨rfl, p, ws, rfl, hm, hp, hw⟩
    | succ i => obtain ⟨d', h1, h2⟩ := fzs_get h; cases h2
  ne := fun i j b l b' l' p h h' _ _ => by
    cases i with
    | zero =>
      cases j with
      | zero => rfl
      | succ j => obtain ⟨d', h1, h2⟩ := fzs_get h'; cases h2
    | succ i => obtain ⟨d', h1, h2⟩ := fzs_get h; cases h2
  trk := ht
/-- what comes back of a call that had less to take care of -/
theorem noL_up {B : List Addr} (hB : ∀ a ∈ B, ∃ ws, H2 a = some (.lst ws)) : ∀ a ∈ mAft m r v, a ∈ mAft (lessL m B) r v ∨ ∃ ws, H2 a = some (.lst ws) := fun a h => by
  have base : a ∈ m → a ∈ lessL m B ∨ ∃ ws, H2 a = some (.lst ws) := fun h => by
    by_cases z : a ∈ B
    · exact .inr (hB a z)
    · exact .inl (mem_lessL.mpr ⟨h, z⟩)
  cases r with
  | d x => exact base h
  | sl i => exact base h
  | nw l =>
    cases v with
    | ref p =>
      rcases List.mem_cons.mp h with h | h
      · exact .inl (List.mem_cons.mpr (.inl h))
      · exact (base h).imp (List.mem_cons_of_mem _) id
    | _ => exact base h
theorem res_up {B : List Addr} (hB : ∀ a ∈ B, ∃ ws, H2 a = some (.lst ws)) (hn : noRs r = true) (h : ResV K mg (lessL m B) H H2 v r) : ResV K mg m H H2 v r := by
  cases r with
  | d x => exact Fz.noL (noL_up (r := .d x) (v := v) hB) h hn
  | sl i => exact h
  | nw l =>
    obtain ⟨p, ws, rfl, h1, h2, h3⟩ := h
    exact ⟨p, ws, rfl, h1, h2, FzL.noL (noL_up (r := .nw l) (v := .ref p) hB) h3 hn⟩
end
section
variable {X : Cx} {c : C0} {a b e : Expr} {es : List Expr} {pos : Pos} {fe : G → Option (R × G)} {fs : G → Option (List R × G)}
def eCall0 (F : G → Option (R × G)) (fs : G → Option (List R × G)) : G → Option (R × G) := fun g => (fs g).bind fun p => (lds p.2 p.1).bind fun ds => (F (ds.map .fz)).bind fun q =>
  (if noRs q.1 = true then some p.2 else meltAll p.2 (lent p.1)).bind fun g1 => some (q.1, g1)
def eCall1 (F : G → Option (R × G)) (fs : G → Option (List R × G)) : G → Option (R × G) := fun g => (fs g).bind fun p => match p.1 with
  | .sl i :: rs => if i ∈ lent rs then none else match p.2[i]? with
    | some (.ol b l) => (lds p.2 rs).bind fun ds => (F (.ol true l :: ds.map .fz)).bind fun q => match List.head? q.2 with
      | some (.ol true l') => (if noRs q.1 = true ∧ noLs l' = true then some p.2 else meltAll p.2 (lent rs)).bind fun g1 => some (q.1, g1.set i (.ol b l'))
      | _ => none
    | _ => none
  | _ => none
theorem VRs.len {K : PySem.W.Frag} {mg : Str → Option Value} {m : List Addr} {g : G} {σ : St} {H : Hp} : ∀ {vs : List V} {rs : List R}, VRs K mg c m g σ H vs rs → vs.length = rs.length
  | [], [], _ => rfl
  | _ :: _, _ :: _, h => congrArg Nat.succ (VRs.len h.2)
  | [], _ :: _, h => h.elim
  | _ :: _, [], h => h.elim
theorem call0_ok {F : G → Option (R × G)} {n : Nat} {σ : St} {H : Hp} {Q : VK} (hn : ∀ g r g', F g = some (r, g') → g.length = n) (q : tE X.K X.mg c (eCall0 F fs) σ H Q) : tA X.K X.mg c fs σ H fun vs H1 => spM X.K X.mg n F (vs ++ []) H1 Q E0 := by
  obtain ⟨m, g, r, g', A, e, k⟩ := q
  unfold eCall0 at e
  obtain ⟨⟨rs, g1⟩, e1, e2⟩ := Option.bind_eq_some_iff.mp e
  obtain ⟨ds, e3, e4⟩ := Option.bind_eq_some_iff.mp e2
  obtain ⟨⟨r', gc⟩, e5, e6⟩ := Option.bind_eq_some_iff.mp e4
  obtain ⟨g2, e7, e8⟩ := Option.bind_eq_some_iff.mp e6
  cases e8
  refine ⟨m, g, rs, g1, A, e1, fun vs m1 H1 A1 S1 V1 N1 => ?_⟩
  show spM X.K X.mg n F (vs ++ []) H1 Q E0
  rw [List.append_nil]
  obtain ⟨m2, A2, S2, M2, V2, W2⟩ := dropNw S1 A1 V1.w N1
  have F2 := args_fz A2 (is := lent rs) V2 (fun _ z => z) W2 e3
  have hl : vs.length = n := by
    have := hn _ _ _ e5
    rw [List.length_map, ← F2.length] at this
    exact this
  refine ⟨hl, _, _, r', gc, arg0 F2 (fun a h => A2.trk a (mem_lessL.mp h).1), e5, fun v H2 ret => ?_⟩
  have keep : ∀ a o, ¬ (fun _ : Addr => False) a → H1 a = some o → H2 a = some o := fun a o _ h => ret.keep a o (fun i b l z => by obtain ⟨d', _, h2⟩ := fzs_get z; cases h2) h
  have hB : ∀ a ∈ bAd g1 σ (lent rs), ∃ ws, H2 a = some (.lst ws) := fun a h => by
    obtain ⟨j, _, b, l, h1, h2⟩ := bAd_mem.mp h
    obtain ⟨p, ws, h3, _, h4, _⟩ := A2.ol j b l h1
    rw [h2] at h3; cases h3
    exact ⟨ws, keep a _ id h4⟩
  dsimp only at e7
  split at e7
  · rename_i hnr
    cases e7
    obtain ⟨m3, A3, S3, V3, N3⟩ := after (r := r') (v := v) A2 keep rfl (fun _ z => z.elim) (fun j => .inl ⟨rfl, fun _ _ _ _ _ z => z⟩) (res_up hB hnr ret.res)
    exact k v m3 H2 A3 (S2.trans S3) V3 (N3.back S2)
  · obtain ⟨A4, S4⟩ := A2.meltAll e7
    obtain ⟨m3, A3, S3, V3, N3⟩ := after (r := r') (v := v) A4 keep rfl (fun _ z => z.elim) (fun j => .inl ⟨rfl, fun _ _ _ _ _ z => z⟩) ret.res
    exact k v m3 H2 A3 ((S2.trans S4).trans S3) V3 (N3.back (S2.trans S4))
theorem call1_ok {F : G → Option (R × G)} {n : Nat} {σ : St} {H : Hp} {Q : VK} (hn : ∀ g r g', F g = some (r, g') → g.length = n) (q : tE X.K X.mg c (eCall1 F fs) σ H Q) : tA X.K X.mg c fs σ H fun vs H1 => spM X.K X.mg n F (vs ++ []) H1 Q E0 := by
  obtain ⟨m, g, r, g', A, e, k⟩ := q
  unfold eCall1 at e
  obtain ⟨⟨rs0, g1⟩, e1, e2⟩ := Option.bind_eq_some_iff.mp e
  clear e
  dsimp only at e2
  split at e2
  · rename_i i rs
    split at e2
    · cases e2
    · rename_i hi
      split at e2
      · rename_i b l hg
        obtain ⟨ds, e3, e4⟩ := Option.bind_eq_some_iff.mp e2
        obtain ⟨⟨r', gc⟩, e5, e6⟩ := Option.bind_eq_some_iff.mp e4
        clear e2 e4
        dsimp only at e6
        split at e6
        · rename_i l' hgc
          obtain ⟨g2, e7, e8⟩ := Option.bind_eq_some_iff.mp e6
          clear e6
          cases e8
          refine ⟨m, g, _, g1, A, e1, fun vs0 m1 H1 A1 S1 V1 N1 => ?_⟩
          show spM X.K X.mg n F (vs0 ++ []) H1 Q E0
          rw [List.append_nil]
          match vs0, V1, N1 with
          | v0 :: vs, V1, N1 =>
          obtain ⟨m2, A2, S2, M2, V2, W2⟩ := dropNw (vs := vs) (rs := rs) S1 A1 (VRs.w V1.2) N1.2
          have F2 := args_fz A2 (is := lent rs) V2 (fun _ z => z) W2 e3
          have hv0 : σ[i]? = some (some v0) := V1.1
          obtain ⟨p, ws, h1, h2, h3, h4, h5⟩ := A2.ol i b l hg
          rw [hv0] at h1; cases h1
          have pB : p ∉ bAd g1 σ (lent rs) := fun z => by
            obtain ⟨j, hj, b', l2, h6, h7⟩ := bAd_mem.mp z
            exact hi (by rw [A2.ne i j _ _ _ _ p hg h6 hv0 h7]; exact hj)
          have hl : (V.ref p :: vs).length = n := by
            have := hn _ _ _ e5
            rw [List.length_cons, List.length_map, ← F2.length] at this
            exact this
          refine ⟨hl, _, _, r, gc, arg1 (mem_lessL.mpr ⟨h2, pB⟩) h3 h4.lessL F2 (fun a h => A2.trk a (mem_lessL.mp h).1), e5, fun v H2 ret => ?_⟩
          have keep : ∀ a o, ¬ (fun a : Addr => a = p) a → H1 a = some o → H2 a = some o := fun a o n h => ret.keep a o (fun j b l z w => by
            cases j with
            | zero => cases w; exact n rfl
            | succ j => obtain ⟨d', _, h2⟩ := fzs_get z; cases h2) h
          obtain ⟨l2, p2, ws2, h6, h7, h8, h9⟩ := ret.ol 0 true l rfl
          cases h7
          rw [List.head?_eq_getElem?] at hgc
          rw [hgc] at h6; cases h6
          have hB : ∀ a ∈ bAd g1 σ (lent rs), ∃ ws, H2 a = some (.lst ws) := fun a h => by
            obtain ⟨j, _, b, l, h1, h2⟩ := bAd_mem.mp h
            obtain ⟨q, ws, h3, _, h4, _⟩ := A2.ol j b l h1
            rw [h2] at h3; cases h3
            exact ⟨ws, keep a _ (fun z : a = p => pB (by rw [← z]; exact h)) h4⟩
          have ownP : ∀ {g : G}, g[i]? = some (.ol b l) → ∀ a, (fun a : Addr => a = p) a → Own g σ a := fun {g} hg a z => by
            have z : a = p := z
            subst z
            exact ⟨i, b, l, hg, hv0⟩
          have slots : ∀ {m3 : List Addr} {g3 : G}, Abs X.K X.mg c m3 g3 σ H1 → g3[i]? = some (.ol b l) → FzL X.K X.mg (mAft m3 r v) H2 ws2 l' → ∀ (j : Nat), ((g3.set i (.ol b l'))[j]? = g3[j]? ∧ ∀ (b : Bool) (l : List D) (q : Addr), g3[j]? = some (.ol b l) → σ[j]? = some (some (.ref q)) → ¬ (fun a : Addr => a = p) q) ∨
              ∃ (b' : Bool) (l1 l2 : List D) (q : Addr) (ws : List V), g3[j]? = some (.ol b' l1) ∧ σ[j]? = some (some (.ref q)) ∧ (g3.set i (.ol b l'))[j]? = some (.ol b' l2) ∧ H2 q = some (.lst ws) ∧ FzL X.K X.mg (mAft m3 r v) H2 ws l2 := fun {m3 g3} A3 h t j => by
            by_cases hj : i = j
            · subst hj
              exact .inr ⟨b, l, l', p, ws2, h, hv0, List.getElem?_set_self (lt_of_get h), h8, t⟩
            · refine .inl ⟨List.getElem?_set_ne hj, fun b' l1 q w w' z => hj ?_⟩
              have z : q = p := z
              subst z
              exact A3.ne i j _ _ _ _ q h w hv0 w'
          split at e7
          · rename_i hnr
            cases e7
            have h9' : FzL X.K X.mg (mAft m2 r v) H2 ws2 l' := FzL.noL (noL_up hB) h9 hnr.2
            obtain ⟨m3, A3, S3, V3, N3⟩ := after (r := r) (v := v) A2 keep List.length_set (ownP hg) (slots A2 hg h9') (res_up hB hnr.1 ret.res)
            exact k v m3 H2 A3 (S2.trans S3) V3 (N3.back S2)
          · obtain ⟨A4, S4⟩ := A2.meltAll e7
            have hg4 : g2[i]? = some (.ol b l) := by rw [((melt_at e7).2 i).1 hi]; exact hg
            obtain ⟨m3, A3, S3, V3, N3⟩ := after (r := r) (v := v) A4 keep List.length_set (ownP hg4) (slots A4 hg4 h9) ret.res
            exact k v m3 H2 A3 ((S2.trans S4).trans S3) V3 (N3.back (S2.trans S4))
        · cases e6
      · cases e2
  · cases e2
/-- the number of the arguments that a mirror takes -/
theorem fnM_len {n k : Nat} {B : G → Option O} (F : G → Option (R × G)) (hF : F = fun g => if g.length = n then fnM n k B g else none) : ∀ g r g', F g = some (r, g') → g.length = n := fun g r g' h => by
  subst hF
  dsimp only at h
  split at h
  · assumption
  · cases h
/-- a def's mirror -/
def dM (n k : Nat) (B : G → Option O) : G → Option (R × G) := fun g => if g.length = n then fnM n k B g else none
theorem dM_len {n k : Nat} {B : G → Option O} : ∀ g r g', dM n k B g = some (r, g') → g.length = n := fnM_len _ rfl
theorem spM_imp {K : PySem.W.Frag} {mg : Str → Option Value} {n k : Nat} {B : G → Option O} (vs : List V) (H : Hp) (Q : VK) (E : XK) (h : spM K mg n (dM n k B) vs H Q E) : spM K mg n (fnM n k B) vs H Q E := by
  obtain ⟨h1, m, g, r, g', A, e, kq⟩ := h
  refine ⟨h1, m, g, r, g', A, ?_, kq⟩
  unfold dM at e
  split at e
  · exact e
  · cases e
variable {k : Nat} {f : Addr} {fd : FuncData} {ps : List Str} {x : Str} {p : Pos} {n nn : Nat} {B : G → Option O}
theorem se_call0 (F : FnOk X.prog X.w X.K X.mg X.base CX0 k f fd ps (spM X.K X.mg n (dM n nn B))) (hr : Room k X.A) (hg : Gl X x) (hm : X.mg x = some (.ref f)) (hk : PySem.W.keepIn X.K (.ref f) = true) (hb : Binds X.K fd ps [])
    (ha : SA X c (e :: es) fs) (hdb : (x == ("__debug__" : Str)) = false := by decide) (he : starEach (e :: es) X.env = (false, eval e X.env) :: starEach es X.env := by rfl) (hpl : (backTo pos (starEach es X.env)).any (·.1) = false := by rfl) :
    SE X c (.Call (.Name x p) (e :: es) [] pos) (eCall0 (dM n nn B) fs) := (pe_call F hr hg hm hk hb .nil pass0 ha hdb he hpl).imp fun σ H Q q => call0_ok dM_len q
theorem se_call1 (F : FnOk X.prog X.w X.K X.mg X.base CX0 k f fd ps (spM X.K X.mg n (dM n nn B))) (hr : Room k X.A) (hg : Gl X x) (hm : X.mg x = some (.ref f)) (hk : PySem.W.keepIn X.K (.ref f) = true) (hb : Binds X.K fd ps [])
    (ha : SA X c (e :: es) fs) (hdb : (x == ("__debug__" : Str)) = false := by decide) (he : starEach (e :: es) X.env = (false, eval e X.env) :: starEach es X.env := by rfl) (hpl : (backTo pos (starEach es X.env)).any (·.1) = false := by rfl) :
    SE X c (.Call (.Name x p) (e :: es) [] pos) (eCall1 (dM n nn B) fs) := (pe_call F hr hg hm hk hb .nil pass0 ha hdb he hpl).imp fun σ H Q q => call1_ok dM_len q
end
section
variable {P : Program} {w : World} {K : PySem.W.Frag} {mg : Str → Option Value} {base : Heap}
/-- a def keeps the promise of its mirror -/
theorem def_ok {x qual : Str} {st : Stmt} {f : Addr} {fd : FuncData} {N ps : List Str} {k : Nat} {B : G → Option O} (F : Fun K x qual st f fd) (S : FnScope N ps (defScope st))
    (body : ∀ (cdv : Value) (A : Around) (outer : List Env) (s : Shared) (H : Hp) (E : XK) (c : C0), Room k (A.deeper (PyProof.Rows.envOfC qual (defScope st) s.heap.objs.size f cdv)) →
      SSs (cxOf CX0 P w K mg base N qual (defScope st) f cdv A outer s H E).nox c (defBody st) B) : FnOk P w K mg base CX0 (k + 1) f fd ps (spM K mg ps.length (dM ps.length N.length B)) :=
  (fn_ok F S body).imp spM_imp
/-- the law's own promise, from its mirror -/
theorem law_sp {n : Nat} {B : G → Option O} {a : Addr} {ns : List Int} {H : Hp} (hS : SqL K H a (ns.map V.int)) (hO : Only H) (h : ∃ g', dM 1 n B [.fz (.sls (ns.map D.int))] = some (.d (.bl true), g')) : spM K mg 1 (dM 1 n B) [.ref a] H (fun v _ => v = .bl true) fun _ _ _ => False := by
  obtain ⟨g', h⟩ := h
  refine ⟨rfl, [], _, _, g', ⟨rfl, fun i d hi => ?_, fun i b l hi => ?_, fun i j b l b' l' p hi => ?_, fun _ z => nomatch z⟩, h, fun v H' ret => fz_bl ret.res⟩
  · cases i with
    | zero =>
      cases hi
      refine ⟨.ref a, rfl, .sls ?_ (fz_ints ns)⟩
      rcases hS with (hS | ⟨o, hS⟩) | hS
      · rcases hO a with z | ⟨o, xs, z⟩
        · rw [hS] at z; cases z
        · rw [hS] at z; cases z
      · exact .inl ⟨(fun z => nomatch z), o, hS⟩
      · exact .inr (.inr hS)
    | succ i => cases hi
  · cases i with
    | zero => cases hi
    | succ i => cases hi
  · cases i with
    | zero => cases hi
    | succ i => cases hi
end
end Sm

namespace Sm
open PySem L2
section
variable {X : Cx} {c : C0} {tg e : Expr} {fe : G → Option (R × G)}
theorem _root_.L2.PI.or {X : Cx} {tg e : Expr} {t t' : TI} (h : PI X tg e t) (h' : PI X tg e t') : PI X tg e (fun σ H Q => t σ H Q ∨ t' σ H Q) := ⟨fun pins s σ H Q I q => q.elim (h.run pins s σ H Q I) (h'.run pins s σ H Q I)⟩
/-- a list, a tuple, a text -/
def iA (fe : G → Option (R × G)) : G → Option (List D × G) := fun g => match fe g with
  | some (.d (.tup l), g') => some (l, g')
  | some (.d (.str s), g') => some (s.cps.toList.map fun x => .str ⟨#[x]⟩, g')
  | _ => iL fe g
theorem si_any (h : SE X c e fe) : SI X c tg e (iA fe) := ((si_list h).or ((si_tup h).or (si_str h))).imp fun σ H Q q => by
  obtain ⟨m, g, l, g', A, e, k⟩ := q
  unfold iA at e
  split at e
  · cases e
    rename_i h
    exact .inr (.inl ⟨m, g, l, g', A, by unfold iT; rw [h]; rfl, k⟩)
  · cases e
    rename_i h
    exact .inr (.inr ⟨m, g, _, g', A, by unfold iS; rw [h]; rfl, k⟩)
  · exact .inl ⟨m, g, l, g', A, e, k⟩
end
/-! ## the law -/
def LawHolds (M : G → Option (R × G)) : Prop := ∀ ns : List Int, ns.length ≤ 63 → ∃ g', M [.fz (.sls (ns.map D.int))] = some (.d (.bl true), g')
/-- the law's own promise -/
def spL (K : PySem.W.Frag) : Sp := fun vs H Q _ => ∃ (a : Addr) (ns : List Int), vs = [.ref a] ∧ ns.length ≤ 63 ∧ Only H ∧ SqL K H a (ns.map V.int) ∧ ∀ H', Q (.bl true) H'
theorem law_imp {K : PySem.W.Frag} {mg : Str → Option Value} {n : Nat} {B : G → Option O} (h : LawHolds (dM 1 n B)) (vs : List V) (H : Hp) (Q : VK) (E : XK) (q : spL K vs H Q E) : spM K mg 1 (dM 1 n B) vs H Q E := by
  obtain ⟨a, ns, rfl, hn, hO, hS, k⟩ := q
  obtain ⟨h1, m, g, r, g', A, e, kq⟩ := law_sp (mg := mg) hS hO (h ns hn)
  exact ⟨h1, m, g, r, g', A, e, fun v H' ret => by rw [kq v H' ret]; exact k H'⟩
theorem _root_.L2.Fun.one {K : PySem.W.Frag} {x qual : Str} {st : Stmt} {f : Addr} {fd : FuncData} (F : Fun K x qual st f fd)
    (h : ∀ (kV doc pm : Value) (an : Option Addr) (cdv ct v : Value), bindArgs (PySem.W.fnOf x qual (defArgs st) (defBody st) (defScope st) .none kV doc pm an cdv ct) ⟨[v], []⟩ = pure [(("script" : Str), v)] := by intros; rfl) (s : Shared) (v : Value) : BindsTo s fd ⟨[v], []⟩ [("script", v)] := by
  obtain ⟨oc, od, kV, doc, pm, an, cdv, ct, osl, rfl, lk, hcd⟩ := F.ex
  exact .of_eq (h kV doc pm an cdv ct v)
theorem walkL {l : PySem.W.OpenLaw} {k : Nat} {q : Program} {loose : List Str} {XP : (Str → Option Value) → Heap → Prop} {YP : World → Heap → Prop} {d : DefRec} {K : Params → PySem.W.Frag} (hn : l.most = some 63) (hdf : d.params.defaults = []) (hk : k < 200)
    (hY : ∀ (w : World) (h : Heap), YP w h → (K w.params).In h)
    (F : ∀ (w : World) (mg : Str → Option Value) (fa : Addr) (h : Heap), (K w.params).In h → h.Ns mainGlobals mg → mg d.name = some (.ref fa) →
      ∃ fd : FuncData, (∀ (s : Shared) (u : Value), BindsTo s fd ⟨[u], []⟩ [("script", u)]) ∧ ∀ base : Heap, (K w.params).In base → base.Ns mainGlobals mg → FnOk l.prog w (K w.params) mg base CX0 k fa fd ["script"] (spL (K w.params))) :
    PySem.W.WalkO q loose XP YP l.row.toRowW d [] (fun f vs => PySem.call f vs) :=
  L2.walk_of (n := 63) (k := k) (x := "script") (CX := fun _ => CX0) (sp := fun w => spL (K w.params)) hn (by decide) hdf
    ⟨rfl, by have : callerA.depth + 3 * 200 + 5 < recursionLimit := (by decide); omega, by have : callerA.units + 16 * 200 + 200 < cLine := (by decide); omega⟩ hY F (fun _ _ a ns hl hO hS => ⟨a, ns, rfl, hl, hO, hS, fun _ => rfl⟩) fun _ _ _ _ _ z => z
end Sm

/-! ## the mirrors, evaluated: each combinator hands its part's value to a named step -/
namespace Sm
open PySem L2
section
variable {g g1 g2 g' : G} {r r1 r2 : R} {d d1 d2 x y : D} {b : Bool} {l l' : List D} {i j n k : Nat} {fa fb fe fo : G → Option (R × G)} {ft fu : G → Option (Bool × G)} {f f' fB : G → Option O} {fs : G → Option (List R × G)} {fi : G → Option (List D × G)} {gf : D → G → Option G} {h h' : D → D → Option R} {rs : List R} {ds : List D}
theorem v_c : eC d g = some (.d d, g) := rfl
def varK (i : Nat) (g : G) : Option Slot → Option (R × G)
  | some (.fz d) => some (.d d, g)
  | some (.ol _ _) => some (.sl i, g)
  | _ => none
theorem v_var : eVar i g = varK i g g[i]? := rfl
theorem varK_fz : varK i g (some (.fz d)) = some (.d d, g) := rfl
theorem varK_ol : varK i g (some (.ol b l)) = some (.sl i, g) := rfl
def binK (h : D → D → Option R) (fb : G → Option (R × G)) : Option (R × G) → Option (R × G)
  | some (r1, g1) => (fb g1).bind fun q => (ld q.2 r1).bind fun x => (ld q.2 q.1).bind fun y => (h x y).bind fun r => some (r, q.2)
  | none => none
def binK2 (h : D → D → Option R) (r1 : R) : Option (R × G) → Option (R × G)
  | some (r2, g2) => (ld g2 r1).bind fun x => (ld g2 r2).bind fun y => (h x y).bind fun r => some (r, g2)
  | none => none
def binK3 (h : D → D → Option R) (g2 : G) : Option D → Option D → Option (R × G)
  | some x, some y => (h x y).bind fun r => some (r, g2)
  | _, _ => none
def valK (g2 : G) : Option R → Option (R × G)
  | some r => some (r, g2)
  | none => none
theorem v_bin : eBin h fa fb g = binK h fb (fa g) := by unfold eBin binK; cases fa g <;> rfl
theorem binK_some : binK h fb (some (r1, g1)) = binK2 h r1 (fb g1) := by unfold binK binK2; dsimp only; cases fb g1 <;> rfl
theorem binK2_some : binK2 h r1 (some (r2, g2)) = binK3 h g2 (ld g2 r1) (ld g2 r2) := by
  unfold binK2 binK3; dsimp only
  cases ld g2 r1 <;> cases ld g2 r2 <;> rfl
theorem binK3_some : binK3 h g2 (some x) (some y) = valK g2 (h x y) := by unfold binK3 valK; dsimp only; cases h x y <;> rfl
theorem valK_some : valK g2 (some r) = some (r, g2) := rfl
def ldK : Option Slot → Option D
  | some (.ol _ l) => some (.lst l)
  | some (.fz d) => some d
  | _ => none
theorem v_ldd : ld g (.d x) = some x := rfl
theorem v_ldn : ld g (.nw l) = some (.lst l) := rfl
theorem v_lds : ld g (.sl i) = ldK g[i]? := by
  unfold ldK; simp only [ld]
  all_goals cases g[i]? with
  | none => rfl
  | some s => cases s <;> rfl
theorem ldK_ol : ldK (some (.ol b l)) = some (.lst l) := rfl
theorem ldK_fz : ldK (some (.fz d)) = some d := rfl
def frzK (g : G) (i : Nat) : Option Slot → Option (D × G)
  | some (.ol false l) => some (.lst l, g.set i (.fz (.lst l)))
  | some (.fz d) => some (d, g)
  | _ => none
theorem v_frzd : frz g (.d x) = some (x, g) := rfl
theorem v_frzn : frz g (.nw l) = some (.lst l, g) := rfl
theorem v_frzs : frz g (.sl i) = frzK g i g[i]? := by
  unfold frzK; simp only [frz]
  all_goals cases g[i]? with
  | none => rfl
  | some s => cases s with
    | ol b l => cases b <;> rfl
    | _ => rfl
theorem frzK_ol : frzK g i (some (.ol false l)) = some (.lst l, g.set i (.fz (.lst l))) := rfl
theorem frzK_fz : frzK g i (some (.fz d)) = some (d, g) := rfl
def frzsK (rs : List R) : Option (D × G) → Option (List D × G)
  | some (d, g) => (frzs g rs).bind fun q => some (d :: q.1, q.2)
  | none => none
def frzsK2 (d : D) : Option (List D × G) → Option (List D × G)
  | some (ds, g) => some (d :: ds, g)
  | none => none
theorem v_frzs0 : frzs g [] = some ([], g) := rfl
theorem v_frzs1 : frzs g (r :: rs) = frzsK rs (frz g r) := by unfold frzs frzsK; cases frz g r <;> rfl
theorem frzsK_some : frzsK rs (some (d, g)) = frzsK2 d (frzs g rs) := by unfold frzsK frzsK2; dsimp only; cases frzs g rs <;> rfl
theorem frzsK2_some : frzsK2 d (some (ds, g)) = some (d :: ds, g) := rfl
def ldsK (g : G) (rs : List R) : Option D → Option (List D)
  | some d => (lds g rs).bind fun ds => some (d :: ds)
  | none => none
def ldsK2 (d : D) : Option (List D) → Option (List D)
  | some ds => some (d :: ds)
  | none => none
theorem v_lds0 : lds g [] = some [] := rfl
theorem v_lds1 : lds g (r :: rs) = ldsK g rs (ld g r) := by unfold lds ldsK; cases ld g r <;> rfl
theorem ldsK_some : ldsK g rs (some d) = ldsK2 d (lds g rs) := by unfold ldsK ldsK2; dsimp only; cases lds g rs <;> rfl
theorem ldsK2_some : ldsK2 d (some ds) = some (d :: ds) := rfl
/-! arguments, displays -/
theorem v_anil : aNil g = some ([], g) := rfl
def aConsK (fs : G → Option (List R × G)) : Option (R × G) → Option (List R × G)
  | some (r, g) => (fs g).bind fun q => some (r :: q.1, q.2)
  | none => none
def aConsK2 (r : R) : Option (List R × G) → Option (List R × G)
  | some (rs, g) => some (r :: rs, g)
  | none => none
theorem v_acons : aCons fe fs g = aConsK fs (fe g) := by unfold aCons aConsK; cases fe g <;> rfl
theorem aConsK_some : aConsK fs (some (r, g)) = aConsK2 r (fs g) := by unfold aConsK aConsK2; dsimp only; cases fs g <;> rfl
theorem aConsK2_some : aConsK2 r (some (rs, g)) = some (r :: rs, g) := rfl
def tupK : Option (List R × G) → Option (R × G)
  | some (rs, g) => (frzs g rs).bind fun q => if q.1.length ≤ 1000 then some (.d (.tup q.1), q.2) else none
  | none => none
def tupK2 : Option (List D × G) → Option (R × G)
  | some (ds, g) => if ds.length ≤ 1000 then some (.d (.tup ds), g) else none
  | none => none
def lstK : Option (List R × G) → Option (R × G)
  | some (rs, g) => (frzs g rs).bind fun q => if q.1.length ≤ 1000 then some (.nw q.1, q.2) else none
  | none => none
def lstK2 : Option (List D × G) → Option (R × G)
  | some (ds, g) => if ds.length ≤ 1000 then some (.nw ds, g) else none
  | none => none
theorem v_tup : eTup fs g = tupK (fs g) := by unfold eTup tupK; cases fs g <;> rfl
theorem tupK_some : tupK (some (rs, g)) = tupK2 (frzs g rs) := by unfold tupK tupK2; dsimp only; cases frzs g rs <;> rfl
theorem tupK2_some : tupK2 (some (ds, g)) = if ds.length ≤ 1000 then some (.d (.tup ds), g) else none := (rfl)
theorem v_lst : eLst fs g = lstK (fs g) := by unfold eLst lstK; cases fs g <;> rfl
theorem lstK_some : lstK (some (rs, g)) = lstK2 (frzs g rs) := by unfold lstK lstK2; dsimp only; cases frzs g rs <;> rfl
theorem lstK2_some : lstK2 (some (ds, g)) = if ds.length ≤ 1000 then some (.nw ds, g) else none := (rfl)
/-! one operand, choices -/
def negK : Option (R × G) → Option (R × G)
  | some (.d (.int i), g) => some (.d (.int (-i)), g)
  | _ => none
theorem v_neg : eNeg fa g = negK (fa g) := by
  unfold eNeg negK
  cases fa g with
  | none => rfl
  | some p =>
    obtain ⟨r, g⟩ := p
    cases r with
    | d x => cases x <;> rfl
    | _ => rfl
theorem negK_some {i : Int} : negK (some (.d (.int i), g)) = some (.d (.int (-i)), g) := rfl
def ifK (fa fb : G → Option (R × G)) : Option (Bool × G) → Option (R × G)
  | some (true, g) => fa g
  | some (false, g) => fb g
  | none => none
theorem v_if : eIf ft fa fb g = ifK fa fb (ft g) := by
  unfold eIf ifK
  cases ft g with
  | none => rfl
  | some p => obtain ⟨b, g⟩ := p; cases b <;> rfl
theorem ifK_t : ifK fa fb (some (true, g)) = fa g := rfl
theorem ifK_f : ifK fa fb (some (false, g)) = fb g := rfl
def tstK : Option (R × G) → Option (Bool × G)
  | some (.d (.bl b), g) => some (b, g)
  | _ => none
theorem v_tst : tst fa g = tstK (fa g) := by
  unfold tst tstK
  cases fa g with
  | none => rfl
  | some p =>
    obtain ⟨r, g⟩ := p
    cases r with
    | d x => cases x <;> rfl
    | _ => rfl
theorem tstK_some : tstK (some (.d (.bl b), g)) = some (b, g) := rfl
def andK (fu : G → Option (Bool × G)) : Option (Bool × G) → Option (Bool × G)
  | some (true, g) => fu g
  | some (false, g) => some (false, g)
  | none => none
def orK (fu : G → Option (Bool × G)) : Option (Bool × G) → Option (Bool × G)
  | some (true, g) => some (true, g)
  | some (false, g) => fu g
  | none => none
def notK : Option (Bool × G) → Option (Bool × G)
  | some (b, g) => some (!b, g)
  | none => none
theorem v_band : bAnd ft fu g = andK fu (ft g) := by
  unfold bAnd andK
  cases ft g with
  | none => rfl
  | some p => obtain ⟨b, g⟩ := p; cases b <;> rfl
theorem v_bor : bOr ft fu g = orK fu (ft g) := by
  unfold bOr orK
  cases ft g with
  | none => rfl
  | some p => obtain ⟨b, g⟩ := p; cases b <;> rfl
theorem v_bnot : bNot ft g = notK (ft g) := by unfold bNot notK; cases ft g <;> rfl
theorem andK_t : andK fu (some (true, g)) = fu g := rfl
theorem andK_f : andK fu (some (false, g)) = some (false, g) := rfl
theorem orK_t : orK fu (some (true, g)) = some (true, g) := rfl
theorem orK_f : orK fu (some (false, g)) = fu g := rfl
theorem notK_some : notK (some (b, g)) = some (!b, g) := rfl
def andVK (fb : G → Option (R × G)) : Option (Bool × G) → Option (R × G)
  | some (true, g) => fb g
  | some (false, g) => some (.d (.bl false), g)
  | none => none
def orVK (fb : G → Option (R × G)) : Option (Bool × G) → Option (R × G)
  | some (true, g) => some (.d (.bl true), g)
  | some (false, g) => fb g
  | none => none
def notVK : Option (Bool × G) → Option (R × G)
  | some (b, g) => some (.d (.bl !b), g)
  | none => none
theorem v_and : eAnd fa fb g = andVK fb (tst fa g) := by
  unfold eAnd andVK
  cases tst fa g with
  | none => rfl
  | some p => obtain ⟨b, g⟩ := p; cases b <;> rfl
theorem v_or : eOr fa fb g = orVK fb (tst fa g) := by
  unfold eOr orVK
  cases tst fa g with
  | none => rfl
  | some p => obtain ⟨b, g⟩ := p; cases b <;> rfl
theorem v_not : eNot fa g = notVK (tst fa g) := by unfold eNot notVK; cases tst fa g <;> rfl
theorem andVK_t : andVK fb (some (true, g)) = fb g := rfl
theorem andVK_f : andVK fb (some (false, g)) = some (.d (.bl false), g) := rfl
theorem orVK_t : orVK fb (some (true, g)) = some (.d (.bl true), g) := rfl
theorem orVK_f : orVK fb (some (false, g)) = fb g := rfl
theorem notVK_some : notVK (some (b, g)) = some (.d (.bl !b), g) := rfl
/-! chains -/
def chK1 (h h' : D → D → Option R) (fb fe : G → Option (R × G)) : Option (R × G) → Option (R × G)
  | some (r1, g1) => (fb g1).bind fun q => (ld q.2 r1).bind fun x => (ld q.2 q.1).bind fun y => (h x y).bind fun r => match r with
    | .d (.bl true) => (fe q.2).bind fun s => (ld s.2 q.1).bind fun y' => (ld s.2 s.1).bind fun z => (h' y' z).bind fun r => some (r, s.2)
    | .d (.bl false) => some (.d (.bl false), q.2)
    | _ => none
  | none => none
def chK2 (h h' : D → D → Option R) (fe : G → Option (R × G)) (r1 : R) : Option (R × G) → Option (R × G)
  | some (r2, g2) => (ld g2 r1).bind fun x => (ld g2 r2).bind fun y => (h x y).bind fun r => match r with
    | .d (.bl true) => (fe g2).bind fun s => (ld s.2 r2).bind fun y' => (ld s.2 s.1).bind fun z => (h' y' z).bind fun r => some (r, s.2)
    | .d (.bl false) => some (.d (.bl false), g2)
    | _ => none
  | none => none
def chK3 (h h' : D → D → Option R) (fe : G → Option (R × G)) (r2 : R) (g2 : G) : Option D → Option D → Option (R × G)
  | some x, some y => (h x y).bind fun r => match r with
    | .d (.bl true) => (fe g2).bind fun s => (ld s.2 r2).bind fun y' => (ld s.2 s.1).bind fun z => (h' y' z).bind fun r => some (r, s.2)
    | .d (.bl false) => some (.d (.bl false), g2)
    | _ => none
  | _, _ => none
def chK4 (h' : D → D → Option R) (fe : G → Option (R × G)) (r2 : R) (g2 : G) : Option R → Option (R × G)
  | some (.d (.bl true)) => binK2 h' r2 (fe g2)
  | some (.d (.bl false)) => some (.d (.bl false), g2)
  | _ => none
theorem v_chain : eChain h h' fa fb fe g = chK1 h h' fb fe (fa g) := by unfold eChain chK1; cases fa g <;> rfl
theorem chK1_some : chK1 h h' fb fe (some (r1, g1)) = chK2 h h' fe r1 (fb g1) := by unfold chK1 chK2; dsimp only; cases fb g1 <;> rfl
theorem chK2_some : chK2 h h' fe r1 (some (r2, g2)) = chK3 h h' fe r2 g2 (ld g2 r1) (ld g2 r2) := by
  unfold chK2 chK3; dsimp only
  cases ld g2 r1 <;> cases ld g2 r2 <;> rfl
theorem chK3_some : chK3 h h' fe r2 g2 (some x) (some y) = chK4 h' fe r2 g2 (h x y) := by
  unfold chK3 chK4 binK2; dsimp only
  cases h x y with
  | none => rfl
  | some r =>
    cases r with
    | d z =>
      cases z with
      | bl b =>
        cases b with
        | true => cases fe g2 <;> rfl
        | false => rfl
      | _ => rfl
    | _ => rfl
theorem chK4_t : chK4 h' fe r2 g2 (some (.d (.bl true))) = binK2 h' r2 (fe g2) := rfl
theorem chK4_f : chK4 h' fe r2 g2 (some (.d (.bl false))) = some (.d (.bl false), g2) := rfl
/-! slices, calls of built-ins, methods -/
def partK : Option (R × G) → Option (Option Int × G)
  | some (.d (.int i), g) => some (some i, g)
  | _ => none
theorem v_onone : oNone g = some (none, g) := rfl
theorem v_osome : oSome fe g = partK (fe g) := by
  unfold oSome partK
  cases fe g with
  | none => rfl
  | some p =>
    obtain ⟨r, g⟩ := p
    cases r with
    | d x => cases x <;> rfl
    | _ => rfl
theorem partK_some {i : Int} : partK (some (.d (.int i), g)) = some (some i, g) := rfl
variable {fl fh : G → Option (Option Int × G)} {o o' : Option Int}
def slK1 (fl fh : G → Option (Option Int × G)) : Option (R × G) → Option (R × G)
  | some (r, g) => (fl g).bind fun q => (fh q.2).bind fun s => (ld s.2 r).bind fun x => (slD x q.1 s.1).bind fun r => some (r, s.2)
  | none => none
def slK2 (fh : G → Option (Option Int × G)) (r : R) : Option (Option Int × G) → Option (R × G)
  | some (o, g) => (fh g).bind fun s => (ld s.2 r).bind fun x => (slD x o s.1).bind fun r => some (r, s.2)
  | none => none
def slK3 (r : R) (o : Option Int) : Option (Option Int × G) → Option (R × G)
  | some (o', g) => (ld g r).bind fun x => (slD x o o').bind fun r => some (r, g)
  | none => none
def slK4 (o o' : Option Int) (g : G) : Option D → Option (R × G)
  | some x => (slD x o o').bind fun r => some (r, g)
  | none => none
theorem v_sl : eSl fa fl fh g = slK1 fl fh (fa g) := by unfold eSl slK1; cases fa g <;> rfl
theorem slK1_some : slK1 fl fh (some (r, g)) = slK2 fh r (fl g) := by unfold slK1 slK2; dsimp only; cases fl g <;> rfl
theorem slK2_some : slK2 fh r (some (o, g)) = slK3 r o (fh g) := by unfold slK2 slK3; dsimp only; cases fh g <;> rfl
theorem slK3_some : slK3 r o (some (o', g)) = slK4 o o' g (ld g r) := by unfold slK3 slK4; dsimp only; cases ld g r <;> rfl
theorem slK4_some : slK4 o o' g (some x) = valK g (slD x o o') := by unfold slK4 valK; dsimp only; cases slD x o o' <;> rfl
theorem v_slL : slD (.lst l) o o' = some (.nw (cutD l o o')) := rfl
theorem v_slS : slD (.sls l) o o' = some (.nw (cutD l o o')) := rfl
theorem v_slT : slD (.tup l) o o' = some (.d (.tup (cutD l o o'))) := rfl
theorem v_slStr {s : Str} : slD (.str s) o o' = if s.length ≤ sizeLine then some (.d (.str (cutS s o o'))) else none := (rfl)
def revK : Option (R × G) → Option (R × G)
  | some (r, g) => match ld g r with
    | some (.lst l) => some (.nw l.reverse, g)
    | some (.sls l) => some (.nw l.reverse, g)
    | _ => none
  | none => none
def revK2 (g : G) : Option D → Option (R × G)
  | some (.lst l) => some (.nw l.reverse, g)
  | some (.sls l) => some (.nw l.reverse, g)
  | _ => none
theorem v_rev : eRev fa g = revK (fa g) := by unfold eRev revK; cases fa g <;> rfl
theorem revK_some : revK (some (r, g)) = revK2 g (ld g r) := rfl
theorem revK2_l : revK2 g (some (.lst l)) = some (.nw l.reverse, g) := rfl
variable {hb : List D → Option R} {hm : Str → D → Option R} {F : G → Option (R × G)} {s t : Str}
def cbK (hb : List D → Option R) : Option (List R × G) → Option (R × G)
  | some (rs, g) => (lds g rs).bind fun ds => (hb ds).bind fun r => some (r, g)
  | none => none
def cbK2 (hb : List D → Option R) (g : G) : Option (List D) → Option (R × G)
  | some ds => (hb ds).bind fun r => some (r, g)
  | none => none
theorem v_cb : eCB hb fs g = cbK hb (fs g) := by unfold eCB cbK; cases fs g <;> rfl
theorem cbK_some : cbK hb (some (rs, g)) = cbK2 hb g (lds g rs) := by unfold cbK cbK2; dsimp only; cases lds g rs <;> rfl
theorem cbK2_some : cbK2 hb g (some ds) = valK g (hb ds) := by unfold cbK2 valK; dsimp only; cases hb ds <;> rfl
def m1K (hm : Str → D → Option R) (fe : G → Option (R × G)) : Option (R × G) → Option (R × G)
  | some (.d (.str s), g) => (fe g).bind fun q => (ld q.2 q.1).bind fun y => (hm s y).bind fun r => some (r, q.2)
  | _ => none
def m1K2 (hm : Str → D → Option R) (s : Str) : Option (R × G) → Option (R × G)
  | some (r, g) => (ld g r).bind fun y => (hm s y).bind fun r => some (r, g)
  | none => none
def m1K3 (hm : Str → D → Option R) (s : Str) (g : G) : Option D → Option (R × G)
  | some y => (hm s y).bind fun r => some (r, g)
  | none => none
theorem v_m1 : eM1 hm fo fe g = m1K hm fe (fo g) := by
  unfold eM1 m1K
  cases fo g with
  | none => rfl
  | some p =>
    obtain ⟨r, g⟩ := p
    cases r with
    | d x => cases x <;> rfl
    | _ => rfl
theorem m1K_some : m1K hm fe (some (.d (.str s), g)) = m1K2 hm s (fe g) := by unfold m1K m1K2; dsimp only; cases fe g <;> rfl
theorem m1K2_some : m1K2 hm s (some (r, g)) = m1K3 hm s g (ld g r) := by unfold m1K2 m1K3; dsimp only; cases ld g r <;> rfl
theorem m1K3_some : m1K3 hm s g (some y) = valK g (hm s y) := by unfold m1K3 valK; dsimp only; cases hm s y <;> rfl
/-! lists of a slot -/
def appK (i : Nat) (fe : G → Option (R × G)) (g : G) : Option Slot → Option (R × G)
  | some (.ol _ _) => (fe g).bind fun p => (frz p.2 p.1).bind fun q => match q.2[i]? with
    | some (.ol b l) => if l.length ≤ 100000 then some (.d .non, q.2.set i (.ol b (l ++ [q.1]))) else none
    | _ => none
  | _ => none
def appK2 (i : Nat) : Option (R × G) → Option (R × G)
  | some (r, g) => (frz g r).bind fun q => match q.2[i]? with
    | some (.ol b l) => if l.length ≤ 100000 then some (.d .non, q.2.set i (.ol b (l ++ [q.1]))) else none
    | _ => none
  | none => none
def appK3 (i : Nat) : Option (D × G) → Option (R × G)
  | some (d, g) => match g[i]? with
    | some (.ol b l) => if l.length ≤ 100000 then some (.d .non, g.set i (.ol b (l ++ [d]))) else none
    | _ => none
  | none => none
def appK4 (i : Nat) (d : D) (g : G) : Option Slot → Option (R × G)
  | some (.ol b l) => if l.length ≤ 100000 then some (.d .non, g.set i (.ol b (l ++ [d]))) else none
  | _ => none
theorem v_app : eApp i fe g = appK i fe g g[i]? := by
  unfold eApp appK
  cases g[i]? with
  | none => rfl
  | some s => cases s <;> rfl
theorem appK_ol : appK i fe g (some (.ol b l)) = appK2 i (fe g) := by unfold appK appK2; dsimp only; cases fe g <;> rfl
theorem appK2_some : appK2 i (some (r, g)) = appK3 i (frz g r) := by unfold appK2 appK3; dsimp only; cases frz g r <;> rfl
theorem appK3_some : appK3 i (some (d, g)) = appK4 i d g g[i]? := rfl
theorem appK4_ol : appK4 i d g (some (.ol b l)) = if l.length ≤ 100000 then some (.d .non, g.set i (.ol b (l ++ [d]))) else none := (rfl)
def popK (i : Nat) (g : G) : Option Slot → Option (R × G)
  | some (.ol b l) => match l[l.length - 1]? with
    | some d => some (.d d, g.set i (.ol b l.dropLast))
    | none => none
  | _ => none
theorem v_pop : ePop i g = popK i g g[i]? := by
  unfold ePop popK
  cases g[i]? with
  | none => rfl
  | some s => cases s <;> rfl
theorem popK_ol {d : D} : popK i g (some (.ol b (l ++ [d]))) = some (.d d, g.set i (.ol b l)) := by
  unfold popK
  dsimp only
  have h : (l ++ [d])[(l ++ [d]).length - 1]? = some d := by simp
  rw [h]
  simp
def popAtK (i : Nat) (fe : G → Option (R × G)) (g : G) : Option Slot → Option (R × G)
  | some (.ol _ _) => (fe g).bind fun p => match p.1, p.2[i]? with
    | .d (.int n), some (.ol b l) => if 0 ≤ n ∧ n < 100000 then match l[n.toNat]? with
      | some d => some (.d d, p.2.set i (.ol b (l.eraseIdx n.toNat)))
      | none => none else none
    | _, _ => none
  | _ => none
def popAtK2 (i : Nat) : Option (R × G) → Option (R × G)
  | some (r, g) => match r, g[i]? with
    | .d (.int n), some (.ol b l) => if 0 ≤ n ∧ n < 100000 then match l[n.toNat]? with
      | some d => some (.d d, g.set i (.ol b (l.eraseIdx n.toNat)))
      | none => none else none
    | _, _ => none
  | none => none
def popAtK3 (i : Nat) (g : G) (n : Int) : Option Slot → Option (R × G)
  | some (.ol b l) => if 0 ≤ n ∧ n < 100000 then match l[n.toNat]? with
      | some d => some (.d d, g.set i (.ol b (l.eraseIdx n.toNat)))
      | none => none else none
  | _ => none
theorem v_popAt : ePopAt i fe g = popAtK i fe g g[i]? := by
  unfold ePopAt popAtK
  cases g[i]? with
  | none => rfl
  | some s => cases s <;> rfl
theorem popAtK_ol : popAtK i fe g (some (.ol b l)) = popAtK2 i (fe g) := by unfold popAtK popAtK2; dsimp only; cases fe g <;> rfl
theorem popAtK2_some {n : Int} : popAtK2 i (some (.d (.int n), g)) = popAtK3 i g n g[i]? := by
  unfold popAtK2 popAtK3; dsimp only
  cases g[i]? with
  | none => rfl
  | some s => cases s <;> rfl
theorem popAtK3_ol {n : Int} (h : 0 ≤ n ∧ n < 100000) (hd : l[n.toNat]? = some d) : popAtK3 i g n (some (.ol b l)) = some (.d d, g.set i (.ol b (l.eraseIdx n.toNat))) := by
  unfold popAtK3
  dsimp only
  rw [if_pos h, hd]
/-! calls of defs -/
def c0K (F : G → Option (R × G)) : Option (List R × G) → Option (R × G)
  | some (rs, g) => (lds g rs).bind fun ds => (F (ds.map .fz)).bind fun q => (if noRs q.1 = true then some g else meltAll g (lent rs)).bind fun g1 => some (q.1, g1)
  | none => none
def c0K2 (F : G → Option (R × G)) (rs : List R) (g : G) : Option (List D) → Option (R × G)
  | some ds => (F (ds.map .fz)).bind fun q => (if noRs q.1 = true then some g else meltAll g (lent rs)).bind fun g1 => some (q.1, g1)
  | none => none
def c0K3 (rs : List R) (g : G) : Option (R × G) → Option (R × G)
  | some (r, _) => (if noRs r = true then some g else meltAll g (lent rs)).bind fun g1 => some (r, g1)
  | none => none
def c0K4 (r : R) : Option G → Option (R × G)
  | some g => some (r, g)
  | none => none
theorem v_c0 : eCall0 F fs g = c0K F (fs g) := by unfold eCall0 c0K; cases fs g <;> rfl
theorem c0K_some : c0K F (some (rs, g)) = c0K2 F rs g (lds g rs) := by unfold c0K c0K2; dsimp only; cases lds g rs <;> rfl
theorem c0K2_some : c0K2 F rs g (some ds) = c0K3 rs g (F (ds.map .fz)) := by unfold c0K2 c0K3; dsimp only; cases F (ds.map .fz) <;> rfl
theorem c0K3_some : c0K3 rs g (some (r, g')) = c0K4 r (if noRs r = true then some g else meltAll g (lent rs)) := by unfold c0K3 c0K4; dsimp only; cases (if noRs r = true then some g else meltAll g (lent rs)) <;> rfl
theorem c0K4_some : c0K4 r (some g) = some (r, g) := rfl
theorem melt0 : meltAll g [] = some g := rfl
def meltK (i : Nat) : Option G → Option G
  | some g => match g[i]? with
    | some (.ol false l) => some (g.set i (.fz (.lst l)))
    | some (.ol true _) => none
    | _ => some g
  | none => none
def meltK2 (i : Nat) (g : G) : Option Slot → Option G
  | some (.ol false l) => some (g.set i (.fz (.lst l)))
  | some (.ol true _) => none
  | _ => some g
theorem melt1 {is : List Nat} : meltAll g (i :: is) = meltK i (meltAll g is) := by rw [meltAll]; unfold meltK; cases meltAll g is <;> rfl
theorem meltK_some : meltK i (some g) = meltK2 i g g[i]? := rfl
theorem meltK2_ol : meltK2 i g (some (.ol false l)) = some (g.set i (.fz (.lst l))) := rfl
theorem meltK2_fz : meltK2 i g (some (.fz d)) = some g := rfl
def c1K (F : G → Option (R × G)) : Option (List R × G) → Option (R × G)
  | some (.sl i :: rs, g) => if i ∈ lent rs then none else match g[i]? with
    | some (.ol b l) => (lds g rs).bind fun ds => (F (.ol true l :: ds.map .fz)).bind fun q => match List.head? q.2 with
      | some (.ol true l') => (if noRs q.1 = true ∧ noLs l' = true then some g else meltAll g (lent rs)).bind fun g1 => some (q.1, g1.set i (.ol b l'))
      | _ => none
    | _ => none
  | _ => none
def c1K2 (F : G → Option (R × G)) (i : Nat) (rs : List R) (g : G) : Option Slot → Option (R × G)
  | some (.ol b l) => (lds g rs).bind fun ds => (F (.ol true l :: ds.map .fz)).bind fun q => match List.head? q.2 with
      | some (.ol true l') => (if noRs q.1 = true ∧ noLs l' = true then some g else meltAll g (lent rs)).bind fun g1 => some (q.1, g1.set i (.ol b l'))
      | _ => none
  | _ => none
def c1K3 (F : G → Option (R × G)) (i : Nat) (rs : List R) (g : G) (b : Bool) (l : List D) : Option (List D) → Option (R × G)
  | some ds => (F (.ol true l :: ds.map .fz)).bind fun q => match List.head? q.2 with
      | some (.ol true l') => (if noRs q.1 = true ∧ noLs l' = true then some g else meltAll g (lent rs)).bind fun g1 => some (q.1, g1.set i (.ol b l'))
      | _ => none
  | none => none
def c1K4 (i : Nat) (rs : List R) (g : G) (b : Bool) : Option (R × G) → Option (R × G)
  | some (r, .ol true l' :: _) => (if noRs r = true ∧ noLs l' = true then some g else meltAll g (lent rs)).bind fun g1 => some (r, g1.set i (.ol b l'))
  | _ => none
def c1K5 (r : R) (i : Nat) (b : Bool) (l' : List D) : Option G → Option (R × G)
  | some g1 => some (r, g1.set i (.ol b l'))
  | none => none
theorem v_c1 : eCall1 F fs g = c1K F (fs g) := by
  unfold eCall1 c1K
  cases fs g with
  | none => rfl
  | some p =>
    obtain ⟨rs, g⟩ := p
    cases rs with
    | nil => rfl
    | cons r rs => cases r <;> rfl
theorem c1K_some (hi : i ∉ lent rs) : c1K F (some (.sl i :: rs, g)) = c1K2 F i rs g g[i]? := by
  unfold c1K c1K2
  exact if_neg hi
theorem c1K2_ol : c1K2 F i rs g (some (.ol b l)) = c1K3 F i rs g b l (lds g rs) := by unfold c1K2 c1K3; dsimp only; cases lds g rs <;> rfl
theorem c1K3_some : c1K3 F i rs g b l (some ds) = c1K4 i rs g b (F (.ol true l :: ds.map .fz)) := by
  unfold c1K3 c1K4; dsimp only
  cases F (.ol true l :: ds.map .fz) with
  | none => rfl
  | some p =>
    obtain ⟨r, gc⟩ := p
    cases gc with
    | nil => rfl
    | cons s gc => cases s with
      | ol b l => cases b <;> rfl
      | _ => rfl
theorem c1K4_some : c1K4 i rs g b (some (r, .ol true l' :: g')) = c1K5 r i b l' (if noRs r = true ∧ noLs l' = true then some g else meltAll g (lent rs)) := by
  unfold c1K4 c1K5; dsimp only
  cases (if noRs r = true ∧ noLs l' = true then some g else meltAll g (lent rs)) <;> rfl
theorem c1K5_some : c1K5 r i b l' (some g) = some (r, g.set i (.ol b l')) := rfl
/-! statements -/
def seqK (f' : G → Option O) : Option O → Option O
  | some (.nx g) => f' g
  | some o => some o
  | none => none
theorem v_seq : sSeq f f' g = seqK f' (f g) := by
  unfold sSeq seqK
  cases f g with
  | none => rfl
  | some o => cases o <;> rfl
theorem seqK_nx : seqK f' (some (.nx g)) = f' g := rfl
theorem seqK_rt : seqK f' (some (.rt r g)) = some (.rt r g) := rfl
theorem seqK_ct : seqK f' (some (.ct g)) = some (.ct g) := rfl
theorem v_next : sNext g = some (.nx g) := rfl
theorem v_cont : sCont g = some (.ct g) := rfl
def exprK : Option (R × G) → Option O
  | some (_, g) => some (.nx g)
  | none => none
theorem v_expr : sExpr fe g = exprK (fe g) := by unfold sExpr exprK; cases fe g <;> rfl
theorem exprK_some : exprK (some (r, g)) = some (.nx g) := rfl
def retK : Option (R × G) → Option O
  | some (r, g) => some (.rt r g)
  | none => none
theorem v_ret : sRet fe g = retK (fe g) := by unfold sRet retK; cases fe g <;> rfl
theorem retK_some : retK (some (r, g)) = some (.rt r g) := rfl
theorem v_retN : sRetN g = some (.rt (.d .non) g) := rfl
def asgK (i : Nat) : Option (R × G) → Option O
  | some (r, g) => (stS i r g).bind fun g' => some (.nx g')
  | none => none
def nxK : Option G → Option O
  | some g => some (.nx g)
  | none => none
theorem v_asg : sAsg i fe g = asgK i (fe g) := by unfold sAsg asgK; cases fe g <;> rfl
theorem asgK_some : asgK i (some (r, g)) = nxK (stS i r g) := by unfold asgK nxK; dsimp only; cases stS i r g <;> rfl
theorem nxK_some : nxK (some g) = some (.nx g) := rfl
theorem v_stN : stS i (.nw l) g = if notT g i = true then some (g.set i (.ol false l)) else none := (rfl)
def stK (i : Nat) : Option (D × G) → Option G
  | some (d, g) => if notT g i = true then some (g.set i (.fz d)) else none
  | none => none
theorem v_stD : stS i (.d x) g = if notT g i = true then some (g.set i (.fz x)) else none := (rfl)
theorem v_stS : stS i (.sl j) g = stK i (frz g (.sl j)) := by unfold stK; simp only [stS]; cases frz g (.sl j) <;> rfl
theorem stK_some : stK i (some (d, g)) = if notT g i = true then some (g.set i (.fz d)) else none := (rfl)
def notTK : Option Slot → Bool
  | some (.ol true _) => false
  | some _ => true
  | none => false
theorem v_notT : notT g i = notTK g[i]? := rfl
theorem notTK_fz : notTK (some (.fz d)) = true := rfl
theorem notTK_un : notTK (some .un) = true := rfl
theorem notTK_ol : notTK (some (.ol false l)) = true := rfl
def sifK (f f' : G → Option O) : Option (Bool × G) → Option O
  | some (true, g) => f g
  | some (false, g) => f' g
  | none => none
theorem v_sif : sIf ft f f' g = sifK f f' (ft g) := by
  unfold sIf sifK
  cases ft g with
  | none => rfl
  | some p => obtain ⟨b, g⟩ := p; cases b <;> rfl
theorem sifK_t : sifK f f' (some (true, g)) = f g := rfl
theorem sifK_f : sifK f f' (some (false, g)) = f' g := rfl
def asgTK (gf : D → G → Option G) : Option (R × G) → Option O
  | some (r, g) => (frz g r).bind fun q => (gf q.1 q.2).bind fun g' => some (.nx g')
  | none => none
def asgTK2 (gf : D → G → Option G) : Option (D × G) → Option O
  | some (d, g) => (gf d g).bind fun g' => some (.nx g')
  | none => none
theorem v_asgT : sAsgT gf fe g = asgTK gf (fe g) := by unfold sAsgT asgTK; cases fe g <;> rfl
theorem asgTK_some : asgTK gf (some (r, g)) = asgTK2 gf (frz g r) := by unfold asgTK asgTK2; dsimp only; cases frz g r <;> rfl
theorem asgTK2_some : asgTK2 gf (some (d, g)) = nxK (gf d g) := by unfold asgTK2 nxK; dsimp only; cases gf d g <;> rfl
theorem v_gN : gN i d g = if notT g i = true then some (g.set i (.fz d)) else none := (rfl)
variable {gs : List D → G → Option G}
theorem v_gT : gT n gs (.tup ds) g = if ds.length = n then gs ds g else none := (rfl)
theorem v_gNil : gNil' [] g = some g := rfl
def gConsK (gs : List D → G → Option G) (ds : List D) : Option G → Option G
  | some g => gs ds g
  | none => none
theorem v_gCons : gCons' gf gs (d :: ds) g = gConsK gs ds (gf d g) := by simp only [gCons']; unfold gConsK; cases gf d g <;> rfl
theorem gConsK_some : gConsK gs ds (some g) = gs ds g := rfl
def parK (i j : Nat) : Option (List R × G) → Option O
  | some ([r1, r2], g) => (frz g r1).bind fun q1 => (frz q1.2 r2).bind fun q2 => if notT q2.2 i = true ∧ notT q2.2 j = true then some (.nx ((q2.2.set i (.fz q1.1)).set j (.fz q2.1))) else none
  | _ => none
def parK2 (i j : Nat) : Option (List D × G) → Option O
  | some ([d1, d2], g) => if notT g i = true ∧ notT g j = true then some (.nx ((g.set i (.fz d1)).set j (.fz d2))) else none
  | _ => none
theorem v_par : sPar i j fs g = parK i j (fs g) := by
  unfold sPar parK
  cases fs g with
  | none => rfl
  | some p =>
    obtain ⟨rs, g⟩ := p
    match rs with
    | [] => rfl
    | [_] => rfl
    | [_, _] => rfl
    | _ :: _ :: _ :: _ => rfl
theorem parK_some : parK i j (some ([r1, r2], g)) = parK2 i j (frzs g [r1, r2]) := by
  unfold parK parK2
  simp only [frzs]
  cases frz g r1 with
  | none => rfl
  | some p =>
    obtain ⟨d1, g1⟩ := p
    simp only [Option.bind_some]
    cases frz g1 r2 with
    | none => rfl
    | some q => obtain ⟨d2, g2⟩ := q; rfl
theorem parK2_some : parK2 i j (some ([d1, d2], g)) = if notT g i = true ∧ notT g j = true then some (.nx ((g.set i (.fz d1)).set j (.fz d2))) else none := (rfl)
def augK (h : D → D → Option R) (fe : G → Option (R × G)) (i : Nat) (g : G) : Option Slot → Option O
  | some (.fz (.int n)) => (fe g).bind fun p => (ld p.2 p.1).bind fun d => match h (.int n) d with
    | some (.d x) => if notT p.2 i = true then some (.nx (p.2.set i (.fz x))) else none
    | _ => none
  | _ => none
def augK2 (h : D → D → Option R) (i : Nat) (n : Int) : Option (R × G) → Option O
  | some (r, g) => (ld g r).bind fun d => match h (.int n) d with
    | some (.d x) => if notT g i = true then some (.nx (g.set i (.fz x))) else none
    | _ => none
  | none => none
def augK3 (h : D → D → Option R) (i : Nat) (n : Int) (g : G) : Option D → Option O
  | some d => match h (.int n) d with
    | some (.d x) => if notT g i = true then some (.nx (g.set i (.fz x))) else none
    | _ => none
  | none => none
def augK4 (i : Nat) (g : G) : Option R → Option O
  | some (.d x) => if notT g i = true then some (.nx (g.set i (.fz x))) else none
  | _ => none
theorem v_aug : sAug i h fe g = augK h fe i g g[i]? := by
  unfold sAug augK
  cases g[i]? with
  | none => rfl
  | some s => cases s with
    | fz d => cases d <;> rfl
    | _ => rfl
theorem augK_fz {n : Int} : augK h fe i g (some (.fz (.int n))) = augK2 h i n (fe g) := by unfold augK augK2; dsimp only; cases fe g <;> rfl
theorem augK2_some {n : Int} : augK2 h i n (some (r, g)) = augK3 h i n g (ld g r) := by unfold augK2 augK3; dsimp only; cases ld g r <;> rfl
theorem augK3_some {n : Int} : augK3 h i n g (some d) = augK4 i g (h (.int n) d) := rfl
theorem augK4_some : augK4 i g (some (.d x)) = if notT g i = true then some (.nx (g.set i (.fz x))) else none := (rfl)
variable {fx : G → Option (R × G)}
def sixK (i : Nat) (fx : G → Option (R × G)) : Option (R × G) → Option O
  | some (r, g) => (frz g r).bind fun q => match q.2[i]? with
    | some (.ol _ _) => (fx q.2).bind fun s => match s.1, s.2[i]? with
      | .d (.int n), some (.ol b l) => match ixN l.length n with
        | some j => some (.nx (s.2.set i (.ol b (l.set j q.1))))
        | none => none
      | _, _ => none
    | _ => none
  | none => none
def sixK2 (i : Nat) (fx : G → Option (R × G)) : Option (D × G) → Option O
  | some (d, g) => match g[i]? with
    | some (.ol _ _) => (fx g).bind fun s => match s.1, s.2[i]? with
      | .d (.int n), some (.ol b l) => match ixN l.length n with
        | some j => some (.nx (s.2.set i (.ol b (l.set j d))))
        | none => none
      | _, _ => none
    | _ => none
  | none => none
def sixK3 (i : Nat) (fx : G → Option (R × G)) (d : D) (g : G) : Option Slot → Option O
  | some (.ol _ _) => (fx g).bind fun s => match s.1, s.2[i]? with
      | .d (.int n), some (.ol b l) => match ixN l.length n with
        | some j => some (.nx (s.2.set i (.ol b (l.set j d))))
        | none => none
      | _, _ => none
  | _ => none
def sixK4 (i : Nat) (d : D) : Option (R × G) → Option O
  | some (r, g) => match r, g[i]? with
      | .d (.int n), some (.ol b l) => match ixN l.length n with
        | some j => some (.nx (g.set i (.ol b (l.set j d))))
        | none => none
      | _, _ => none
  | none => none
def sixK5 (i : Nat) (d : D) (n : Int) (g : G) : Option Slot → Option O
  | some (.ol b l) => match ixN l.length n with
        | some j => some (.nx (g.set i (.ol b (l.set j d))))
        | none => none
  | _ => none
def sixK6 (i : Nat) (d : D) (g : G) (b : Bool) (l : List D) : Option Nat → Option O
  | some j => some (.nx (g.set i (.ol b (l.set j d))))
  | none => none
theorem v_six : sSetIx i fx fe g = sixK i fx (fe g) := by unfold sSetIx sixK; cases fe g <;> rfl
theorem sixK_some : sixK i fx (some (r, g)) = sixK2 i fx (frz g r) := by unfold sixK sixK2; dsimp only; cases frz g r <;> rfl
theorem sixK2_some : sixK2 i fx (some (d, g)) = sixK3 i fx d g g[i]? := rfl
theorem sixK3_ol : sixK3 i fx d g (some (.ol b l)) = sixK4 i d (fx g) := by unfold sixK3 sixK4; dsimp only; cases fx g <;> rfl
theorem sixK4_some {n : Int} : sixK4 i d (some (.d (.int n), g)) = sixK5 i d n g g[i]? := by
  unfold sixK4 sixK5; dsimp only
  cases g[i]? with
  | none => rfl
  | some s => cases s <;> rfl
theorem sixK5_ol {n : Int} : sixK5 i d n g (some (.ol b l)) = sixK6 i d g b l (ixN l.length n) := rfl
theorem sixK6_some : sixK6 i d g b l (some j) = some (.nx (g.set i (.ol b (l.set j d)))) := rfl
/-! loops, comprehensions: up to the loop itself -/
def forK (gf : D → G → Option G) (fB : G → Option O) : Option (List D × G) → Option O
  | some (l, g) => forL gf fB l g
  | none => none
theorem v_for : sFor fi gf fB g = forK gf fB (fi g) := by unfold sFor forK; cases fi g <;> rfl
theorem forK_some : forK gf fB (some (l, g)) = forL gf fB l g := rfl
def turnK (fB : G → Option O) (gf : D → G → Option G) (l : List D) : Option G → Option O
  | some g1 => (fB g1).bind fun o => match o with
    | .nx g2 => forL gf fB l g2
    | .ct g2 => forL gf fB l g2
    | .bk g2 => some (.nx g2)
    | .rt r g2 => some (.rt r g2)
  | none => none
def turnK2 (gf : D → G → Option G) (fB : G → Option O) (l : List D) : Option O → Option O
  | some (.nx g2) => forL gf fB l g2
  | some (.ct g2) => forL gf fB l g2
  | some (.bk g2) => some (.nx g2)
  | some (.rt r g2) => some (.rt r g2)
  | none => none
theorem forL_nil : forL gf fB [] g = some (.nx g) := rfl
theorem forL_cons : forL gf fB (d :: l) g = turnK fB gf l (gf d g) := by simp only [forL]; unfold turnK; cases gf d g <;> rfl
theorem turnK_some : turnK fB gf l (some g) = turnK2 gf fB l (fB g) := by
  unfold turnK turnK2; dsimp only
  cases fB g with
  | none => rfl
  | some o => cases o <;> rfl
theorem turnK2_nx : turnK2 gf fB l (some (.nx g)) = forL gf fB l g := rfl
theorem turnK2_ct : turnK2 gf fB l (some (.ct g)) = forL gf fB l g := rfl
theorem turnK2_rt : turnK2 gf fB l (some (.rt r g)) = some (.rt r g) := rfl
variable {vs : List Nat} {fm : G → Option (Bool × G)}
def lcK (gf : D → G → Option G) (ft : G → Option (Bool × G)) (fe : G → Option (R × G)) (vs : List Nat) : Option (List D × G) → Option (R × G)
  | some (l, g) => if notOl g vs = true ∧ l.length ≤ 100000 then (lcL gf ft fe vs l (wipeG g vs)).bind fun q => some (.nw q.1, restG q.2 g vs) else none
  | none => none
def lcK2 (g : G) (vs : List Nat) : Option (List D × G) → Option (R × G)
  | some (l, g') => some (.nw l, restG g' g vs)
  | none => none
theorem v_lc : eLc fi gf ft fe vs g = lcK gf ft fe vs (fi g) := by unfold eLc lcK; cases fi g <;> rfl
theorem lcK_some (hn : notOl g vs = true) (hl : l.length ≤ 100000) : lcK gf ft fe vs (some (l, g)) = lcK2 g vs (lcL gf ft fe vs l (wipeG g vs)) := by
  unfold lcK lcK2; dsimp only
  rw [if_pos ⟨hn, hl⟩]
  cases lcL gf ft fe vs l (wipeG g vs) <;> rfl
theorem lcK2_some : lcK2 g vs (some (l, g')) = some (.nw l, restG g' g vs) := rfl
theorem lcL_nil : lcL gf ft fe vs [] g = some ([], g) := rfl
def lcT1 (gf : D → G → Option G) (ft : G → Option (Bool × G)) (fe : G → Option (R × G)) (vs : List Nat) (l : List D) : Option G → Option (List D × G)
  | some g1 => (ft g1).bind fun p => if p.1 = true then (fe p.2).bind fun q => (frz q.2 q.1).bind fun s => (lcL gf ft fe vs l (wipeG s.2 vs)).bind fun t => some (s.1 :: t.1, t.2)
    else lcL gf ft fe vs l (wipeG p.2 vs)
  | none => none
def lcT2 (gf : D → G → Option G) (ft : G → Option (Bool × G)) (fe : G → Option (R × G)) (vs : List Nat) (l : List D) : Option (Bool × G) → Option (List D × G)
  | some (true, g) => (fe g).bind fun q => (frz q.2 q.1).bind fun s => (lcL gf ft fe vs l (wipeG s.2 vs)).bind fun t => some (s.1 :: t.1, t.2)
  | some (false, g) => lcL gf ft fe vs l (wipeG g vs)
  | none => none
def lcT3 (gf : D → G → Option G) (ft : G → Option (Bool × G)) (fe : G → Option (R × G)) (vs : List Nat) (l : List D) : Option (R × G) → Option (List D × G)
  | some (r, g) => (frz g r).bind fun s => (lcL gf ft fe vs l (wipeG s.2 vs)).bind fun t => some (s.1 :: t.1, t.2)
  | none => none
def lcT4 (gf : D → G → Option G) (ft : G → Option (Bool × G)) (fe : G → Option (R × G)) (vs : List Nat) (l : List D) : Option (D × G) → Option (List D × G)
  | some (d, g) => (lcL gf ft fe vs l (wipeG g vs)).bind fun t => some (d :: t.1, t.2)
  | none => none
def lcT5 (d : D) : Option (List D × G) → Option (List D × G)
  | some (l, g) => some (d :: l, g)
  | none => none
theorem lcL_cons : lcL gf ft fe vs (d :: l) g = lcT1 gf ft fe vs l (gf d g) := by simp only [lcL]; unfold lcT1; cases gf d g <;> rfl
theorem lcT1_some : lcT1 gf ft fe vs l (some g) = lcT2 gf ft fe vs l (ft g) := by
  unfold lcT1 lcT2; dsimp only
  cases ft g with
  | none => rfl
  | some p => obtain ⟨b, g⟩ := p; cases b <;> rfl
theorem lcT2_t : lcT2 gf ft fe vs l (some (true, g)) = lcT3 gf ft fe vs l (fe g) := by unfold lcT2 lcT3; dsimp only; cases fe g <;> rfl
theorem lcT2_f : lcT2 gf ft fe vs l (some (false, g)) = lcL gf ft fe vs l (wipeG g vs) := rfl
theorem lcT3_some : lcT3 gf ft fe vs l (some (r, g)) = lcT4 gf ft fe vs l (frz g r) := by unfold lcT3 lcT4; dsimp only; cases frz g r <;> rfl
theorem lcT4_some : lcT4 gf ft fe vs l (some (d, g)) = lcT5 d (lcL gf ft fe vs l (wipeG g vs)) := by unfold lcT4 lcT5; dsimp only; cases lcL gf ft fe vs l (wipeG g vs) <;> rfl
theorem lcT5_some : lcT5 d (some (l, g)) = some (d :: l, g) := rfl
theorem v_yes : tYesG g = some (true, g) := rfl
/-! what is walked -/
def iLK : Option (R × G) → Option (List D × G)
  | some (r, g) => (frz g r).bind fun q => match q.1 with
    | .lst l => some (l, q.2)
    | .sls l => some (l, q.2)
    | _ => none
  | none => none
def iAK : Option (R × G) → Option (List D × G)
  | some (.d (.tup l), g') => some (l, g')
  | some (.d (.str s), g') => some (s.cps.toList.map fun x => .str ⟨#[x]⟩, g')
  | q => iLK q
def iLK2 : Option (D × G) → Option (List D × G)
  | some (.lst l, g) => some (l, g)
  | some (.sls l, g) => some (l, g)
  | _ => none
theorem v_iL : iL fe g = iLK (fe g) := by unfold iL iLK; cases fe g <;> rfl
theorem v_iA : iA fe g = iAK (fe g) := by
  unfold iA iAK
  rw [v_iL]
  cases fe g with
  | none => rfl
  | some p =>
    obtain ⟨r, g⟩ := p
    cases r with
    | d x => cases x <;> rfl
    | _ => rfl
theorem iLK_some : iLK (some (r, g)) = iLK2 (frz g r) := by
  unfold iLK iLK2; dsimp only
  cases frz g r with
  | none => rfl
  | some p => obtain ⟨d, g⟩ := p; cases d <;> rfl
theorem iAK_t : iAK (some (.d (.tup l), g)) = some (l, g) := rfl
theorem iAK_s : iAK (some (.d (.str s), g)) = some (s.cps.toList.map fun x => .str ⟨#[x]⟩, g) := rfl
theorem iAK_l : iAK (some (.d (.lst l), g)) = some (l, g) := rfl
theorem iAK_sls : iAK (some (.d (.sls l), g)) = some (l, g) := rfl
theorem iAK_sl : iAK (some (.sl i, g)) = iLK2 (frz g (.sl i)) := by unfold iAK; exact iLK_some
theorem iAK_n : iAK (some (.nw l, g)) = some (l, g) := rfl
theorem iLK2_l : iLK2 (some (.lst l, g)) = some (l, g) := rfl
theorem iLK2_s : iLK2 (some (.sls l, g)) = some (l, g) := rfl
def r1K : Option (R × G) → Option (List D × G)
  | some (.d (.int n), g) => if -(2 ^ 62) ≤ n ∧ n < 2 ^ 62 then some (rangeD 0 n.toNat, g) else none
  | _ => none
theorem v_iR1 : iR1 fe g = r1K (fe g) := by
  unfold iR1 r1K
  cases fe g with
  | none => rfl
  | some p =>
    obtain ⟨r, g⟩ := p
    cases r with
    | d x => cases x <;> rfl
    | _ => rfl
theorem r1K_some {n : Int} (h : -(2 ^ 62) ≤ n ∧ n < 2 ^ 62) : r1K (some (.d (.int n), g)) = some (rangeD 0 n.toNat, g) := by
  unfold r1K
  dsimp only
  rw [if_pos h]
def r2K (fb : G → Option (R × G)) : Option (R × G) → Option (List D × G)
  | some (r, g) => (fb g).bind fun q => match r, q.1 with
    | .d (.int i), .d (.int n) => if -(2 ^ 62) ≤ n ∧ n < 2 ^ 62 ∧ -(2 ^ 62) ≤ i ∧ i < 2 ^ 62 then some (rangeD i (n - i).toNat, q.2) else none
    | _, _ => none
  | none => none
def r2K2 (r : R) : Option (R × G) → Option (List D × G)
  | some (r', g) => match r, r' with
    | .d (.int i), .d (.int n) => if -(2 ^ 62) ≤ n ∧ n < 2 ^ 62 ∧ -(2 ^ 62) ≤ i ∧ i < 2 ^ 62 then some (rangeD i (n - i).toNat, g) else none
    | _, _ => none
  | none => none
theorem v_iR2 : iR2 fa fb g = r2K fb (fa g) := by unfold iR2 r2K; cases fa g <;> rfl
theorem r2K_some : r2K fb (some (r, g)) = r2K2 r (fb g) := by unfold r2K r2K2; dsimp only; cases fb g <;> rfl
theorem r2K2_some {i n : Int} (h : -(2 ^ 62) ≤ n ∧ n < 2 ^ 62 ∧ -(2 ^ 62) ≤ i ∧ i < 2 ^ 62) : r2K2 (.d (.int i)) (some (.d (.int n), g)) = some (rangeD i (n - i).toNat, g) := by
  unfold r2K2
  dsimp only
  rw [if_pos h]
def enK : Option (List D × G) → Option (List D × G)
  | some (l, g) => some (enumD l, g)
  | none => none
theorem v_iEn : iEn fe g = enK (iL fe g) := by unfold iEn enK; cases iL fe g <;> rfl
theorem enK_some : enK (some (l, g)) = some (enumD l, g) := rfl
/-! a def -/
def outK (n : Nat) : Option O → Option (R × G)
  | some (.rt r g) => (retR g r).map fun r' => (r', g.take n)
  | some (.nx g) => some (.d .non, g.take n)
  | _ => none
def outK2 (n : Nat) (g : G) : Option R → Option (R × G)
  | some r => some (r, g.take n)
  | none => none
theorem dM_run (h : g.length = n) : dM n k f g = outK n (f (g ++ uns (k - n))) := by
  unfold dM
  rw [if_pos h]
  unfold fnM outK
  cases f (g ++ uns (k - n)) with
  | none => rfl
  | some o => cases o <;> rfl
theorem outK_rt : outK n (some (.rt r g)) = outK2 n g (retR g r) := by unfold outK outK2; dsimp only; cases retR g r <;> rfl
theorem outK_nx : outK n (some (.nx g)) = some (.d .non, g.take n) := rfl
theorem outK2_some : outK2 n g (some r) = some (r, g.take n) := rfl
theorem v_rd : retR g (.d x) = some (.d x) := rfl
theorem v_rn : retR g (.nw l) = some (.nw l) := rfl
def retRK : Option Slot → Option R
  | some (.ol false l) => some (.nw l)
  | some (.fz d) => some (.d d)
  | _ => none
theorem v_rs : retR g (.sl i) = retRK g[i]? := by
  unfold retRK; simp only [retR]
  all_goals cases g[i]? with
  | none => rfl
  | some s => cases s with
    | ol b l => cases b <;> rfl
    | _ => rfl
theorem retRK_ol : retRK (some (.ol false l)) = some (.nw l) := rfl
theorem retRK_fz : retRK (some (.fz d)) = some (.d d) := rfl
/-! leaves -/
variable {p q : Int} {z : Str}
theorem add_i : addD (.int p) (.int q) = some (.d (.int (p + q))) := rfl
theorem add_s : addD (.str s) (.str t) = if s.length + t.length ≤ sizeLine then some (.d (.str (s ++ t))) else none := (rfl)
theorem add_l : addD (.lst l) (.lst l') = if l.length + l'.length ≤ sizeLine then some (.nw (l ++ l')) else none := (rfl)
theorem sub_i : subD (.int p) (.int q) = some (.d (.int (p - q))) := rfl
theorem mul_i : mulD (.int p) (.int q) = if p.natAbs.log2 + q.natAbs.log2 < 1000000 then some (.d (.int (p * q))) else none := (rfl)
theorem mod_i : modD (.int p) (.int q) = if 0 < q then some (.d (.int (p % q))) else none := (rfl)
theorem div_i : divD (.int p) (.int q) = if 0 < q ∧ q.natAbs.log2 < 9000 then some (.d (.int (p / q))) else none := (rfl)
theorem pow_i : powD (.int p) (.int q) = if 0 ≤ q ∧ ((p.natAbs.log2 + 1 : Nat) : Int) * q ≤ 1000000 then some (.d (.int (p ^ q.toNat))) else none := (rfl)
theorem lt_i : cI (fun i j => decide (i < j)) (.int p) (.int q) = some (.d (.bl (decide (p < q)))) := rfl
theorem le_i : cI (fun i j => decide (i ≤ j)) (.int p) (.int q) = some (.d (.bl (decide (p ≤ q)))) := rfl
theorem gt_i : cI (fun i j => decide (j < i)) (.int p) (.int q) = some (.d (.bl (decide (q < p)))) := rfl
theorem ge_i : cI (fun i j => decide (j ≤ i)) (.int p) (.int q) = some (.d (.bl (decide (q ≤ p)))) := rfl
theorem eq_i : cEq (.int p) (.int q) = some (.d (.bl (decide (p = q)))) := rfl
theorem ne_i : cNe (.int p) (.int q) = some (.d (.bl (!decide (p = q)))) := rfl
theorem eq_s : cEq (.str s) (.str t) = some (.d (.bl (decide (s = t)))) := rfl
theorem ne_s : cNe (.str s) (.str t) = some (.d (.bl (!decide (s = t)))) := rfl
theorem is_n : cIs .non .non = some (.d (.bl true)) := rfl
theorem isN_n : cIsN .non .non = some (.d (.bl false)) := rfl
theorem ix_l : ixD (.lst l) (.int p) = (atI l p).map .d := rfl
theorem ix_t : ixD (.tup l) (.int p) = (atI l p).map .d := rfl
theorem ix_s : ixD (.sls l) (.int p) = (atI l p).map .d := rfl
theorem len_l : lenD [.lst l] = some (.d (.int (l.length : Int))) := rfl
theorem len_s : lenD [.sls l] = some (.d (.int (l.length : Int))) := rfl
theorem len_t : lenD [.tup l] = some (.d (.int (l.length : Int))) := rfl
theorem len_str : lenD [.str s] = if s.length ≤ sizeLine then some (.d (.int (s.length : Int))) else none := (rfl)
theorem abs_i : absD [.int p] = some (.d (.int (if p < 0 then -p else p))) := rfl
theorem max_i : maxD [.int p, .int q] = some (.d (.int (if q > p then q else p))) := rfl
theorem min_i : minD [.int p, .int q] = some (.d (.int (if q < p then q else p))) := rfl
theorem int_i : intD [.int p] = some (.d (.int p)) := rfl
theorem int_b : intD [.bl b] = some (.d (.int (if b then 1 else 0))) := rfl
theorem list_l : listD [.lst l] = some (.nw l) := rfl
theorem list_s : listD [.sls l] = some (.nw l) := rfl
theorem str_i : strD [.int p] = if p.natAbs.log2 < 1920 then some (.d (.str (toString p))) else none := (rfl)
theorem str_s : strD [.str s] = some (.d (.str s)) := rfl
theorem atI_of {i : Nat} (h : l[i]? = some d) : atI l (i : Int) = some d := by
  have hl := lt_of_get h
  unfold atI ixN
  rw [if_pos (by omega), if_pos (by omega)]
  simpa using h
theorem atI_cons0 : atI (d :: l) 0 = some d := atI_of (i := 0) rfl
end
end Sm

/-! ## plain laws: data, texts, loops -/
namespace Sp
open PySem L2 TL Sm
theorem at0 {d : D} {l : List D} : atI (d :: l) 0 = some d := atI_of (i := 0) rfl
theorem at1 {a d : D} {l : List D} : atI (a :: d :: l) 1 = some d := atI_of (i := 1) rfl
theorem at2 {a b d : D} {l : List D} : atI (a :: b :: d :: l) 2 = some d := atI_of (i := 2) rfl
theorem ixn_of {n i : Nat} (h : i < n) : ixN n (i : Int) = some i := by
  unfold ixN
  rw [if_pos (by omega), if_pos (by omega)]
  simp
theorem ixn0 {n : Nat} : ixN (n + 1) 0 = some 0 := ixn_of (i := 0) (by omega)
theorem ixn1 {n : Nat} : ixN (n + 2) 1 = some 1 := ixn_of (i := 1) (by omega)
theorem ixn2 {n : Nat} : ixN (n + 3) 2 = some 2 := ixn_of (i := 2) (by omega)
theorem ixn03 : ixN 3 0 = some 0 := by decide
theorem ixn13 : ixN 3 1 = some 1 := by decide
theorem ixn23 : ixN 3 2 = some 2 := by decide
theorem log2_lt {n k : Nat} (hk : 0 < k) (h : n < 2 ^ k) : n.log2 < k := by
  by_cases h0 : n = 0
  · subst h0; simpa using hk
  · exact (Nat.log2_lt h0).mpr h
/-! ### data -/
def Shp (n : Nat) (d : D) : Prop := ∃ p, pyOf d = some p ∧ p.canLay0 = true ∧ p.depth ≤ n
def ShpL (n : Nat) (l : List D) : Prop := ∃ p, pyAll l = some p ∧ PyData.canLayAll0 p = true ∧ PyData.depthAll p ≤ n
theorem shp_int (i : Int) (n : Nat) : Shp n (.int i) := ⟨_, rfl, rfl, by simp [PyData.depth]⟩
theorem shp_non (n : Nat) : Shp n .non := ⟨_, rfl, rfl, by simp [PyData.depth]⟩
theorem shp_bl (b : Bool) (n : Nat) : Shp n (.bl b) := ⟨_, rfl, rfl, by simp [PyData.depth]⟩
theorem shp_str {s : Str} (n : Nat) (h : PyData.strOk s = true) : Shp n (.str s) := ⟨_, rfl, h, by simp [PyData.depth]⟩
theorem shpL_nil (n : Nat) : ShpL n [] := ⟨_, rfl, rfl, by simp [PyData.depthAll]⟩
theorem shpL_cons {n : Nat} {d : D} {l : List D} (h : Shp n d) (t : ShpL n l) : ShpL n (d :: l) := by
  obtain ⟨p, h1, h2, h3⟩ := h
  obtain ⟨q, h4, h5, h6⟩ := t
  refine ⟨p :: q, by simp [pyAll, h1, h4], by simp [PyData.canLayAll0, h2, h5], by simp [PyData.depthAll]; omega⟩
theorem shpL_of {n : Nat} : ∀ {l : List D}, (∀ d ∈ l, Shp n d) → ShpL n l
  | [], _ => shpL_nil n
  | d :: l, h => shpL_cons (h d (List.mem_cons_self ..)) (shpL_of fun x hx => h x (List.mem_cons_of_mem _ hx))
theorem shp_tup {n : Nat} {l : List D} (h : ShpL n l) : Shp (n + 1) (.tup l) := by
  obtain ⟨q, h4, h5, h6⟩ := h
  exact ⟨.tuple q, by simp [pyOf, h4], by simpa [PyData.canLay0] using h5, by simp [PyData.depth]; omega⟩
theorem shp_lst {n : Nat} {l : List D} (h : ShpL n l) : Shp (n + 1) (.lst l) := by
  obtain ⟨q, h4, h5, h6⟩ := h
  exact ⟨.list q, by simp [pyOf, h4], by simpa [PyData.canLay0] using h5, by simp [PyData.depth]; omega⟩
theorem shp_ok {n : Nat} (hn : n ≤ 64) {d : D} {p : PyData} (h : pyOf d = some p) (hp : p.canLay0 = true) (hd : p.depth ≤ n) : SeqAt.shaped p = true := by
  unfold SeqAt.shaped
  rw [hp]
  simp
  omega
theorem eq_self {n : Nat} (hn : n ≤ 64) {d : D} (h : Shp n d) : eqD d d = some true := by
  obtain ⟨p, h1, h2, h3⟩ := h
  have hs := shp_ok hn h1 h2 h3
  have e : eqDt d d = some true := by
    unfold eqDt
    rw [h1]
    dsimp only
    rw [if_pos ⟨hs, hs⟩, SeqAt.eqv_refl p h2]
  unfold eqD
  cases hx : eqSc d d with
  | none => exact e
  | some x =>
    dsimp only
    cases d <;> simp [eqSc] at hx <;> simp [← hx]
theorem eq_nil {n : Nat} (hn : n + 1 ≤ 64) {l : List D} (h : ShpL n l) : eqD (.lst l) (.lst []) = some l.isEmpty := by
  obtain ⟨p, h1, h2, h3⟩ := shp_lst h
  have hs := shp_ok hn h1 h2 h3
  have e : eqDt (.lst l) (.lst []) = some l.isEmpty := by
    unfold eqDt
    rw [h1]
    have e2 : pyOf (.lst []) = some (.list []) := rfl
    rw [e2]
    dsimp only
    rw [if_pos ⟨hs, rfl⟩]
    simp only [pyOf] at h1
    obtain ⟨q, h4, h5⟩ := Option.map_eq_some_iff.mp h1
    subst h5
    cases l with
    | nil => cases h4; rfl
    | cons x l =>
      simp only [pyAll] at h4
      obtain ⟨a, _, h6⟩ := Option.bind_eq_some_iff.mp h4
      obtain ⟨b, _, h8⟩ := Option.map_eq_some_iff.mp h6
      subst h8
      rfl
  unfold eqD
  exact e
theorem cEq_self {n : Nat} (hn : n ≤ 64) {d : D} (h : Shp n d) : cEq d d = some (.d (.bl true)) := by unfold cEq; rw [eq_self hn h]; rfl
theorem cNe_self {n : Nat} (hn : n ≤ 64) {d : D} (h : Shp n d) : cNe d d = some (.d (.bl false)) := by unfold cNe; rw [eq_self hn h]; rfl
theorem cEq_nil {n : Nat} (hn : n + 1 ≤ 64) {l : List D} (h : ShpL n l) : cEq (.lst l) (.lst []) = some (.d (.bl l.isEmpty)) := by unfold cEq; rw [eq_nil hn h]; rfl
theorem cNe_nil {n : Nat} (hn : n + 1 ≤ 64) {l : List D} (h : ShpL n l) : cNe (.lst l) (.lst []) = some (.d (.bl !l.isEmpty)) := by unfold cNe; rw [eq_nil hn h]; rfl
/-! ### loops -/
section
variable {gf : D → G → Option G} {ft : G → Option (Bool × G)} {fe : G → Option (R × G)} {vs : List Nat} {fB : G → Option O}
/-- every element to its own value, the slots as they were -/
theorem lc_map {α : Type} {ι φ : α → D} {g : G} : ∀ {l : List α}, (∀ a ∈ l, ∃ g1 r g2 g3, gf (ι a) g = some g1 ∧ fe g1 = some (r, g2) ∧ frz g2 r = some (φ a, g3) ∧ wipeG g3 vs = g) → lcL gf tYesG fe vs (l.map ι) g = some (l.map φ, g)
  | [], _ => rfl
  | d :: l, h => by
    obtain ⟨g1, r, g2, g3, h1, h2, h3, h4⟩ := h d (List.mem_cons_self ..)
    have t := lc_map (φ := φ) (g := g) (l := l) fun x hx => h x (List.mem_cons_of_mem _ hx)
    rw [List.map_cons]
    unfold lcL
    simp only [h1, Option.bind_some, tYesG, if_true, h2, h3, h4, t, List.map_cons]
/-- a filter, then a value -/
theorem lc_fil {α : Type} {ι φ : α → D} {ψ : α → Bool} {g : G} : ∀ {l : List α}, (∀ a ∈ l, ∃ g1 g1', gf (ι a) g = some g1 ∧ ft g1 = some (ψ a, g1') ∧ (ψ a = false → wipeG g1' vs = g) ∧ (ψ a = true → ∃ r g2 g3, fe g1' = some (r, g2) ∧ frz g2 r = some (φ a, g3) ∧ wipeG g3 vs = g)) →
    lcL gf ft fe vs (l.map ι) g = some ((l.filter ψ).map φ, g)
  | [], _ => rfl
  | d :: l, h => by
    obtain ⟨g1, g1', h1, h2, h3, h4⟩ := h d (List.mem_cons_self ..)
    have t := lc_fil (φ := φ) (ψ := ψ) (g := g) (l := l) fun x hx => h x (List.mem_cons_of_mem _ hx)
    rw [List.map_cons]
    unfold lcL
    simp only [h1, Option.bind_some, h2]
    cases hb : ψ d with
    | true =>
      obtain ⟨r, g2, g3, h5, h6, h7⟩ := h4 hb
      simp only [if_true, h5, h6, h7, Option.bind_some, t, List.filter_cons, hb, List.map_cons]
    | false =>
      simp only [h3 hb, t, List.filter_cons, hb, Bool.false_eq_true, if_false]
/-- with slots that move: what holds stays -/
theorem lc_inv {L : List D} (P : List D → List D → G → Prop) : ∀ {l pr acc : List D} {g : G}, L = pr ++ l → P pr acc g →
    (∀ pr d rest acc' g, L = pr ++ d :: rest → P pr acc' g → ∃ g1 r g2 x g3, gf d g = some g1 ∧ fe g1 = some (r, g2) ∧ frz g2 r = some (x, g3) ∧ P (pr ++ [d]) (acc' ++ [x]) (wipeG g3 vs)) →
    ∃ out g', lcL gf tYesG fe vs l g = some (out, g') ∧ P L (acc ++ out) g'
  | [], pr, acc, g, e, h, _ => ⟨[], g, rfl, by rw [List.append_nil, e, List.append_nil]; exact h⟩
  | d :: l, pr, acc, g, e, h, hs => by
    obtain ⟨g1, r, g2, x, g3, h1, h2, h3, h4⟩ := hs pr d l acc g e h
    obtain ⟨out, g', h5, h6⟩ := lc_inv P (by rw [e, List.append_assoc]; rfl) h4 hs
    refine ⟨x :: out, g', ?_, by rw [List.append_assoc] at h6; exact h6⟩
    unfold lcL
    simp only [h1, Option.bind_some, tYesG, if_true, h2, h3, h5]
/-- a loop that runs to its end -/
theorem for_inv {L : List D} (P : List D → G → Prop) : ∀ {l pr : List D} {g : G}, L = pr ++ l → P pr g →
    (∀ pr d rest g, L = pr ++ d :: rest → P pr g → ∃ g1 g2, gf d g = some g1 ∧ (fB g1 = some (.nx g2) ∨ fB g1 = some (.ct g2)) ∧ P (pr ++ [d]) g2) → ∃ g', forL gf fB l g = some (.nx g') ∧ P L g'
  | [], pr, g, e, h, _ => ⟨g, rfl, by rw [e, List.append_nil]; exact h⟩
  | d :: l, pr, g, e, h, hs => by
    obtain ⟨g1, g2, h1, h2, h3⟩ := hs pr d l g e h
    obtain ⟨g', h4, h5⟩ := for_inv P (by rw [e, List.append_assoc]; rfl) h3 hs
    refine ⟨g', ?_, h5⟩
    unfold forL
    rcases h2 with h2 | h2 <;> simp only [h1, Option.bind_some, h2, h4]
end
/-! ### texts -/
theorem strOk_of {s : Str} (h : ∀ c ∈ tl s, c < 0x110000) : PyData.strOk s = true := by
  unfold PyData.strOk
  rw [← Array.all_toList]
  rw [List.all_eq_true]
  intro c hc
  exact decide_eq_true (h c hc)
end Sp

namespace Lw
open PySem L2 Sm
noncomputable def B_law_rng : G → Option O :=
  (sSeq (sAsgT (gT 2 (gCons' (gN 1) (gCons' (gN 2) gNil'))) (eTup (aCons (eC (.int 0)) (aCons (eC (.int 88675123)) aNil))))
  (sSeq (sFor (iA (eSl (eVar 0) oNone (oSome (eC (.int 63))))) (gN 3) (sSeq (sAsg 4 (eCB absD (aCons (eVar 3) aNil)))
  (sSeq (sIf (tst (eBin cGe (eVar 4) (eBin powD (eC (.int 10)) (eC (.int 18))))) (sAsg 1 (eBin addD (eBin mulD (eVar 1) (eBin powD (eC (.int 10)) (eC (.int 60)))) (eBin modD (eVar 4) (eBin powD (eC (.int 10)) (eC (.int 60)))))) sNext)
  (sAsg 2 (eBin modD (eBin addD (eBin addD (eBin mulD (eVar 2) (eC (.int 1000003))) (eBin modD (eVar 3) (eC (.int 2305843009213693921)))) (eC (.int 7))) (eC (.int 2305843009213693951)))))))
  (sRet (eLst (aCons (eVar 1) (aCons (eVar 2) (aCons (eC (.int 0)) aNil)))))))
noncomputable abbrev M_law_rng : G → Option (R × G) := dM 1 5 B_law_rng
noncomputable def B_law_draw : G → Option O :=
  (sSeq (sIf (tst (eBin cGt (eBin ixD (eVar 0) (eC (.int 0))) (eC (.int 0)))) (sSeq (sAsg 2 (eBin modD (eBin ixD (eVar 0) (eC (.int 0))) (eVar 1)))
  (sSeq (sSetIx 0 (eC (.int 0)) (eBin divD (eBin ixD (eVar 0) (eC (.int 0))) (eVar 1)))
  (sRet (eVar 2)))) sNext)
  (sSeq (sSetIx 0 (eC (.int 2)) (eBin addD (eBin ixD (eVar 0) (eC (.int 2))) (eC (.int 1))))
  (sSeq (sAsg 3 (eBin modD (eBin powD (eBin addD (eBin ixD (eVar 0) (eC (.int 1))) (eBin mulD (eC (.int 998244353)) (eBin ixD (eVar 0) (eC (.int 2))))) (eC (.int 3))) (eC (.int 162259276829213363391578010288127))))
  (sSeq (sAsg 3 (eBin modD (eBin powD (eBin addD (eVar 3) (eBin mulD (eC (.int 32452843)) (eBin ixD (eVar 0) (eC (.int 2))))) (eC (.int 3))) (eC (.int 170141183460469231731687303715884105727))))
  (sRet (eBin modD (eBin divD (eVar 3) (eC (.int 1048576))) (eVar 1)))))))
noncomputable abbrev M_law_draw : G → Option (R × G) := dM 2 4 B_law_draw
noncomputable def B_law_any_command : G → Option O :=
  (sSeq (sAsg 1 (eBin ixD (eLst (aCons (eC (.str (("head" : String) : Str))) (aCons (eC (.str (("tail" : String) : Str))) (aCons (eC (.str (("skip" : String) : Str))) (aCons (eC (.str (("chop" : String) : Str))) (aCons (eC (.str (("reverse" : String) : Str))) (aCons (eC (.str (("uniq" : String) : Str))) (aCons (eC (.str (("sort" : String) : Str))) aNil)))))))) (eCall1 M_law_draw (aCons (eVar 0) (aCons (eC (.int 7)) aNil)))))
  (sSeq (sIf (tst (eBin cIn (eVar 1) (eTup (aCons (eC (.str (("reverse" : String) : Str))) (aCons (eC (.str (("uniq" : String) : Str))) (aCons (eC (.str (("sort" : String) : Str))) aNil)))))) (sRet (eTup (aCons (eVar 1) aNil))) sNext)
  (sRet (eTup (aCons (eVar 1) (aCons (eBin ixD (eLst (aCons (eC (.int 0)) (aCons (eCall1 M_law_draw (aCons (eVar 0) (aCons (eC (.int 10)) aNil))) (aCons (eCall1 M_law_draw (aCons (eVar 0) (aCons (eBin powD (eC (.int 10)) (eC (.int 30))) aNil))) (aCons (eBin subD (eBin powD (eC (.int 10)) (eC (.int 30))) (eC (.int 1))) aNil))))) (eCall1 M_law_draw (aCons (eVar 0) (aCons (eC (.int 4)) aNil)))) aNil))))))
noncomputable abbrev M_law_any_command : G → Option (R × G) := dM 1 2 B_law_any_command
noncomputable def B_law_any_plan : G → Option O :=
  (sRet (eLc (iR1 (eCall1 M_law_draw (aCons (eVar 0) (aCons (eBin addD (eVar 1) (eC (.int 1))) aNil)))) (gN 2) tYesG (eCall1 M_law_any_command (aCons (eVar 0) aNil)) [2]))
noncomputable abbrev M_law_any_plan : G → Option (R × G) := dM 2 3 B_law_any_plan
noncomputable def B_law_written : G → Option O :=
  (sSeq (sAsg 1 (eC (.str (("" : String) : Str))))
  (sSeq (sFor (iEn (eVar 0)) (gT 2 (gCons' (gN 2) (gCons' (gN 3) gNil'))) (sSeq (sAsg 1 (eBin addD (eBin addD (eVar 1) (eBin ixD (eLst (aCons (eC (.str ((" | " : String) : Str))) (aCons (eC (.str (("" : String) : Str))) aNil))) (eCB intD (aCons (eBin cEq (eVar 2) (eC (.int 0))) aNil)))) (eBin ixD (eVar 3) (eC (.int 0)))))
  (sIf (tst (eBin cGt (eCB lenD (aCons (eVar 3) aNil)) (eC (.int 1)))) (sAsg 1 (eBin addD (eBin addD (eVar 1) (eC (.str ((" " : String) : Str)))) (eCB strD (aCons (eBin ixD (eVar 3) (eC (.int 1))) aNil)))) sNext)))
  (sRet (eIf (tst (eBin cNe (eVar 1) (eC (.str (("" : String) : Str))))) (eVar 1) (eC (.str (("-" : String) : Str)))))))
noncomputable abbrev M_law_written : G → Option (R × G) := dM 1 4 B_law_written
end Lw
namespace Sp
open PySem L2 TL Sm Lw
local macro_rules | `(tactic| walk_at "ev") => `(tactic| simp only [*, v_c, Sp.at0, Sp.at1, Sp.at2, Sp.ixn0, Sp.ixn1, Sp.ixn2, Sp.ixn03, Sp.ixn13, Sp.ixn23, List.drop_succ_cons, List.drop_zero,  v_var, varK_fz, varK_ol, v_bin, binK_some, binK2_some, binK3_some, valK_some, v_ldd, v_ldn, v_lds, ldK_ol, ldK_fz, v_frzd, v_frzn, v_frzs, frzK_ol, frzK_fz, v_frzs0, v_frzs1, frzsK_some, frzsK2_some, v_lds0, v_lds1, ldsK_some, ldsK2_some, v_anil, v_acons, aConsK_some, aConsK2_some, v_tup, tupK_some, tupK2_some, v_lst, lstK_some, lstK2_some,
  v_neg, negK_some, v_if, ifK_t, ifK_f, v_tst, tstK_some, v_band, v_bor, v_bnot, andK_t, andK_f, orK_t, orK_f, notK_some, v_and, v_or, v_not, andVK_t, andVK_f, orVK_t, orVK_f, notVK_some, v_chain, chK1_some, chK2_some, chK3_some, chK4_t, chK4_f, v_onone, v_osome, partK_some, v_sl, slK1_some, slK2_some, slK3_some, slK4_some, v_slL, v_slS, v_slT, v_slStr, v_rev, revK_some, revK2_l, v_cb, cbK_some, cbK2_some, v_m1, m1K_some, m1K2_some, m1K3_some,
  v_app, appK_ol, appK2_some, appK3_some, appK4_ol, v_pop, popK_ol, v_popAt, popAtK_ol, popAtK2_some, v_c0, c0K_some, c0K2_some, c0K3_some, c0K4_some, melt0, melt1, meltK_some, meltK2_ol, meltK2_fz, v_c1, c1K_some, c1K2_ol, c1K3_some, c1K4_some, c1K5_some, v_seq, seqK_nx, seqK_rt, seqK_ct, v_next, v_cont, v_expr, exprK_some, v_ret, retK_some, v_retN, v_asg, asgK_some, nxK_some, v_stN, v_stD, v_stS, stK_some, v_notT, notTK_fz, notTK_un, notTK_ol, v_sif, sifK_t, sifK_f,
  v_asgT, asgTK_some, asgTK2_some, v_gN, v_gT, v_gNil, v_gCons, gConsK_some, v_par, parK_some, parK2_some, v_aug, augK_fz, augK2_some, augK3_some, augK4_some, v_six, sixK_some, sixK2_some, sixK3_ol, sixK4_some, sixK5_ol, sixK6_some, v_for, forK_some, v_lc, v_yes, v_iL, v_iA, iLK_some, iAK_t, iAK_s, iAK_l, iAK_sls, iAK_sl, iAK_n, iLK2_l, iLK2_s, v_iR1, v_iR2, r2K_some, v_iEn, enK_some, outK_rt, outK_nx, outK2_some, v_rd, v_rn, v_rs, retRK_ol, retRK_fz,
  add_i, add_s, add_l, sub_i, mul_i, mod_i, div_i, pow_i, lt_i, le_i, gt_i, ge_i, eq_i, ne_i, eq_s, ne_s, is_n, isN_n, ix_l, ix_t, ix_s, len_l, len_s, len_t, len_str, abs_i, max_i, min_i, int_i, int_b, list_l, list_s, str_i, str_s, lent, noRs, noL, noLs, lcK2_some, wipeG, restG,
  uns, List.replicate_succ, List.replicate_zero, List.getElem?_cons_zero, List.getElem?_cons_succ, List.getElem?_nil, List.set_cons_zero, List.set_cons_succ, List.set_nil, List.length_cons, List.length_nil, List.map_cons, List.map_nil, List.cons_append, List.nil_append, List.append_nil, List.take_succ_cons, List.take_zero, List.take_nil, Option.map_some, Option.map_none, Option.getD_some, Option.getD_none, List.not_mem_nil, not_false_eq_true, List.mem_cons, or_false, false_or,
  Nat.reduceAdd, Nat.reduceSub, Nat.reduceLT, Nat.reduceLeDiff, Int.reduceLT, Int.reduceLE, Int.reduceAdd, Int.reduceSub, Int.reduceMul, Int.reducePow, Int.reduceToNat, Int.reduceNeg, Int.reduceEq, Nat.reduceMul, Nat.reducePow, Nat.zero_add, Nat.add_zero, Nat.reduceEqDiff, decide_true, decide_false, Bool.and_true, Bool.and_false, Bool.true_and, Bool.false_and, Bool.or_true, Bool.or_false, Bool.not_true, Bool.not_false, if_true, if_false, reduceIte, Bool.false_eq_true, and_true, true_and, and_false, false_and, and_self, reduceCtorEq, Bool.and_self, decide_eq_true_eq])

/-- the state of the draws -/
def Rg (N : Nat) (l : List D) : Prop := ∃ d s c : Int, l = [.int d, .int s, .int c] ∧ 0 ≤ d ∧ 0 ≤ s ∧ s < 2 ^ 61 ∧ 0 ≤ c ∧ c ≤ N
theorem Rg.mono {N M : Nat} {l : List D} (h : Rg N l) (hm : N ≤ M) : Rg M l := by
  obtain ⟨d, s, c, h1, h2, h3, h4, h5, h6⟩ := h
  exact ⟨d, s, c, h1, h2, h3, h4, h5, by omega⟩
theorem Rg.noL {N : Nat} {l : List D} (h : Rg N l) : noLs l = true := by
  obtain ⟨d, s, c, rfl, _⟩ := h
  rfl
theorem pow3 {x : Int} (h0 : 0 ≤ x) (h : x < 2 ^ 300) : powD (.int x) (.int 3) = some (.d (.int (x ^ 3))) := by
  rw [pow_i]
  have hl : x.natAbs.log2 < 300 := log2_lt (by decide) (by
    have e : ((x.natAbs : Nat) : Int) < ((2 ^ 300 : Nat) : Int) := by
      rw [Int.natAbs_of_nonneg h0]; simpa using h
    exact Int.ofNat_lt.mp e)
  rw [if_pos ⟨by decide, by omega⟩]
  rfl
theorem mulS {p q : Int} (hp : p.natAbs < 2 ^ 1000) (hq : q.natAbs < 2 ^ 1000) : mulD (.int p) (.int q) = some (.d (.int (p * q))) := by
  rw [mul_i, if_pos]
  have h1 := log2_lt (by decide) hp
  have h2 := log2_lt (by decide) hq
  omega
theorem draw_ok {N : Nat} {l : List D} {n : Int} (h : Rg N l) (hN : N < 2 ^ 200) (hn : 0 < n) (hl : n.natAbs.log2 < 9000) :
    ∃ (k : Int) (l' : List D), 0 ≤ k ∧ k < n ∧ Rg (N + 1) l' ∧ M_law_draw [.ol true l, .fz (.int n)] = some (.d (.int k), [.ol true l', .fz (.int n)]) := by
  obtain ⟨d, s, c, rfl, h1, h2, h3, h4, h5⟩ := h
  by_cases hd : 0 < d
  · refine ⟨d % n, [.int (d / n), .int s, .int c], Int.emod_nonneg _ (by omega), Int.emod_lt_of_pos _ hn, ⟨d / n, s, c, rfl, Int.ediv_nonneg h1 (by omega), h2, h3, h4, by omega⟩, ?_⟩
    unfold M_law_draw
    rw [dM_run (n := 2) rfl]; unfold B_law_draw
    walk_at "ev"
  · have m1 : mulD (.int 998244353) (.int (c + 1)) = some (.d (.int (998244353 * (c + 1)))) := mulS (by decide) (by omega)
    have p1 := pow3 (x := s + 998244353 * (c + 1)) (by omega) (by omega)
    generalize hu : (s + 998244353 * (c + 1)) ^ 3 % 162259276829213363391578010288127 = u at *
    have u0 : 0 ≤ u := by rw [← hu]; exact Int.emod_nonneg _ (by decide)
    have u1 : u < 162259276829213363391578010288127 := by rw [← hu]; exact Int.emod_lt_of_pos _ (by decide)
    have m2 : mulD (.int 32452843) (.int (c + 1)) = some (.d (.int (32452843 * (c + 1)))) := mulS (by decide) (by omega)
    have p2 := pow3 (x := u + 32452843 * (c + 1)) (by omega) (by omega)
    have lg : (1048576 : Int).natAbs.log2 < 9000 := by decide
    refine ⟨(u + 32452843 * (c + 1)) ^ 3 % 170141183460469231731687303715884105727 / 1048576 % n, [.int d, .int s, .int (c + 1)], Int.emod_nonneg _ (by omega), Int.emod_lt_of_pos _ hn, ⟨d, s, c + 1, rfl, h1, h2, h3, by omega, by omega⟩, ?_⟩
    unfold M_law_draw
    rw [dM_run (n := 2) rfl]; unfold B_law_draw
    walk_at "ev"
theorem cut_upto {l : List D} {n : Nat} : cutD l none (some (n : Int)) = l.take n := by
  unfold cutD
  rw [HT.sIx_nat, HT.sIx_none, List.drop_zero, Nat.sub_zero]
  by_cases h : n ≤ l.length
  · rw [Nat.min_eq_left h]
  · rw [Nat.min_eq_right (by omega), List.take_of_length_le (Nat.le_refl _), List.take_of_length_le (by omega)]
theorem noK_un : notTK (some .un) = true := rfl
theorem noK_fz {d : D} : notTK (some (.fz d)) = true := rfl
theorem noK_ol {l : List D} : notTK (some (.ol false l)) = true := rfl
theorem rng_ok {ns : List Int} (h : ns.length ≤ 63) : ∃ l, Rg 0 l ∧ M_law_rng [.fz (.sls (ns.map D.int))] = some (.nw l, [.fz (.sls (ns.map D.int))]) := by
  have p18 : powD (.int 10) (.int 18) = some (.d (.int (10 ^ 18))) := rfl
  have p60 : powD (.int 10) (.int 60) = some (.d (.int (10 ^ 60))) := rfl
  have hloop := for_inv (L := ns.map D.int) (gf := gN 3) (fB := (sSeq (sAsg 4 (eCB absD (aCons (eVar 3) aNil)))
  (sSeq (sIf (tst (eBin cGe (eVar 4) (eBin powD (eC (.int 10)) (eC (.int 18))))) (sAsg 1 (eBin addD (eBin mulD (eVar 1) (eBin powD (eC (.int 10)) (eC (.int 60)))) (eBin modD (eVar 4) (eBin powD (eC (.int 10)) (eC (.int 60)))))) sNext)
  (sAsg 2 (eBin modD (eBin addD (eBin addD (eBin mulD (eVar 2) (eC (.int 1000003))) (eBin modD (eVar 3) (eC (.int 2305843009213693921)))) (eC (.int 7))) (eC (.int 2305843009213693951)))))))
    (fun pr g => ∃ (dg sd : Int) (a b : Slot), g = [.fz (.sls (ns.map D.int)), .fz (.int dg), .fz (.int sd), a, b] ∧ notTK (some a) = true ∧ notTK (some b) = true ∧ 0 ≤ dg ∧ dg < 10 ^ (60 * pr.length) ∧ 0 ≤ sd ∧ sd < 2 ^ 61)
    (l := ns.map D.int) (pr := []) (g := [.fz (.sls (ns.map D.int)), .fz (.int 0), .fz (.int 88675123), .un, .un]) rfl ⟨0, 88675123, .un, .un, rfl, rfl, rfl, by omega, by simp, by omega, by omega⟩ (by
      rintro pr d rest g e ⟨dg, sd, a, b, rfl, na, nb, h1, h2, h3, h4⟩
      have hd : d ∈ ns.map D.int := by rw [e]; simp
      obtain ⟨x, hx, rfl⟩ := List.mem_map.mp hd
      have hlen : pr.length < 63 := by
        have := congrArg List.length e
        simp at this
        omega
      clear e hd
      have m1 : mulD (.int sd) (.int 1000003) = some (.d (.int (sd * 1000003))) := mulS (by omega) (by decide)
      have q0 : 0 ≤ (sd * 1000003 + x % 2305843009213693921 + 7) % 2305843009213693951 := Int.emod_nonneg _ (by decide)
      have q1 : (sd * 1000003 + x % 2305843009213693921 + 7) % 2305843009213693951 < 2305843009213693951 := Int.emod_lt_of_pos _ (by decide)
      have e60 : (10 : Int) ^ (60 * (pr.length + 1)) = 10 ^ (60 * pr.length) * 10 ^ 60 := by rw [Nat.mul_add, Int.pow_add]
      by_cases hs : 1000000000000000000 ≤ (if x < 0 then -x else x)
      · have lb : dg.natAbs.log2 < 240 * 63 := by
          have e1 : dg.natAbs < 10 ^ (60 * pr.length) := by
            have : ((dg.natAbs : Nat) : Int) < ((10 ^ (60 * pr.length) : Nat) : Int) := by
              rw [Int.natAbs_of_nonneg h1, Int.natCast_pow]; exact h2
            exact Int.ofNat_lt.mp this
          have e2 : 10 ^ (60 * pr.length) ≤ 2 ^ (4 * (60 * pr.length)) := by
            rw [Nat.pow_mul 2 4]; exact Nat.pow_le_pow_left (show 10 ≤ 2 ^ 4 by decide) _
          have e3 : dg.natAbs < 2 ^ (4 * (60 * pr.length) + 1) := by
            have : 2 ^ (4 * (60 * pr.length)) ≤ 2 ^ (4 * (60 * pr.length) + 1) := Nat.pow_le_pow_right (by decide) (by omega)
            omega
          have e4 := log2_lt (by omega) e3
          omega
        have m2 : mulD (.int dg) (.int 1000000000000000000000000000000000000000000000000000000000000) = some (.d (.int (dg * 1000000000000000000000000000000000000000000000000000000000000))) := by
          rw [mul_i, if_pos]
          have : (1000000000000000000000000000000000000000000000000000000000000 : Int).natAbs.log2 < 300 := by decide
          omega
        generalize hw : (if x < 0 then -x else x) = w at *
        have s0 : 0 ≤ w % 1000000000000000000000000000000000000000000000000000000000000 := Int.emod_nonneg _ (by decide)
        have s1 : w % 1000000000000000000000000000000000000000000000000000000000000 < 1000000000000000000000000000000000000000000000000000000000000 := Int.emod_lt_of_pos _ (by decide)
        refine ⟨[.fz (.sls (ns.map D.int)), .fz (.int dg), .fz (.int sd), .fz (.int x), b], [.fz (.sls (ns.map D.int)), .fz (.int (dg * 1000000000000000000000000000000000000000000000000000000000000 + w % 1000000000000000000000000000000000000000000000000000000000000)), .fz (.int ((sd * 1000003 + x % 2305843009213693921 + 7) % 2305843009213693951)), .fz (.int x), .fz (.int w)], ?_, .inl ?_, ⟨_, _, _, _, rfl, rfl, rfl, ?_, ?_, q0, by omega⟩⟩
        · walk_at "ev"
        · walk_at "ev"
        · omega
        · rw [List.length_append, List.length_singleton, e60, show (10 : Int) ^ 60 = 1000000000000000000000000000000000000000000000000000000000000 from rfl]; omega
      · generalize hw : (if x < 0 then -x else x) = w at *
        refine ⟨[.fz (.sls (ns.map D.int)), .fz (.int dg), .fz (.int sd), .fz (.int x), b], [.fz (.sls (ns.map D.int)), .fz (.int dg), .fz (.int ((sd * 1000003 + x % 2305843009213693921 + 7) % 2305843009213693951)), .fz (.int x), .fz (.int w)], ?_, .inl ?_, ⟨_, _, _, _, rfl, rfl, rfl, h1, ?_, q0, by omega⟩⟩
        · walk_at "ev"
        · walk_at "ev"
        · rw [List.length_append, List.length_singleton, e60, show (10 : Int) ^ 60 = 1000000000000000000000000000000000000000000000000000000000000 from rfl]
          have : (0 : Int) < 10 ^ (60 * pr.length) := by omega
          omega)
  obtain ⟨g', h1, dg, sd, a, b, rfl, na, nb, h2, h3, h4, h5⟩ := hloop
  refine ⟨[.int dg, .int sd, .int 0], ⟨dg, sd, 0, rfl, h2, h4, h5, by omega, by omega⟩, ?_⟩
  unfold M_law_rng
  rw [dM_run (n := 1) rfl]; unfold B_law_rng
  have hc : cutD (ns.map D.int) none (some (63 : Int)) = ns.map D.int := by
    have := cut_upto (l := ns.map D.int) (n := 63)
    rw [List.take_of_length_le (by rw [List.length_map]; exact h)] at this
    exact this
  walk_at "ev"
end Sp

/-! ## commands: their texts, and how a law draws them -/
namespace Sp
open PySem L2 TL Sm Lw
local macro_rules | `(tactic| walk_at "ev") => `(tactic| simp only [*, v_c, at0, at1, at2, ixn0, ixn1, ixn2, ixn03, ixn13, ixn23, List.drop_succ_cons, List.drop_zero,  v_var, varK_fz, varK_ol, v_bin, binK_some, binK2_some, binK3_some, valK_some, v_ldd, v_ldn, v_lds, ldK_ol, ldK_fz, v_frzd, v_frzn, v_frzs, frzK_ol, frzK_fz, v_frzs0, v_frzs1, frzsK_some, frzsK2_some, v_lds0, v_lds1, ldsK_some, ldsK2_some, v_anil, v_acons, aConsK_some, aConsK2_some, v_tup, tupK_some, tupK2_some, v_lst, lstK_some, lstK2_some,
  v_neg, negK_some, v_if, ifK_t, ifK_f, v_tst, tstK_some, v_band, v_bor, v_bnot, andK_t, andK_f, orK_t, orK_f, notK_some, v_and, v_or, v_not, andVK_t, andVK_f, orVK_t, orVK_f, notVK_some, v_chain, chK1_some, chK2_some, chK3_some, chK4_t, chK4_f, v_onone, v_osome, partK_some, v_sl, slK1_some, slK2_some, slK3_some, slK4_some, v_slL, v_slS, v_slT, v_slStr, v_rev, revK_some, revK2_l, v_cb, cbK_some, cbK2_some, v_m1, m1K_some, m1K2_some, m1K3_some,
  v_app, appK_ol, appK2_some, appK3_some, appK4_ol, v_pop, popK_ol, v_popAt, popAtK_ol, popAtK2_some, v_c0, c0K_some, c0K2_some, c0K3_some, c0K4_some, melt0, melt1, meltK_some, meltK2_ol, meltK2_fz, v_c1, c1K_some, c1K2_ol, c1K3_some, c1K4_some, c1K5_some, v_seq, seqK_nx, seqK_rt, seqK_ct, v_next, v_cont, v_expr, exprK_some, v_ret, retK_some, v_retN, v_asg, asgK_some, nxK_some, v_stN, v_stD, v_stS, stK_some, v_notT, notTK_fz, notTK_un, notTK_ol, v_sif, sifK_t, sifK_f,
  v_asgT, asgTK_some, asgTK2_some, v_gN, v_gT, v_gNil, v_gCons, gConsK_some, v_par, parK_some, parK2_some, v_aug, augK_fz, augK2_some, augK3_some, augK4_some, v_six, sixK_some, sixK2_some, sixK3_ol, sixK4_some, sixK5_ol, sixK6_some, v_for, forK_some, v_lc, v_yes, v_iL, v_iA, iLK_some, iAK_t, iAK_s, iAK_l, iAK_sls, iAK_sl, iAK_n, iLK2_l, iLK2_s, v_iR1, v_iR2, r2K_some, v_iEn, enK_some, outK_rt, outK_nx, outK2_some, v_rd, v_rn, v_rs, retRK_ol, retRK_fz,
  add_i, add_s, add_l, sub_i, mul_i, mod_i, div_i, pow_i, lt_i, le_i, gt_i, ge_i, eq_i, ne_i, eq_s, ne_s, is_n, isN_n, ix_l, ix_t, ix_s, len_l, len_s, len_t, len_str, abs_i, max_i, min_i, int_i, int_b, list_l, list_s, str_i, str_s, lent, noRs, noL, noLs, lcK2_some, wipeG, restG,
  uns, List.replicate_succ, List.replicate_zero, List.getElem?_cons_zero, List.getElem?_cons_succ, List.getElem?_nil, List.set_cons_zero, List.set_cons_succ, List.set_nil, List.length_cons, List.length_nil, List.map_cons, List.map_nil, List.cons_append, List.nil_append, List.append_nil, List.take_succ_cons, List.take_zero, List.take_nil, Option.map_some, Option.map_none, Option.getD_some, Option.getD_none, List.not_mem_nil, not_false_eq_true, List.mem_cons, or_false, false_or,
  Nat.reduceAdd, Nat.reduceSub, Nat.reduceLT, Nat.reduceLeDiff, Int.reduceLT, Int.reduceLE, Int.reduceAdd, Int.reduceSub, Int.reduceMul, Int.reducePow, Int.reduceToNat, Int.reduceNeg, Int.reduceEq, Nat.reduceMul, Nat.reducePow, Nat.zero_add, Nat.add_zero, Nat.reduceEqDiff, decide_true, decide_false, Bool.and_true, Bool.and_false, Bool.true_and, Bool.false_and, Bool.or_true, Bool.or_false, Bool.not_true, Bool.not_false, if_true, if_false, reduceIte, Bool.false_eq_true, and_true, true_and, and_false, false_and, and_self, reduceCtorEq, Bool.and_self, decide_eq_true_eq])

inductive Nm | head | tail | skip | chop
  deriving DecidableEq
inductive Pl | reverse | uniq | sort
  deriving DecidableEq
inductive Cmd | num (a : Nm) (n : Nat) | pl (a : Pl)
  deriving DecidableEq
def Nm.str : Nm → Str
  | .head => ("head" : String) | .tail => ("tail" : String) | .skip => ("skip" : String) | .chop => ("chop" : String)
def Pl.str : Pl → Str
  | .reverse => ("reverse" : String) | .uniq => ("uniq" : String) | .sort => ("sort" : String)
def Cmd.enc : Cmd → D
  | .num a n => .tup [.str a.str, .int (n : Nat)]
  | .pl a => .tup [.str a.str]
def Cmd.ok : Cmd → Prop
  | .num _ n => n < 10 ^ 30
  | .pl _ => True
abbrev NUMT : D := .tup [.str (("head" : String) : Str), .str (("tail" : String) : Str), .str (("skip" : String) : Str), .str (("chop" : String) : Str)]
abbrev PLT : D := .tup [.str (("reverse" : String) : Str), .str (("uniq" : String) : Str), .str (("sort" : String) : Str)]
theorem nm_in (a : Nm) : cIn (.str a.str) NUMT = some (.d (.bl true)) := by cases a <;> rfl
theorem nm_in' (a : Nm) : cIn (.str a.str) PLT = some (.d (.bl false)) := by cases a <;> rfl
theorem pl_in (a : Pl) : cIn (.str a.str) PLT = some (.d (.bl true)) := by cases a <;> rfl
theorem at3 {a b c d : D} {l : List D} : atI (a :: b :: c :: d :: l) 3 = some d := atI_of (i := 3) rfl
theorem at4 {a b c e d : D} {l : List D} : atI (a :: b :: c :: e :: d :: l) 4 = some d := atI_of (i := 4) rfl
theorem at5 {a b c e f d : D} {l : List D} : atI (a :: b :: c :: e :: f :: d :: l) 5 = some d := atI_of (i := 5) rfl
theorem at6 {a b c e f h d : D} {l : List D} : atI (a :: b :: c :: e :: f :: h :: d :: l) 6 = some d := atI_of (i := 6) rfl
abbrev SEVEN : List D := [.str (("head" : String) : Str), .str (("tail" : String) : Str), .str (("skip" : String) : Str), .str (("chop" : String) : Str), .str (("reverse" : String) : Str), .str (("uniq" : String) : Str), .str (("sort" : String) : Str)]
theorem seven {k : Int} (h0 : 0 ≤ k) (h : k < 7) : (∃ a : Nm, atI SEVEN k = some (.str a.str)) ∨ (∃ a : Pl, atI SEVEN k = some (.str a.str)) := by
  have : k = 0 ∨ k = 1 ∨ k = 2 ∨ k = 3 ∨ k = 4 ∨ k = 5 ∨ k = 6 := by omega
  rcases this with rfl | rfl | rfl | rfl | rfl | rfl | rfl
  · exact .inl ⟨.head, at0⟩
  · exact .inl ⟨.tail, at1⟩
  · exact .inl ⟨.skip, at2⟩
  · exact .inl ⟨.chop, at3⟩
  · exact .inr ⟨.reverse, at4⟩
  · exact .inr ⟨.uniq, at5⟩
  · exact .inr ⟨.sort, at6⟩
theorem any_command_ok {N : Nat} {l : List D} (h : Rg N l) (hN : N + 10 < 2 ^ 200) : ∃ (c : Cmd) (l' : List D), c.ok ∧ Rg (N + 4) l' ∧ M_law_any_command [.ol true l] = some (.d c.enc, [.ol true l']) := by
  have L30 : powD (.int 10) (.int 30) = some (.d (.int 1000000000000000000000000000000)) := rfl
  obtain ⟨k, l1, h1, h2, h3, h4⟩ := draw_ok h (by omega) (show (0 : Int) < 7 by decide) (by decide)
  have n1 := h3.noL
  rcases seven h1 h2 with ⟨a, ha⟩ | ⟨a, ha⟩
  · obtain ⟨k2, l2, h5, h6, h7, h8⟩ := draw_ok h3 (by omega) (show (0 : Int) < 10 by decide) (by decide)
    obtain ⟨k3, l3, h9, h10, h11, h12⟩ := draw_ok h7 (by omega) (show (0 : Int) < 1000000000000000000000000000000 by decide) (by decide)
    obtain ⟨k4, l4, h13, h14, h15, h16⟩ := draw_ok h11 (by omega) (show (0 : Int) < 4 by decide) (by decide)
    have n2 := h7.noL
    have n3 := h11.noL
    have n4 := h15.noL
    have hi := nm_in' a
    have hp : ∃ n : Nat, n < 10 ^ 30 ∧ atI ([.int 0, .int k2, .int k3, .int (1000000000000000000000000000000 - 1)] : List D) k4 = some (D.int (n : Nat)) := by
      have : k4 = 0 ∨ k4 = 1 ∨ k4 = 2 ∨ k4 = 3 := by omega
      rcases this with rfl | rfl | rfl | rfl
      · exact ⟨0, by decide, at0⟩
      · exact ⟨k2.toNat, by omega, by rw [Int.toNat_of_nonneg h5]; exact at1⟩
      · exact ⟨k3.toNat, by omega, by rw [Int.toNat_of_nonneg h9]; exact at2⟩
      · exact ⟨999999999999999999999999999999, by decide, at3⟩
    obtain ⟨n, hn, hp⟩ := hp
    simp only [Int.reduceSub] at hp
    refine ⟨.num a n, l4, hn, h15, ?_⟩
    unfold M_law_any_command Cmd.enc
    rw [dM_run (n := 1) rfl]; unfold B_law_any_command
    walk_at "ev"
  · have hi := pl_in a
    refine ⟨.pl a, l1, trivial, h3.mono (by omega), ?_⟩
    unfold M_law_any_command Cmd.enc
    rw [dM_run (n := 1) rfl]; unfold B_law_any_command
    walk_at "ev"
theorem any_plan_ok {N most : Nat} {l : List D} (h : Rg N l) (hN : N + 10 * most + 10 < 2 ^ 200) (hm : most < 1000) :
    ∃ (p : List Cmd) (l' : List D), p.length ≤ most ∧ (∀ c ∈ p, c.ok) ∧ Rg (N + 4 * most + 1) l' ∧ M_law_any_plan [.ol true l, .fz (.int (most : Nat))] = some (.nw (p.map Cmd.enc), [.ol true l', .fz (.int (most : Nat))]) := by
  obtain ⟨k, l1, h1, h2, h3, h4⟩ := draw_ok h (by omega) (show (0 : Int) < (most : Int) + 1 by omega) (by
    exact Nat.lt_of_lt_of_le (log2_lt (k := 60) (by decide) (by omega)) (by decide))
  have n1 := h3.noL
  have hloop := lc_inv (L := rangeD 0 k.toNat) (gf := gN 2) (fe := eCall1 M_law_any_command (aCons (eVar 0) aNil)) (vs := [2])
    (fun pr acc g => ∃ (p : List Cmd) (l' : List D), p.length = pr.length ∧ (∀ c ∈ p, c.ok) ∧ Rg (N + 1 + 4 * pr.length) l' ∧ acc = p.map Cmd.enc ∧ g = [.ol true l', .fz (.int (most : Nat)), .un])
    (l := rangeD 0 k.toNat) (pr := []) (acc := []) (g := [.ol true l1, .fz (.int (most : Nat)), .un]) rfl ⟨[], l1, rfl, by simp, h3, rfl, rfl⟩ (by
      rintro pr d rest acc g e ⟨p, l', q1, q2, q3, rfl, rfl⟩
      have hlen : pr.length < k.toNat := by
        have := congrArg List.length e
        simp [rangeD] at this
        omega
      obtain ⟨c, l2, c1, c2, c3⟩ := any_command_ok q3 (by omega)
      have c4 := c2.noL
      have c5 : noL c.enc = true := by cases c <;> rfl
      refine ⟨[.ol true l', .fz (.int (most : Nat)), .fz d], .d c.enc, [.ol true l2, .fz (.int (most : Nat)), .fz d], c.enc, [.ol true l2, .fz (.int (most : Nat)), .fz d], ?_, ?_, rfl, p ++ [c], l2, by simp [q1], ?_, ?_, by simp, rfl⟩
      · walk_at "ev"
      · walk_at "ev"
      · intro x hx
        rcases List.mem_append.mp hx with hx | hx
        · exact q2 x hx
        · rw [List.mem_singleton.mp hx]; exact c1
      · rw [List.length_append, List.length_singleton]; exact c2.mono (by omega))
  obtain ⟨out, g', e1, p, l', q1, q2, q3, q4, rfl⟩ := hloop
  rw [List.nil_append] at q4
  subst q4
  have hk : p.length = k.toNat := by rw [q1]; simp [rangeD]
  refine ⟨p, l', by omega, q2, q3.mono (by rw [← q1, hk]; omega), ?_⟩
  have hr := r1K_some (g := [.ol true l1, .fz (.int (most : Nat)), .un]) (n := k) ⟨by omega, by omega⟩
  have hc := lcK_some (gf := gN 2) (ft := tYesG) (fe := eCall1 M_law_any_command (aCons (eVar 0) aNil)) (vs := [2]) (g := [.ol true l1, .fz (.int (most : Nat)), .un]) (l := rangeD 0 k.toNat) rfl (by simp [rangeD]; omega)
  unfold M_law_any_plan
  rw [dM_run (n := 2) rfl]; unfold B_law_any_plan
  walk_at "ev"
end Sp

namespace Lw
open PySem L2 Sm
noncomputable def Bshow_command : G → Option O :=
  (sRet (eM1 joinD (eC (.str ((" " : String) : Str))) (eLc (iA (eVar 0)) (gN 1) tYesG (eCB strD (aCons (eVar 1) aNil)) [1])))
noncomputable abbrev Mshow_command : G → Option (R × G) := dM 1 2 Bshow_command
noncomputable def Bshow_pipeline : G → Option O :=
  (sRet (eIf (tst (eBin cNe (eVar 0) (eLst aNil))) (eM1 joinD (eC (.str ((" | " : String) : Str))) (eLc (iA (eVar 0)) (gN 1) tYesG (eCall0 Mshow_command (aCons (eVar 1) aNil)) [1])) (eC (.str (("-" : String) : Str)))))
noncomputable abbrev Mshow_pipeline : G → Option (R × G) := dM 1 2 Bshow_pipeline
noncomputable def Bis_number : G → Option O :=
  (sSeq (sIf (bOr (bNot (tst (eChain cLe cLe (eC (.int 1)) (eCB lenD (aCons (eVar 0) aNil)) (eC (.int 30))))) (bNot (tst (eCB allD (aCons (eLc (iA (eVar 0)) (gN 1) tYesG (eBin cIn (eVar 1) (eC (.str (("0123456789" : String) : Str)))) [1]) aNil))))) (sRet (eC (.bl false))) sNext)
  (sRet (eOr (eBin cEq (eVar 0) (eC (.str (("0" : String) : Str)))) (eBin cNe (eBin ixD (eVar 0) (eC (.int 0))) (eC (.str (("0" : String) : Str)))))))
noncomputable abbrev Mis_number : G → Option (R × G) := dM 1 2 Bis_number
noncomputable def Bread_command : G → Option O :=
  (sSeq (sIf (tst (eBin cIn (eVar 0) (eC (.tup [.str (("reverse" : String) : Str), .str (("uniq" : String) : Str), .str (("sort" : String) : Str)])))) (sRet (eTup (aCons (eVar 0) aNil))) sNext)
  (sSeq (sAsgT (gT 3 (gCons' (gN 1) (gCons' (gN 2) (gCons' (gN 3) gNil')))) (eM1 partD (eVar 0) (eC (.str ((" " : String) : Str)))))
  (sRet (eIf (bAnd (tst (eBin cIn (eVar 1) (eC (.tup [.str (("head" : String) : Str), .str (("tail" : String) : Str), .str (("skip" : String) : Str), .str (("chop" : String) : Str)])))) (tst (eCall0 Mis_number (aCons (eVar 3) aNil)))) (eTup (aCons (eVar 1) (aCons (eCB intD (aCons (eVar 3) aNil)) aNil))) (eC .non)))))
noncomputable abbrev Mread_command : G → Option (R × G) := dM 1 4 Bread_command
noncomputable def Bread_pipeline : G → Option O :=
  (sSeq (sIf (tst (eBin cEq (eVar 0) (eC (.str (("-" : String) : Str))))) (sRet (eLst aNil)) sNext)
  (sSeq (sAsg 1 (eLc (iA (eM1 splitD (eVar 0) (eC (.str ((" | " : String) : Str))))) (gN 2) tYesG (eCall0 Mread_command (aCons (eVar 2) aNil)) [2]))
  (sSeq (sIf (tst (eBin cIn (eC .non) (eVar 1))) sBad sNext)
  (sRet (eVar 1)))))
noncomputable abbrev Mread_pipeline : G → Option (R × G) := dM 1 3 Bread_pipeline
end Lw
namespace Sp
open PySem L2 TL Sm Lw
local macro_rules | `(tactic| walk_at "ev") => `(tactic| simp only [*, v_c, at0, at1, at2, ixn0, ixn1, ixn2, ixn03, ixn13, ixn23, List.drop_succ_cons, List.drop_zero,  v_var, varK_fz, varK_ol, v_bin, binK_some, binK2_some, binK3_some, valK_some, v_ldd, v_ldn, v_lds, ldK_ol, ldK_fz, v_frzd, v_frzn, v_frzs, frzK_ol, frzK_fz, v_frzs0, v_frzs1, frzsK_some, frzsK2_some, v_lds0, v_lds1, ldsK_some, ldsK2_some, v_anil, v_acons, aConsK_some, aConsK2_some, v_tup, tupK_some, tupK2_some, v_lst, lstK_some, lstK2_some,
  v_neg, negK_some, v_if, ifK_t, ifK_f, v_tst, tstK_some, v_band, v_bor, v_bnot, andK_t, andK_f, orK_t, orK_f, notK_some, v_and, v_or, v_not, andVK_t, andVK_f, orVK_t, orVK_f, notVK_some, v_chain, chK1_some, chK2_some, chK3_some, chK4_t, chK4_f, v_onone, v_osome, partK_some, v_sl, slK1_some, slK2_some, slK3_some, slK4_some, v_slL, v_slS, v_slT, v_slStr, v_rev, revK_some, revK2_l, v_cb, cbK_some, cbK2_some, v_m1, m1K_some, m1K2_some, m1K3_some,
  v_app, appK_ol, appK2_some, appK3_some, appK4_ol, v_pop, popK_ol, v_popAt, popAtK_ol, popAtK2_some, v_c0, c0K_some, c0K2_some, c0K3_some, c0K4_some, melt0, melt1, meltK_some, meltK2_ol, meltK2_fz, v_c1, c1K_some, c1K2_ol, c1K3_some, c1K4_some, c1K5_some, v_seq, seqK_nx, seqK_rt, seqK_ct, v_next, v_cont, v_expr, exprK_some, v_ret, retK_some, v_retN, v_asg, asgK_some, nxK_some, v_stN, v_stD, v_stS, stK_some, v_notT, notTK_fz, notTK_un, notTK_ol, v_sif, sifK_t, sifK_f,
  v_asgT, asgTK_some, asgTK2_some, v_gN, v_gT, v_gNil, v_gCons, gConsK_some, v_par, parK_some, parK2_some, v_aug, augK_fz, augK2_some, augK3_some, augK4_some, v_six, sixK_some, sixK2_some, sixK3_ol, sixK4_some, sixK5_ol, sixK6_some, v_for, forK_some, v_lc, v_yes, v_iL, v_iA, iLK_some, iAK_t, iAK_s, iAK_l, iAK_sls, iAK_sl, iAK_n, iLK2_l, iLK2_s, v_iR1, v_iR2, r2K_some, v_iEn, enK_some, outK_rt, outK_nx, outK2_some, v_rd, v_rn, v_rs, retRK_ol, retRK_fz,
  add_i, add_s, add_l, sub_i, mul_i, mod_i, div_i, pow_i, lt_i, le_i, gt_i, ge_i, eq_i, ne_i, eq_s, ne_s, is_n, isN_n, ix_l, ix_t, ix_s, len_l, len_s, len_t, len_str, abs_i, max_i, min_i, int_i, int_b, list_l, list_s, str_i, str_s, lent, noRs, noL, noLs, lcK2_some, lcL_nil, lcL_cons, lcT1_some, lcT2_t, lcT2_f, lcT3_some, lcT4_some, lcT5_some, forL_nil, forL_cons, turnK_some, turnK2_nx, turnK2_ct, turnK2_rt, wipeG, restG,
  uns, List.replicate_succ, List.replicate_zero, List.getElem?_cons_zero, List.getElem?_cons_succ, List.getElem?_nil, List.set_cons_zero, List.set_cons_succ, List.set_nil, List.length_cons, List.length_nil, List.map_cons, List.map_nil, List.cons_append, List.nil_append, List.append_nil, List.take_succ_cons, List.take_zero, List.take_nil, Option.map_some, Option.map_none, Option.getD_some, Option.getD_none, List.not_mem_nil, not_false_eq_true, List.mem_cons, or_false, false_or,
  Nat.reduceAdd, Nat.reduceSub, Nat.reduceLT, Nat.reduceLeDiff, Int.reduceLT, Int.reduceLE, Int.reduceAdd, Int.reduceSub, Int.reduceMul, Int.reducePow, Int.reduceToNat, Int.reduceNeg, Int.reduceEq, Nat.reduceMul, Nat.reducePow, Nat.zero_add, Nat.add_zero, Nat.reduceEqDiff, decide_true, decide_false, Bool.and_true, Bool.and_false, Bool.true_and, Bool.false_and, Bool.or_true, Bool.or_false, Bool.not_true, Bool.not_false, if_true, if_false, reduceIte, Bool.false_eq_true, and_true, true_and, and_false, false_and, and_self, reduceCtorEq, Bool.and_self, decide_eq_true_eq])

/-! ### the text of a command -/
def Cmd.show : Cmd → Str
  | .num a n => a.str ++ ((" " : String) : Str) ++ Str.ofString (toString ((n : Nat) : Int))
  | .pl a => a.str
theorem join1 (s a : Str) : Txt.join s [a] = a := by rw [join_eq]; rfl
theorem join2 (s a b : Str) : Txt.join s [a, b] = a ++ s ++ b := by rw [join_eq]; rfl
theorem nm_len (a : Nm) : a.str.length = 4 := by cases a <;> rfl
theorem pl_len (a : Pl) : 4 ≤ a.str.length ∧ a.str.length ≤ 7 := by cases a <;> exact ⟨by decide, by decide⟩
theorem nm_tl (a : Nm) : ∀ c ∈ tl a.str, 97 ≤ c ∧ c ≤ 122 := by cases a <;> decide
theorem pl_tl (a : Pl) : ∀ c ∈ tl a.str, 97 ≤ c ∧ c ≤ 122 := by cases a <;> decide
theorem tl_num_show (a : Nm) (n : Nat) : tl (Cmd.num a n).show = tl a.str ++ 32 :: numL n := by
  unfold Cmd.show
  rw [tl_append, tl_append, tl_num, List.append_assoc]
  rfl
theorem num_small {n : Nat} (h : n < 10 ^ 30) : (numL n).length ≤ 30 := numL_len (by decide) h
theorem show_len {c : Cmd} (h : c.ok) : 4 ≤ c.show.length ∧ c.show.length ≤ 35 := by
  cases c with
  | num a n =>
    have h1 := num_small h
    have h2 := nm_len a
    rw [len_tl] at h2 ⊢
    rw [tl_num_show, List.length_append, List.length_cons]
    omega
  | pl a => have := pl_len a; exact ⟨this.1, by have := this.2; show a.str.length ≤ 35; omega⟩
theorem show_tl (c : Cmd) : ∀ x ∈ tl c.show, x ≠ 124 := by
  cases c with
  | num a n =>
    rw [tl_num_show]
    intro x hx
    rcases List.mem_append.mp hx with hx | hx
    · have := nm_tl a x hx; omega
    · rcases List.mem_cons.mp hx with hx | hx
      · omega
      · have := numL_digits n x hx; omega
  | pl a => intro x hx; have := pl_tl a x hx; omega
theorem log30 {n : Nat} (h : n < 10 ^ 30) : ((n : Int)).natAbs.log2 < 1920 :=
  Nat.lt_of_lt_of_le (log2_lt (k := 100) (by decide) (by rw [Int.natAbs_natCast]; omega)) (by decide)
theorem show_command_ok {c : Cmd} (h : c.ok) : Mshow_command [.fz c.enc] = some (.d (.str c.show), [.fz c.enc]) := by
  cases c with
  | num a n =>
    have hl := log30 h
    have h1 := (show_len h).2
    have h2 := nm_len a
    have hj : joinD ((" " : String) : Str) (.lst [.str a.str, .str (Str.ofString (toString ((n : Nat) : Int)))]) = some (.d (.str (Cmd.show (.num a n)))) := by
      unfold joinD
      simp only [strsD, Option.map_some, Option.bind_some]
      rw [join2, if_pos]
      · rfl
      · have h3 : (Str.ofString (toString ((n : Nat) : Int))).length ≤ 30 := by rw [len_tl, tl_num]; exact num_small h
        have h4 : (((" " : String) : Str)).length = 1 := rfl
        simp only [List.map_cons, List.map_nil, List.sum_cons, List.sum_nil, List.length_cons, List.length_nil]
        omega
    have hc := lcK_some (gf := gN 1) (ft := tYesG) (fe := eCB strD (aCons (eVar 1) aNil)) (vs := [1]) (g := [.fz (Cmd.enc (.num a n)), .un]) (l := [.str a.str, .int (n : Nat)]) rfl (by simp)
    unfold Mshow_command
    rw [dM_run (n := 1) rfl]; unfold Bshow_command
    unfold Cmd.enc at *
    walk_at "ev"
  | pl a =>
    have hj : joinD ((" " : String) : Str) (.lst [.str a.str]) = some (.d (.str (Cmd.show (.pl a)))) := by
      unfold joinD
      simp only [strsD, Option.map_some, Option.bind_some]
      rw [join1, if_pos]
      · rfl
      · have h3 := pl_len a
        have h4 : (((" " : String) : Str)).length = 1 := rfl
        simp only [List.map_cons, List.map_nil, List.sum_cons, List.sum_nil, List.length_cons, List.length_nil]
        omega
    have hc := lcK_some (gf := gN 1) (ft := tYesG) (fe := eCB strD (aCons (eVar 1) aNil)) (vs := [1]) (g := [.fz (Cmd.enc (.pl a)), .un]) (l := [.str a.str]) rfl (by simp)
    unfold Mshow_command
    rw [dM_run (n := 1) rfl]; unfold Bshow_command
    unfold Cmd.enc at *
    walk_at "ev"
/-! ### the text of a plan -/
def shows (p : List Cmd) : Str := if p = [] then ("-" : String) else Txt.join (" | " : String) (p.map Cmd.show)
theorem shp_cmd (c : Cmd) : Shp 1 c.enc := by
  cases c with
  | num a n => exact shp_tup (n := 0) (shpL_cons (shp_str _ (strOk_of fun c hc => by have := nm_tl a c hc; omega)) (shpL_cons (shp_int _ _) (shpL_nil _)))
  | pl a => exact shp_tup (n := 0) (shpL_cons (shp_str _ (strOk_of fun c hc => by have := pl_tl a c hc; omega)) (shpL_nil _))
theorem shpL_cmds (p : List Cmd) : ShpL 1 (p.map Cmd.enc) := shpL_of fun d hd => by
  obtain ⟨c, _, rfl⟩ := List.mem_map.mp hd
  exact shp_cmd c
theorem shp_cmds (p : List Cmd) : Shp 2 (.lst (p.map Cmd.enc)) := shp_lst (shpL_cmds p)
theorem strs_of (l : List Str) : strsD (l.map D.str) = some l := by
  induction l with
  | nil => rfl
  | cons a l ih => simp only [List.map_cons, strsD, ih, Option.map_some]
theorem sum_le {l : List Str} {b : Nat} (h : ∀ s ∈ l, s.length ≤ b) : (l.map (·.length)).sum ≤ b * l.length := by
  induction l with
  | nil => simp
  | cons a l ih =>
    have h1 := h a (List.mem_cons_self ..)
    have h2 := ih fun s hs => h s (List.mem_cons_of_mem _ hs)
    rw [List.map_cons, List.sum_cons, List.length_cons, Nat.mul_succ]
    omega
theorem join_okD {s : Str} {l : List Str} {b : Nat} (h : ∀ s ∈ l, s.length ≤ b) (hb : b * l.length + l.length * s.length ≤ 16777216) : joinD s (.lst (l.map D.str)) = some (.d (.str (Txt.join s l))) := by
  unfold joinD
  simp only [strs_of, Option.bind_some]
  rw [if_pos]
  have := sum_le h
  omega
theorem show_pipeline_ok {p : List Cmd} (h : ∀ c ∈ p, c.ok) (hp : p.length ≤ 10000) : Mshow_pipeline [.fz (.lst (p.map Cmd.enc))] = some (.d (.str (shows p)), [.fz (.lst (p.map Cmd.enc))]) := by
  have hne := cNe_nil (n := 1) (by decide) (shpL_cmds p)
  unfold Mshow_pipeline
  rw [dM_run (n := 1) rfl]; unfold Bshow_pipeline
  by_cases he : p = []
  · subst he
    replace hne : cNe (.lst []) (.lst []) = some (.d (.bl false)) := hne
    simp only [List.map_nil]
    walk_at "ev"
    rfl
  · replace hne : cNe (.lst (p.map Cmd.enc)) (.lst []) = some (.d (.bl true)) := by
      rw [hne]
      cases p with
      | nil => exact absurd rfl he
      | cons c p => rfl
    have hm := lc_map (gf := gN 1) (fe := eCall0 Mshow_command (aCons (eVar 1) aNil)) (vs := [1]) (ι := Cmd.enc) (φ := fun c => .str c.show) (g := [.fz (.lst (p.map Cmd.enc)), .un]) (l := p) (by
      intro c hc
      have h1 := show_command_ok (h c hc)
      refine ⟨[.fz (.lst (p.map Cmd.enc)), .fz c.enc], .d (.str c.show), [.fz (.lst (p.map Cmd.enc)), .fz c.enc], [.fz (.lst (p.map Cmd.enc)), .fz c.enc], ?_, ?_, ?_, rfl⟩
      · walk_at "ev"
      · walk_at "ev"
      · rfl)
    have hc := lcK_some (gf := gN 1) (ft := tYesG) (fe := eCall0 Mshow_command (aCons (eVar 1) aNil)) (vs := [1]) (g := [.fz (.lst (p.map Cmd.enc)), .un]) (l := p.map Cmd.enc) rfl (by simp; omega)
    have hj := join_okD (s := ((" | " : String) : Str)) (l := p.map Cmd.show) (b := 35) (by
      intro s hs
      obtain ⟨c, hc, rfl⟩ := List.mem_map.mp hs
      exact (show_len (h c hc)).2) (by
      have : (((" | " : String) : Str)).length = 3 := rfl
      rw [List.length_map, this]; omega)
    rw [List.map_map] at hj
    have hs : shows p = Txt.join (" | " : String) (p.map Cmd.show) := by unfold shows; rw [if_neg he]
    rw [← hs] at hj
    clear hs
    replace hj : joinD ((" | " : String) : Str) (.lst (p.map fun c => D.str c.show)) = some (.d (.str (shows p))) := hj
    walk_at "ev"
end Sp

/-! ## reading what was written -/
namespace Sp
open PySem L2 TL Sm Lw
local macro_rules | `(tactic| walk_at "ev") => `(tactic| simp only [*, v_c, at0, at1, at2, ixn0, ixn1, ixn2, ixn03, ixn13, ixn23, List.drop_succ_cons, List.drop_zero,  v_var, varK_fz, varK_ol, v_bin, binK_some, binK2_some, binK3_some, valK_some, v_ldd, v_ldn, v_lds, ldK_ol, ldK_fz, v_frzd, v_frzn, v_frzs, frzK_ol, frzK_fz, v_frzs0, v_frzs1, frzsK_some, frzsK2_some, v_lds0, v_lds1, ldsK_some, ldsK2_some, v_anil, v_acons, aConsK_some, aConsK2_some, v_tup, tupK_some, tupK2_some, v_lst, lstK_some, lstK2_some,
  v_neg, negK_some, v_if, ifK_t, ifK_f, v_tst, tstK_some, v_band, v_bor, v_bnot, andK_t, andK_f, orK_t, orK_f, notK_some, v_and, v_or, v_not, andVK_t, andVK_f, orVK_t, orVK_f, notVK_some, v_chain, chK1_some, chK2_some, chK3_some, chK4_t, chK4_f, v_onone, v_osome, partK_some, v_sl, slK1_some, slK2_some, slK3_some, slK4_some, v_slL, v_slS, v_slT, v_slStr, v_rev, revK_some, revK2_l, v_cb, cbK_some, cbK2_some, v_m1, m1K_some, m1K2_some, m1K3_some,
  v_app, appK_ol, appK2_some, appK3_some, appK4_ol, v_pop, popK_ol, v_popAt, popAtK_ol, popAtK2_some, v_c0, c0K_some, c0K2_some, c0K3_some, c0K4_some, melt0, melt1, meltK_some, meltK2_ol, meltK2_fz, v_c1, c1K_some, c1K2_ol, c1K3_some, c1K4_some, c1K5_some, v_seq, seqK_nx, seqK_rt, seqK_ct, v_next, v_cont, v_expr, exprK_some, v_ret, retK_some, v_retN, v_asg, asgK_some, nxK_some, v_stN, v_stD, v_stS, stK_some, v_notT, notTK_fz, notTK_un, notTK_ol, v_sif, sifK_t, sifK_f,
  v_asgT, asgTK_some, asgTK2_some, v_gN, v_gT, v_gNil, v_gCons, gConsK_some, v_par, parK_some, parK2_some, v_aug, augK_fz, augK2_some, augK3_some, augK4_some, v_six, sixK_some, sixK2_some, sixK3_ol, sixK4_some, sixK5_ol, sixK6_some, v_for, forK_some, v_lc, v_yes, v_iL, v_iA, iLK_some, iAK_t, iAK_s, iAK_l, iAK_sls, iAK_sl, iAK_n, iLK2_l, iLK2_s, v_iR1, v_iR2, r2K_some, v_iEn, enK_some, outK_rt, outK_nx, outK2_some, v_rd, v_rn, v_rs, retRK_ol, retRK_fz,
  add_i, add_s, add_l, sub_i, mul_i, mod_i, div_i, pow_i, lt_i, le_i, gt_i, ge_i, eq_i, ne_i, eq_s, ne_s, is_n, isN_n, ix_l, ix_t, ix_s, len_l, len_s, len_t, len_str, abs_i, max_i, min_i, int_i, int_b, list_l, list_s, str_i, str_s, lent, noRs, noL, noLs, lcK2_some, lcL_nil, lcL_cons, lcT1_some, lcT2_t, lcT2_f, lcT3_some, lcT4_some, lcT5_some, forL_nil, forL_cons, turnK_some, turnK2_nx, turnK2_ct, turnK2_rt, wipeG, restG,
  uns, List.replicate_succ, List.replicate_zero, List.getElem?_cons_zero, List.getElem?_cons_succ, List.getElem?_nil, List.set_cons_zero, List.set_cons_succ, List.set_nil, List.length_cons, List.length_nil, List.map_cons, List.map_nil, List.cons_append, List.nil_append, List.append_nil, List.take_succ_cons, List.take_zero, List.take_nil, Option.map_some, Option.map_none, Option.getD_some, Option.getD_none, List.not_mem_nil, not_false_eq_true, List.mem_cons, or_false, false_or,
  Nat.reduceAdd, Nat.reduceSub, Nat.reduceLT, Nat.reduceLeDiff, Int.reduceLT, Int.reduceLE, Int.reduceAdd, Int.reduceSub, Int.reduceMul, Int.reducePow, Int.reduceToNat, Int.reduceNeg, Int.reduceEq, Nat.reduceMul, Nat.reducePow, Nat.zero_add, Nat.add_zero, Nat.reduceEqDiff, decide_true, decide_false, Bool.and_true, Bool.and_false, Bool.true_and, Bool.false_and, Bool.or_true, Bool.or_false, Bool.not_true, Bool.not_false, if_true, if_false, reduceIte, Bool.false_eq_true, and_true, true_and, and_false, false_and, and_self, reduceCtorEq, Bool.and_self, decide_eq_true_eq])

theorem ix_str0 {s : Str} {c : Nat} {r : List Nat} (h : tl s = c :: r) (hl : s.length ≤ sizeLine) : ixD (.str s) (.int 0) = some (.d (.str ⟨#[c]⟩)) := by
  unfold ixD
  dsimp only
  rw [if_pos hl]
  have e : atI s.cps.toList 0 = some c := by
    show atI (tl s) 0 = some c
    rw [h]
    unfold atI
    rw [show (c :: r).length = r.length + 1 from rfl, ixn0]
    rfl
  rw [e]
  rfl
theorem numL_head {n : Nat} (h : 0 < n) : ∃ c r, numL n = c :: r ∧ 49 ≤ c ∧ c ≤ 57 := by
  induction n using Nat.strongRecOn with
  | _ n ih =>
    by_cases h1 : n < 10
    · exact ⟨48 + n, [], numL_lt h1, by omega, by omega⟩
    · obtain ⟨c, r, e, h2, h3⟩ := ih (n / 10) (by omega) (by omega)
      exact ⟨c, r ++ [48 + n % 10], by rw [numL_step (by omega), e]; rfl, h2, h3⟩
theorem num_zero : numL 0 = [48] := numL_lt (by decide)
/-- a sign among the ten digits -/
theorem dig_in {c : Nat} (h : 48 ≤ c ∧ c ≤ 57) : cIn (.str ⟨#[c]⟩) (.str (("0123456789" : String) : Str)) = some (.d (.bl true)) := by
  have e : tl (("0123456789" : String) : Str) = [48, 49, 50, 51, 52, 53, 54, 55, 56, 57] := rfl
  unfold cIn inD
  dsimp only
  rw [if_pos (show (⟨#[c]⟩ : Str).length = 1 from rfl)]
  have : decide ((⟨#[c]⟩ : Str).cps.toList.getD 0 0 ∈ (("0123456789" : String) : Str).cps.toList) = true := by
    refine decide_eq_true ?_
    show c ∈ tl (("0123456789" : String) : Str)
    rw [e]
    have : c = 48 ∨ c = 49 ∨ c = 50 ∨ c = 51 ∨ c = 52 ∨ c = 53 ∨ c = 54 ∨ c = 55 ∨ c = 56 ∨ c = 57 := by omega
    rcases this with rfl | rfl | rfl | rfl | rfl | rfl | rfl | rfl | rfl | rfl <;> decide
  rw [this]
  rfl
theorem bls_of (l : List Bool) : blsD (l.map D.bl) = some l := by
  induction l with
  | nil => rfl
  | cons a l ih => simp only [List.map_cons, blsD, ih, Option.map_some]
theorem is_number_ok {s : Str} {n : Nat} (hs : tl s = numL n) (h : n < 10 ^ 30) : Mis_number [.fz (.str s)] = some (.d (.bl true), [.fz (.str s)]) := by
  have h1 := num_small h
  have h2 : s.length = (numL n).length := by rw [len_tl, hs]
  have h3 : 1 ≤ s.length := by
    rw [h2]
    cases hl : numL n with
    | nil => exact absurd hl (numL_ne n)
    | cons c r => simp
  have h4 : s.length ≤ sizeLine := by unfold sizeLine; omega
  have h5 : (1 : Int) ≤ (s.length : Int) := by omega
  have h6 : (s.length : Int) ≤ 30 := by omega
  have hm := lc_map (gf := gN 1) (fe := eBin cIn (eVar 1) (eC (.str (("0123456789" : String) : Str)))) (vs := [1]) (ι := fun x => .str ⟨#[x]⟩) (φ := fun _ => .bl true) (g := [.fz (.str s), .un]) (l := s.cps.toList) (by
    intro c hc
    have hd := numL_digits n c (by rw [← hs]; exact hc)
    have hi := dig_in hd
    refine ⟨[.fz (.str s), .fz (.str ⟨#[c]⟩)], .d (.bl true), [.fz (.str s), .fz (.str ⟨#[c]⟩)], [.fz (.str s), .fz (.str ⟨#[c]⟩)], ?_, ?_, rfl, rfl⟩
    · walk_at "ev"
    · walk_at "ev")
  have hc := lcK_some (gf := gN 1) (ft := tYesG) (fe := eBin cIn (eVar 1) (eC (.str (("0123456789" : String) : Str)))) (vs := [1]) (g := [.fz (.str s), .un]) (l := s.cps.toList.map fun x => .str ⟨#[x]⟩) rfl (by
    rw [List.length_map]; show (tl s).length ≤ 100000; rw [← len_tl]; omega)
  have ha : allD [.lst (s.cps.toList.map fun _ => D.bl true)] = some (.d (.bl true)) := by
    unfold allD
    have e : (s.cps.toList.map fun _ => D.bl true) = (s.cps.toList.map fun _ => true).map D.bl := by rw [List.map_map]; rfl
    rw [e]
    dsimp only
    rw [bls_of]
    simp
  unfold Mis_number
  rw [dM_run (n := 1) rfl]; unfold Bis_number
  by_cases hz : n = 0
  · subst hz
    have hs0 : s = (("0" : String) : Str) := ext_tl (by rw [hs, num_zero]; rfl)
    have ez : cEq (.str s) (.str (("0" : String) : Str)) = some (.d (.bl true)) := by rw [eq_s, decide_eq_true hs0]
    clear hs0 h2 hs
    walk_at "ev"
  · obtain ⟨c, r, e, h7, h8⟩ := numL_head (n := n) (by omega)
    have hne : s ≠ (("0" : String) : Str) := fun hh => by
      have := congrArg tl hh
      rw [hs, e] at this
      have h9 : tl (("0" : String) : Str) = [48] := rfl
      rw [h9] at this
      injection this with h10 _
      omega
    have ez : cEq (.str s) (.str (("0" : String) : Str)) = some (.d (.bl false)) := by rw [eq_s, decide_eq_false hne]
    have hx := ix_str0 (hs.trans e) h4
    have hcn : (⟨#[c]⟩ : Str) ≠ (("0" : String) : Str) := fun hh => by
      have := congrArg tl hh
      have h9 : tl (("0" : String) : Str) = [48] := rfl
      rw [h9] at this
      injection this with h10 _
      omega
    have en : cNe (.str ⟨#[c]⟩) (.str (("0" : String) : Str)) = some (.d (.bl true)) := by rw [ne_s, decide_eq_false hcn]; rfl
    clear hcn hne h2 hs e
    walk_at "ev"
theorem plt_out {s : Str} (h : 32 ∈ tl s) : cIn (.str s) PLT = some (.d (.bl false)) := by
  have hn : ∀ a : Pl, ¬ (a.str = s) := fun a e => by
    subst e
    have := pl_tl a 32 h
    omega
  unfold cIn inD
  dsimp only
  rw [if_pos ⟨rfl, rfl⟩]
  have h1 : (Pl.reverse.str == s) = false := by rw [beq_eq_false_iff_ne]; exact hn _
  have h2 : (Pl.uniq.str == s) = false := by rw [beq_eq_false_iff_ne]; exact hn _
  have h3 : (Pl.sort.str == s) = false := by rw [beq_eq_false_iff_ne]; exact hn _
  have e : inF (.str s) [.str Pl.reverse.str, .str Pl.uniq.str, .str Pl.sort.str] = false := by
    simp only [inF, List.any_cons, List.any_nil, eqF, h1, h2, h3, Bool.or_false]
  show Option.map _ (some (inF (.str s) [.str Pl.reverse.str, .str Pl.uniq.str, .str Pl.sort.str])) = _
  rw [e]
  rfl
theorem read_command_ok {c : Cmd} (h : c.ok) : Mread_command [.fz (.str c.show)] = some (.d c.enc, [.fz (.str c.show)]) := by
  unfold Mread_command
  rw [dM_run (n := 1) rfl]; unfold Bread_command
  cases c with
  | num a n =>
    have hl := show_len h
    have ho : cIn (.str (Cmd.num a n).show) PLT = some (.d (.bl false)) := plt_out (by rw [tl_num_show]; simp)
    have hp : partD (Cmd.num a n).show (.str ((" " : String) : Str)) = some (.d (.tup [.str a.str, .str ((" " : String) : Str), .str (Str.ofString (toString ((n : Nat) : Int)))])) := by
      unfold partD
      dsimp only
      rw [if_pos ⟨rfl, by unfold sizeLine; omega⟩]
      have e := partition_app (y := ((" " : String) : Str)) (s := 32) (S := []) rfl (a := a.str) (b := Str.ofString (toString ((n : Nat) : Int))) (fun hm => by have := nm_tl a 32 hm; omega)
      unfold Cmd.show
      rw [e]
    have hn := is_number_ok (s := Str.ofString (toString ((n : Nat) : Int))) (tl_num n) h
    have hi : intD [.str (Str.ofString (toString ((n : Nat) : Int)))] = some (.d (.int (n : Nat))) := by
      have h1 := num_small h
      unfold intD
      dsimp only
      rw [if_pos (by rw [len_tl, tl_num]; omega), int_num (by omega)]
      rfl
    have hin := nm_in a
    unfold Cmd.enc
    walk_at "ev"
  | pl a =>
    have hi : cIn (.str (Cmd.pl a).show) PLT = some (.d (.bl true)) := pl_in a
    unfold Cmd.enc
    walk_at "ev"
    rfl
end Sp

/-! ## plans, read back -/
namespace Sp
open PySem L2 TL Sm Lw
local macro_rules | `(tactic| walk_at "ev") => `(tactic| simp only [*, v_c, at0, at1, at2, ixn0, ixn1, ixn2, ixn03, ixn13, ixn23, List.drop_succ_cons, List.drop_zero,  v_var, varK_fz, varK_ol, v_bin, binK_some, binK2_some, binK3_some, valK_some, v_ldd, v_ldn, v_lds, ldK_ol, ldK_fz, v_frzd, v_frzn, v_frzs, frzK_ol, frzK_fz, v_frzs0, v_frzs1, frzsK_some, frzsK2_some, v_lds0, v_lds1, ldsK_some, ldsK2_some, v_anil, v_acons, aConsK_some, aConsK2_some, v_tup, tupK_some, tupK2_some, v_lst, lstK_some, lstK2_some,
  v_neg, negK_some, v_if, ifK_t, ifK_f, v_tst, tstK_some, v_band, v_bor, v_bnot, andK_t, andK_f, orK_t, orK_f, notK_some, v_and, v_or, v_not, andVK_t, andVK_f, orVK_t, orVK_f, notVK_some, v_chain, chK1_some, chK2_some, chK3_some, chK4_t, chK4_f, v_onone, v_osome, partK_some, v_sl, slK1_some, slK2_some, slK3_some, slK4_some, v_slL, v_slS, v_slT, v_slStr, v_rev, revK_some, revK2_l, v_cb, cbK_some, cbK2_some, v_m1, m1K_some, m1K2_some, m1K3_some,
  v_app, appK_ol, appK2_some, appK3_some, appK4_ol, v_pop, popK_ol, v_popAt, popAtK_ol, popAtK2_some, v_c0, c0K_some, c0K2_some, c0K3_some, c0K4_some, melt0, melt1, meltK_some, meltK2_ol, meltK2_fz, v_c1, c1K_some, c1K2_ol, c1K3_some, c1K4_some, c1K5_some, v_seq, seqK_nx, seqK_rt, seqK_ct, v_next, v_cont, v_expr, exprK_some, v_ret, retK_some, v_retN, v_asg, asgK_some, nxK_some, v_stN, v_stD, v_stS, stK_some, v_notT, notTK_fz, notTK_un, notTK_ol, v_sif, sifK_t, sifK_f,
  v_asgT, asgTK_some, asgTK2_some, v_gN, v_gT, v_gNil, v_gCons, gConsK_some, v_par, parK_some, parK2_some, v_aug, augK_fz, augK2_some, augK3_some, augK4_some, v_six, sixK_some, sixK2_some, sixK3_ol, sixK4_some, sixK5_ol, sixK6_some, v_for, forK_some, v_lc, v_yes, v_iL, v_iA, iLK_some, iAK_t, iAK_s, iAK_l, iAK_sls, iAK_sl, iAK_n, iLK2_l, iLK2_s, v_iR1, v_iR2, r2K_some, v_iEn, enK_some, outK_rt, outK_nx, outK2_some, v_rd, v_rn, v_rs, retRK_ol, retRK_fz,
  add_i, add_s, add_l, sub_i, mul_i, mod_i, div_i, pow_i, lt_i, le_i, gt_i, ge_i, eq_i, ne_i, eq_s, ne_s, is_n, isN_n, ix_l, ix_t, ix_s, len_l, len_s, len_t, len_str, abs_i, max_i, min_i, int_i, int_b, list_l, list_s, str_i, str_s, lent, noRs, noL, noLs, lcK2_some, lcL_nil, lcL_cons, lcT1_some, lcT2_t, lcT2_f, lcT3_some, lcT4_some, lcT5_some, forL_nil, forL_cons, turnK_some, turnK2_nx, turnK2_ct, turnK2_rt, wipeG, restG,
  uns, List.replicate_succ, List.replicate_zero, List.getElem?_cons_zero, List.getElem?_cons_succ, List.getElem?_nil, List.set_cons_zero, List.set_cons_succ, List.set_nil, List.length_cons, List.length_nil, List.map_cons, List.map_nil, List.cons_append, List.nil_append, List.append_nil, List.take_succ_cons, List.take_zero, List.take_nil, Option.map_some, Option.map_none, Option.getD_some, Option.getD_none, List.not_mem_nil, not_false_eq_true, List.mem_cons, or_false, false_or,
  Nat.reduceAdd, Nat.reduceSub, Nat.reduceLT, Nat.reduceLeDiff, Int.reduceLT, Int.reduceLE, Int.reduceAdd, Int.reduceSub, Int.reduceMul, Int.reducePow, Int.reduceToNat, Int.reduceNeg, Int.reduceEq, Nat.reduceMul, Nat.reducePow, Nat.zero_add, Nat.add_zero, Nat.reduceEqDiff, decide_true, decide_false, Bool.and_true, Bool.and_false, Bool.true_and, Bool.false_and, Bool.or_true, Bool.or_false, Bool.not_true, Bool.not_false, if_true, if_false, reduceIte, Bool.false_eq_true, and_true, true_and, and_false, false_and, and_self, reduceCtorEq, Bool.and_self, decide_eq_true_eq])

abbrev BARL : List Nat := [32, 124, 32]
abbrev BAR : Str := ((" | " : String) : Str)
theorem bar_tl : tl BAR = BARL := rfl
theorem bar_free {p q : List Nat} (h : ∀ x ∈ p, x ≠ 124) (hq : ∀ r, q ≠ 124 :: r) : ∀ i, i < p.length → pre BARL ((p ++ q).drop i) = false := fun i hi => by
  obtain ⟨c, hc⟩ := getElem_drop_cons (L := p) hi
  rw [List.drop_append_of_le_length (by omega), hc]
  unfold pre
  show (List.take 3 (c :: (p.drop (i + 1) ++ q)) == BARL) = false
  rw [beq_eq_false_iff_ne]
  intro e
  rw [List.take_succ_cons] at e
  injection e with _ e
  cases hd : p.drop (i + 1) with
  | nil =>
    rw [hd, List.nil_append] at e
    cases q with
    | nil => cases e
    | cons a q =>
      rw [List.take_succ_cons] at e
      injection e with e _
      exact hq q (by rw [e])
  | cons a r =>
    rw [hd, List.cons_append, List.take_succ_cons] at e
    injection e with e _
    exact h a (List.mem_of_mem_drop (i := i + 1) (by rw [hd]; exact List.mem_cons_self ..)) e
theorem bar_split : ∀ {parts : List (List Nat)}, parts ≠ [] → (∀ p ∈ parts, ∀ x ∈ p, x ≠ 124) → spl BARL 0 [] (joinL BARL parts) = parts
  | [], h, _ => absurd rfl h
  | [p], _, h => by
    show spl BARL 0 [] p = [p]
    have hf := bar_free (q := []) (h p (List.mem_cons_self ..)) (fun r e => nomatch e)
    rw [spl_last (fun i hi => by have := hf i hi; rwa [List.append_nil] at this), List.nil_append]
  | p :: q :: r, _, h => by
    show spl BARL 0 [] (p ++ (BARL ++ joinL BARL (q :: r))) = p :: q :: r
    rw [spl_part (by simp) (bar_free (h p (List.mem_cons_self ..)) (fun r e => by cases e)), List.nil_append, bar_split (by simp) fun z hz => h z (List.mem_cons_of_mem _ hz)]
theorem split_bar {parts : List Str} (hne : parts ≠ []) (hp : ∀ p ∈ parts, ∀ x ∈ tl p, x ≠ 124) : Txt.split (Txt.join BAR parts) BAR = parts := by
  refine map_tl_inj ?_
  rw [split_spl _ BAR (by rw [bar_tl]; simp) (kind_ok (by rw [← Array.all_toList]; rfl)), join_eq, tl_join, bar_tl]
  refine bar_split (fun e => hne (List.map_eq_nil_iff.mp e)) fun p h => ?_
  obtain ⟨z, hz, rfl⟩ := List.mem_map.mp h
  exact hp z hz
theorem shows_split {p : List Cmd} (h : p ≠ []) : Txt.split (shows p) BAR = p.map Cmd.show := by
  unfold shows
  rw [if_neg h]
  refine split_bar (fun e => h (List.map_eq_nil_iff.mp e)) fun s hs => ?_
  obtain ⟨c, _, rfl⟩ := List.mem_map.mp hs
  exact show_tl c
theorem shows_tl {p : List Cmd} (h : p ≠ []) : tl (shows p) = joinL BARL (p.map fun c => tl c.show) := by
  unfold shows
  rw [if_neg h, join_eq, tl_join, bar_tl, List.map_map]
  rfl
theorem joinL_len {S : List Nat} {b : Nat} : ∀ {parts : List (List Nat)}, (∀ p ∈ parts, p.length ≤ b) → (joinL S parts).length ≤ (b + S.length) * parts.length
  | [], _ => by simp [joinL]
  | [p], h => by have := h p (List.mem_cons_self ..); simp [joinL]; omega
  | p :: q :: r, h => by
    have h1 := h p (List.mem_cons_self ..)
    have h2 := joinL_len (S := S) (parts := q :: r) fun z hz => h z (List.mem_cons_of_mem _ hz)
    simp only [joinL, List.length_append] at h2 ⊢
    rw [List.length_cons, Nat.mul_succ]
    omega
theorem shows_len {p : List Cmd} (h : ∀ c ∈ p, c.ok) : (shows p).length ≤ 38 * p.length + 1 := by
  by_cases he : p = []
  · subst he; exact (by decide : (((("-" : String) : Str)).length ≤ 38 * 0 + 1))
  · rw [len_tl, shows_tl he]
    have := joinL_len (S := BARL) (b := 35) (parts := p.map fun c => tl c.show) (by
      intro x hx
      obtain ⟨c, hc, rfl⟩ := List.mem_map.mp hx
      rw [← len_tl]
      exact (show_len (h c hc)).2)
    rw [List.length_map, show BARL.length = 3 from rfl] at this
    omega
theorem joinL_head {S : List Nat} {a : List Nat} {r : List (List Nat)} : ∃ z, joinL S (a :: r) = a ++ z := by
  cases r with
  | nil => exact ⟨[], by simp [joinL]⟩
  | cons b r => exact ⟨_, rfl⟩
theorem shows_dash {p : List Cmd} (hp : p ≠ []) (h : ∀ c ∈ p, c.ok) : shows p ≠ (("-" : String) : Str) := fun e => by
  have h1 := congrArg tl e
  rw [shows_tl hp] at h1
  cases p with
  | nil => exact hp rfl
  | cons c p =>
    obtain ⟨z, hz⟩ := joinL_head (S := BARL) (a := tl c.show) (r := p.map fun c => tl c.show)
    rw [List.map_cons, hz] at h1
    have h2 := (show_len (h c (List.mem_cons_self ..))).1
    rw [len_tl] at h2
    have h3 := congrArg List.length h1
    rw [List.length_append, show (tl (("-" : String) : Str)).length = 1 from rfl] at h3
    omega
theorem non_in (p : List Cmd) : cIn .non (.lst (p.map Cmd.enc)) = some (.d (.bl false)) := by
  cases p with
  | nil => rfl
  | cons c p =>
    have hf : ¬ (flatD .non = true ∧ ((c :: p).map Cmd.enc).all flatD = true) := by
      rw [List.map_cons, List.all_cons]
      cases c <;> simp [Cmd.enc, flatD]
    unfold cIn inD
    dsimp only
    rw [if_neg hf]
    obtain ⟨q, h1, h2, h3⟩ := shpL_cmds (c :: p)
    unfold inDt
    rw [h1]
    have e : pyOf .non = some .none := rfl
    rw [e]
    dsimp only
    rw [if_pos ⟨rfl, shp_ok (n := 2) (by decide) (d := .lst ((c :: p).map Cmd.enc)) (by simp only [pyOf, h1, Option.map_some]) (by simpa [PyData.canLay0] using h2) (by simp [PyData.depth]; omega)⟩]
    have hz : (q.any fun z => PyData.eqv z .none) = false := by
      clear h2 h3 hf e
      generalize (c :: p) = l at h1
      induction l generalizing q with
      | nil => cases h1; rfl
      | cons a l ih =>
        simp only [List.map_cons, pyAll] at h1
        obtain ⟨x, hx, h4⟩ := Option.bind_eq_some_iff.mp h1
        obtain ⟨y, hy, h5⟩ := Option.map_eq_some_iff.mp h4
        subst h5
        rw [List.any_cons, ih y hy, Bool.or_false]
        cases a <;> (simp only [Cmd.enc, pyOf] at hx; obtain ⟨w, _, hw⟩ := Option.map_eq_some_iff.mp hx; subst hw; rfl)
    rw [hz]
    rfl
theorem split_okD {p : List Cmd} (hp : p ≠ []) (h : ∀ c ∈ p, c.ok) (hl : p.length ≤ 10000) : splitD (shows p) (.str BAR) = some (.nw (p.map fun c => .str c.show)) := by
  unfold splitD
  dsimp only
  rw [if_pos ⟨rfl, by have := shows_len h; unfold sizeLine; omega⟩, shows_split hp, List.map_map]
  rfl
theorem shows_nil : shows [] = (("-" : String) : Str) := rfl
theorem read_pipeline_ok {p : List Cmd} (h : ∀ c ∈ p, c.ok) (hl : p.length ≤ 10000) : Mread_pipeline [.fz (.str (shows p))] = some (.nw (p.map Cmd.enc), [.fz (.str (shows p))]) := by
  unfold Mread_pipeline
  rw [dM_run (n := 1) rfl]; unfold Bread_pipeline
  by_cases he : p = []
  · subst he
    have hq : cEq (.str (shows [])) (.str (("-" : String) : Str)) = some (.d (.bl true)) := by rw [eq_s, decide_eq_true shows_nil]
    walk_at "ev"
  · have hq : cEq (.str (shows p)) (.str (("-" : String) : Str)) = some (.d (.bl false)) := by rw [eq_s, decide_eq_false (shows_dash he h)]
    have hs := split_okD he h hl
    have hm := lc_map (gf := gN 2) (fe := eCall0 Mread_command (aCons (eVar 2) aNil)) (vs := [2]) (ι := fun c : Cmd => .str c.show) (φ := Cmd.enc) (g := [.fz (.str (shows p)), .un, .un]) (l := p) (by
      intro c hc
      have h1 := read_command_ok (h c hc)
      have h2 : noL c.enc = true := by cases c <;> rfl
      refine ⟨[.fz (.str (shows p)), .un, .fz (.str c.show)], .d c.enc, [.fz (.str (shows p)), .un, .fz (.str c.show)], [.fz (.str (shows p)), .un, .fz (.str c.show)], ?_, ?_, ?_, rfl⟩
      · walk_at "ev"
      · walk_at "ev"
      · rfl)
    have hc := lcK_some (gf := gN 2) (ft := tYesG) (fe := eCall0 Mread_command (aCons (eVar 2) aNil)) (vs := [2]) (g := [.fz (.str (shows p)), .un, .un]) (l := p.map fun c : Cmd => .str c.show) rfl (by simp; omega)
    have hn := non_in p
    walk_at "ev"
theorem joinL_app {S : List Nat} : ∀ {a b : List (List Nat)}, a ≠ [] → b ≠ [] → joinL S (a ++ b) = joinL S a ++ (S ++ joinL S b)
  | [], _, h, _ => absurd rfl h
  | [x], [], _, h => absurd rfl h
  | [x], y :: b, _, _ => rfl
  | x :: y :: a, b, _, h => by
    show x ++ (S ++ joinL S (y :: a ++ b)) = (x ++ (S ++ joinL S (y :: a))) ++ _
    rw [joinL_app (by simp) h, List.append_assoc, List.append_assoc]
theorem starts_of {x y : Str} {r : List Nat} (h : tl x = tl y ++ r) : Txt.startswith x y = true := by
  have h1 : x.length = y.length + r.length := by rw [len_tl, len_tl, h, List.length_append]
  unfold Txt.startswith
  rw [Bool.and_eq_true]
  refine ⟨decide_eq_true (by omega), ?_⟩
  rw [StrLaws.subAt_eq]
  show ((List.drop 0 (tl x)).take y.length == tl y) = true
  rw [List.drop_zero, h, len_tl, List.take_left, beq_self_eq_true]
theorem shows_app {p q : List Cmd} (hp : p ≠ []) (hq : q ≠ []) : shows (p ++ q) = Txt.join BAR [shows p, shows q] := by
  refine ext_tl ?_
  rw [shows_tl (by simp [hp]), join2, tl_append, tl_append, shows_tl hp, shows_tl hq, bar_tl, List.map_append, joinL_app (by simp [hp]) (by simp [hq]), List.append_assoc]
theorem shows_starts {p q : List Cmd} (hp : p ≠ []) : Txt.startswith (shows (p ++ q)) (shows p) = true := by
  by_cases hq : q = []
  · subst hq
    rw [List.append_nil]
    exact starts_of (r := []) (by rw [List.append_nil])
  · exact starts_of (r := BARL ++ joinL BARL (q.map fun c => tl c.show)) (by
      rw [shows_tl (by simp [hp]), shows_tl hp, List.map_append, joinL_app (by simp [hp]) (by simp [hq])])
end Sp

namespace Lw
open PySem L2 Sm
def top (i : Nat) : Stmt := PySem.Challenge.pw_pipeform_k45_whole_joined_texts.main.body.getD i (.Pass ⟨0, 0, 0, 0⟩)
abbrev stshow_command : Stmt := top 3
abbrev stshow_pipeline : Stmt := top 4
abbrev stis_number : Stmt := top 20
abbrev stread_command : Stmt := top 21
abbrev stread_pipeline : Stmt := top 22
abbrev st_law_rng : Stmt := top 24
abbrev st_law_draw : Stmt := top 25
abbrev st_law_any_command : Stmt := top 26
abbrev st_law_any_plan : Stmt := top 27
abbrev stlaw : Stmt := top 28
noncomputable def Blaw : G → Option O :=
  (sSeq (sAsg 1 (eCall0 M_law_rng (aCons (eVar 0) aNil)))
  (sSeq (sFor (iR1 (eBin addD (eC (.int 12)) (eCB minD (aCons (eC (.int 12)) (aCons (eCB lenD (aCons (eVar 0) aNil)) aNil))))) (gN 2) (sSeq (sPar 3 4 (aCons (eCall1 M_law_any_plan (aCons (eVar 1) (aCons (eC (.int 6)) aNil))) (aCons (eCall1 M_law_any_plan (aCons (eVar 1) (aCons (eC (.int 6)) aNil))) aNil)))
  (sSeq (sAsg 5 (eLc (iA (eLst (aCons (eVar 3) (aCons (eVar 4) aNil)))) (gN 8) (tst (eBin cNe (eVar 8) (eLst aNil))) (eCall0 Mshow_pipeline (aCons (eVar 8) aNil)) [8]))
  (sSeq (sAsg 6 (eIf (tst (eBin cNe (eVar 5) (eLst aNil))) (eM1 joinD (eC (.str ((" | " : String) : Str))) (eVar 5)) (eC (.str (("-" : String) : Str)))))
  (sSeq (sIf (bOr (tst (eBin cNe (eCall0 Mshow_pipeline (aCons (eBin addD (eVar 3) (eVar 4)) aNil)) (eVar 6))) (tst (eBin cNe (eCall0 Mread_pipeline (aCons (eVar 6) aNil)) (eBin addD (eVar 3) (eVar 4))))) (sRet (eC (.bl false))) sNext)
  (sSeq (sFor (iR2 (eC (.int 1)) (eBin addD (eCB lenD (aCons (eVar 3) aNil)) (eC (.int 1)))) (gN 7) (sIf (bNot (tst (eM1 startsD (eVar 6) (eCall0 Mshow_pipeline (aCons (eSl (eVar 3) oNone (oSome (eVar 7))) aNil))))) (sRet (eC (.bl false))) sNext))
  (sIf (bAnd (tst (eBin cGt (eCB lenD (aCons (eVar 3) aNil)) (eC (.int 0)))) (tst (eBin cNe (eBin ixD (eM1 splitD (eVar 6) (eC (.str ((" | " : String) : Str)))) (eC (.int 0))) (eCall0 Mshow_pipeline (aCons (eSl (eVar 3) oNone (oSome (eC (.int 1)))) aNil))))) (sRet (eC (.bl false))) sNext)))))))
  (sRet (eC (.bl true)))))
noncomputable abbrev Mlaw : G → Option (R × G) := dM 1 9 Blaw
structure Txt (K : PySem.W.Frag) (mg : Str → Option Value) where
  ashow_command : Addr
  dshow_command : FuncData
  Fshow_command : Fun K "show_command" "show_command" stshow_command ashow_command dshow_command
  gshow_command : mg "show_command" = some (.ref ashow_command)
  nshow_command : Binds K dshow_command ["command"] []
  ashow_pipeline : Addr
  dshow_pipeline : FuncData
  Fshow_pipeline : Fun K "show_pipeline" "show_pipeline" stshow_pipeline ashow_pipeline dshow_pipeline
  gshow_pipeline : mg "show_pipeline" = some (.ref ashow_pipeline)
  nshow_pipeline : Binds K dshow_pipeline ["pipeline"] []
  ais_number : Addr
  dis_number : FuncData
  Fis_number : Fun K "is_number" "is_number" stis_number ais_number dis_number
  gis_number : mg "is_number" = some (.ref ais_number)
  nis_number : Binds K dis_number ["word"] []
  aread_command : Addr
  dread_command : FuncData
  Fread_command : Fun K "read_command" "read_command" stread_command aread_command dread_command
  gread_command : mg "read_command" = some (.ref aread_command)
  nread_command : Binds K dread_command ["text"] []
  aread_pipeline : Addr
  dread_pipeline : FuncData
  Fread_pipeline : Fun K "read_pipeline" "read_pipeline" stread_pipeline aread_pipeline dread_pipeline
  gread_pipeline : mg "read_pipeline" = some (.ref aread_pipeline)
  nread_pipeline : Binds K dread_pipeline ["text"] []
  a_law_rng : Addr
  d_law_rng : FuncData
  F_law_rng : Fun K "_law_rng" "_law_rng" st_law_rng a_law_rng d_law_rng
  g_law_rng : mg "_law_rng" = some (.ref a_law_rng)
  n_law_rng : Binds K d_law_rng ["script"] []
  a_law_draw : Addr
  d_law_draw : FuncData
  F_law_draw : Fun K "_law_draw" "_law_draw" st_law_draw a_law_draw d_law_draw
  g_law_draw : mg "_law_draw" = some (.ref a_law_draw)
  n_law_draw : Binds K d_law_draw ["rng", "limit"] []
  a_law_any_command : Addr
  d_law_any_command : FuncData
  F_law_any_command : Fun K "_law_any_command" "_law_any_command" st_law_any_command a_law_any_command d_law_any_command
  g_law_any_command : mg "_law_any_command" = some (.ref a_law_any_command)
  n_law_any_command : Binds K d_law_any_command ["rng"] []
  a_law_any_plan : Addr
  d_law_any_plan : FuncData
  F_law_any_plan : Fun K "_law_any_plan" "_law_any_plan" st_law_any_plan a_law_any_plan d_law_any_plan
  g_law_any_plan : mg "_law_any_plan" = some (.ref a_law_any_plan)
  n_law_any_plan : Binds K d_law_any_plan ["rng", "most"] []
  alaw : Addr
  dlaw : FuncData
  Flaw : Fun K "law" "law" stlaw alaw dlaw
  glaw : mg "law" = some (.ref alaw)
  nlaw : Binds K dlaw ["script"] []
  b_abs : mg "abs" = none
  b_all : mg "all" = none
  b_int : mg "int" = none
  b_len : mg "len" = none
  b_min : mg "min" = none
  b_range : mg "range" = none
  b_str : mg "str" = none
  t_DIGITS : Tok
  c_DIGITS : mg "DIGITS" = some (.str (("0123456789" : String) : Str) t_DIGITS)
  t_EMPTY : Tok
  c_EMPTY : mg "EMPTY" = some (.str (("-" : String) : Str) t_EMPTY)
  t_MOST_DIGITS : Tok
  c_MOST_DIGITS : mg "MOST_DIGITS" = some (.int 30 t_MOST_DIGITS)
  p_NUMBERED : Addr
  c_NUMBERED : mg "NUMBERED" = some (.ref p_NUMBERED)
  q_NUMBERED : SqT K (fun _ => none) p_NUMBERED ([(("head" : String) : Str), (("tail" : String) : Str), (("skip" : String) : Str), (("chop" : String) : Str)].map V.str)
  p_PLAIN : Addr
  c_PLAIN : mg "PLAIN" = some (.ref p_PLAIN)
  q_PLAIN : SqT K (fun _ => none) p_PLAIN ([(("reverse" : String) : Str), (("uniq" : String) : Str), (("sort" : String) : Str)].map V.str)
  t_SEPARATOR : Tok
  c_SEPARATOR : mg "SEPARATOR" = some (.str ((" | " : String) : Str) t_SEPARATOR)
section
variable {P : Program} {w : World} {K : PySem.W.Frag} {mg : Str → Option Value} {base : Heap}
theorem scshow_command : FnScope ["command", "part"] ["command"] (defScope stshow_command) := ⟨rfl, rfl, rfl, by decide +kernel, rfl, by decide +kernel, by decide +kernel⟩
theorem okshow_command (T : Txt K mg) : FnOk P w K mg base CX0 1 T.ashow_command T.dshow_command ["command"] (spM K mg 1 Mshow_command) :=
  def_ok T.Fshow_command scshow_command fun cdv A outer s H E c hr => by
    have nd := scshow_command.nd
    exact (ss_one (ss_ret (se_m1 m_join PySem.F.slot_str_join PySem.F.type_str_join se_str (se_lc (own := [("part", 1)]) rfl nd (si_any (se_v 0)) (blkOk_by (N := ["command", "part"]) (sc := defScope stshow_command) (by decide +kernel)) (fun _ _ _ _ _ => (sg_name nd (by rfl) (by first | exact .inl rfl | exact .inr rfl))) (fun _ _ _ _ _ => sts_nil) (fun _ _ _ _ _ => (se_cty c_str (by rfl) T.b_str (by decide +kernel) (sa_cons (se_v 1) sa_nil))) (by decide)))))
theorem scshow_pipeline : FnScope ["pipeline", "command"] ["pipeline"] (defScope stshow_pipeline) := ⟨rfl, rfl, rfl, by decide +kernel, rfl, by decide +kernel, by decide +kernel⟩
theorem okshow_pipeline (T : Txt K mg) : FnOk P w K mg base CX0 2 T.ashow_pipeline T.dshow_pipeline ["pipeline"] (spM K mg 1 Mshow_pipeline) :=
  def_ok T.Fshow_pipeline scshow_pipeline fun cdv A outer s H E c hr => by
    have nd := scshow_pipeline.nd
    exact (ss_one (ss_ret (se_if (st_cmp (op_neS hr) (se_v 0) (se_lst sa_nil) (nomark _)) (se_m1 m_join PySem.F.slot_str_join PySem.F.type_str_join (se_gl (v := .str ((" | " : String) : Str)) (by rfl) T.c_SEPARATOR ⟨_, rfl⟩ (fun _ _ => .str _)) (se_lc (own := [("command", 1)]) rfl nd (si_any (se_v 0)) (blkOk_by (N := ["pipeline", "command"]) (sc := defScope stshow_pipeline) (by decide +kernel)) (fun _ _ _ _ _ => (sg_name nd (by rfl) (by first | exact .inl rfl | exact .inr rfl))) (fun _ _ _ _ _ => sts_nil) (fun _ _ _ _ _ => (se_call0 (okshow_command T) (hr.mono (by decide)) (by rfl) T.gshow_command T.Fshow_command.kp T.nshow_command (sa_cons (se_v 1) sa_nil))) (by decide))) (se_gl (v := .str (("-" : String) : Str)) (by rfl) T.c_EMPTY ⟨_, rfl⟩ (fun _ _ => .str _)))))
theorem scis_number : FnScope ["word", "sign"] ["word"] (defScope stis_number) := ⟨rfl, rfl, rfl, by decide +kernel, rfl, by decide +kernel, by decide +kernel⟩
theorem okis_number (T : Txt K mg) : FnOk P w K mg base CX0 1 T.ais_number T.dis_number ["word"] (spM K mg 1 Mis_number) :=
  def_ok T.Fis_number scis_number fun cdv A outer s H E c hr => by
    have nd := scis_number.nd
    exact (ss_cons (ss_if (st_bool (sw_or (st_not (st_chain op_leS op_leS se_int (se_cb c_len (by rfl) T.b_len (by decide +kernel) (sa_cons (se_v 0) sa_nil)) (se_gl (v := .int 30) (by rfl) T.c_MOST_DIGITS ⟨_, rfl⟩ (fun _ _ => .int _)))) (sw_or1 (st_not (st_val (se_cb c_all (by rfl) T.b_all (by decide +kernel) (sa_cons (se_lc (own := [("sign", 1)]) rfl nd (si_any (se_v 0)) (blkOk_by (N := ["word", "sign"]) (sc := defScope stis_number) (by decide +kernel)) (fun _ _ _ _ _ => (sg_name nd (by rfl) (by first | exact .inl rfl | exact .inr rfl))) (fun _ _ _ _ _ => sts_nil) (fun _ _ _ _ _ => (se_cmp (op_inS hr) (se_v 1) (se_gl (v := .str (("0123456789" : String) : Str)) (by rfl) T.c_DIGITS ⟨_, rfl⟩ (fun _ _ => .str _)) (by rfl))) (by decide)) sa_nil))))))) (ss_one (ss_ret se_bl)) ss_nil)
    (ss_one (ss_ret (se_or (se_cmp (op_eqS hr) (se_v 0) se_str (nomark _)) (se_one (se_cmp (op_neS hr) (se_ix (se_v 0) se_int) se_str (nomark _)))))))
theorem scread_command : FnScope ["text", "name", "space", "number"] ["text"] (defScope stread_command) := ⟨rfl, rfl, rfl, by decide +kernel, rfl, by decide +kernel, by decide +kernel⟩
theorem okread_command (T : Txt K mg) : FnOk P w K mg base CX0 2 T.aread_command T.dread_command ["text"] (spM K mg 1 Mread_command) :=
  def_ok T.Fread_command scread_command fun cdv A outer s H E c hr => by
    have nd := scread_command.nd
    exact (ss_cons (ss_if (st_cmp (op_inS hr) (se_v 0) (se_gl (v := .ref T.p_PLAIN) (by rfl) T.c_PLAIN rfl (fun _ _ => .tup (.inr T.q_PLAIN) (fz_strs [(("reverse" : String) : Str), (("uniq" : String) : Str), (("sort" : String) : Str)]))) (by rfl)) (ss_one (ss_ret (se_tup (sa_cons (se_v 0) sa_nil)))) ss_nil)
    (ss_cons (ss_asgT (se_m1 m_part PySem.F.slot_str_partition PySem.F.type_str_partition (se_v 0) se_str) (sg_tup rfl (sgs_cons (sg_name nd (by rfl) (by first | exact .inl rfl | exact .inr rfl)) (sgs_cons (sg_name nd (by rfl) (by first | exact .inl rfl | exact .inr rfl)) (sgs_cons (sg_name nd (by rfl) (by first | exact .inl rfl | exact .inr rfl)) sgs_nil)))))
    (ss_one (ss_ret (se_if (st_bool (sw_and (st_cmp (op_inS hr) (se_v 1) (se_gl (v := .ref T.p_NUMBERED) (by rfl) T.c_NUMBERED rfl (fun _ _ => .tup (.inr T.q_NUMBERED) (fz_strs [(("head" : String) : Str), (("tail" : String) : Str), (("skip" : String) : Str), (("chop" : String) : Str)]))) (by rfl)) (sw_and1 (st_val (se_call0 (okis_number T) (hr.mono (by decide)) (by rfl) T.gis_number T.Fis_number.kp T.nis_number (sa_cons (se_v 3) sa_nil)))))) (se_tup (sa_cons (se_v 1) (sa_cons (se_cty c_int (by rfl) T.b_int (by decide +kernel) (sa_cons (se_v 3) sa_nil)) sa_nil))) se_non)))))
theorem scread_pipeline : FnScope ["text", "found", "part"] ["text"] (defScope stread_pipeline) := ⟨rfl, rfl, rfl, by decide +kernel, rfl, by decide +kernel, by decide +kernel⟩
theorem okread_pipeline (T : Txt K mg) : FnOk P w K mg base CX0 3 T.aread_pipeline T.dread_pipeline ["text"] (spM K mg 1 Mread_pipeline) :=
  def_ok T.Fread_pipeline scread_pipeline fun cdv A outer s H E c hr => by
    have nd := scread_pipeline.nd
    exact (ss_cons (ss_if (st_cmp (op_eqS hr) (se_v 0) (se_gl (v := .str (("-" : String) : Str)) (by rfl) T.c_EMPTY ⟨_, rfl⟩ (fun _ _ => .str _)) (nomark _)) (ss_one (ss_ret (se_lst sa_nil))) ss_nil)
    (ss_cons (ss_setLc (own := [("part", 2)]) (i := 1) rfl nd (by rfl) (by rfl) (sw_true rfl rfl rfl (by decide +kernel)) (si_any (se_m1 m_split PySem.F.slot_str_split PySem.F.type_str_split (se_v 0) (se_gl (v := .str ((" | " : String) : Str)) (by rfl) T.c_SEPARATOR ⟨_, rfl⟩ (fun _ _ => .str _)))) (blkOk_by (N := ["text", "found", "part"]) (sc := defScope stread_pipeline) (by decide +kernel)) (fun _ _ _ _ _ => (sg_name nd (by rfl) (by first | exact .inl rfl | exact .inr rfl))) (fun _ _ _ _ _ => sts_nil) (fun _ _ _ _ _ => (se_call0 (okread_command T) (hr.mono (by decide)) (by rfl) T.gread_command T.Fread_command.kp T.nread_command (sa_cons (se_v 2) sa_nil))) (by decide))
    (ss_cons (ss_if (st_cmp (op_inS hr) se_non (se_v 1) (by rfl)) (ss_one ss_bad) ss_nil)
    (ss_one (ss_ret (se_v 1))))))
theorem sc_law_rng : FnScope ["script", "digits", "seed", "cell", "size"] ["script"] (defScope st_law_rng) := ⟨rfl, rfl, rfl, by decide +kernel, rfl, by decide +kernel, by decide +kernel⟩
theorem ok_law_rng (T : Txt K mg) : FnOk P w K mg base CX0 1 T.a_law_rng T.d_law_rng ["script"] (spM K mg 1 M_law_rng) :=
  def_ok T.F_law_rng sc_law_rng fun cdv A outer s H E c hr => by
    have nd := sc_law_rng.nd
    exact (ss_cons (ss_asgT (se_tup (sa_cons se_int (sa_cons se_int sa_nil))) (sg_tup rfl (sgs_cons (sg_name nd (by rfl) (by first | exact .inl rfl | exact .inr rfl)) (sgs_cons (sg_name nd (by rfl) (by first | exact .inl rfl | exact .inr rfl)) sgs_nil))))
    (ss_cons (ss_for PassesOwn.never rfl (si_any (se_sl (se_v 0) so_none (so_some se_int))) (sg_name nd (by rfl) (by first | exact .inl rfl | exact .inr rfl)) (ss_cons (ss_set (i := 4) nd (by rfl) (by first | exact .inl rfl | exact .inr rfl) (se_cb c_abs (by rfl) T.b_abs (by decide +kernel) (sa_cons (se_v 3) sa_nil)))
    (ss_cons (ss_if (st_cmp op_geS (se_v 4) (se_op op_powD se_int se_int) (nomark _)) (ss_one (ss_set (i := 1) nd (by rfl) (by first | exact .inl rfl | exact .inr rfl) (se_op op_addD (se_op op_mulD (se_v 1) (se_op op_powD se_int se_int)) (se_op op_modD (se_v 4) (se_op op_powD se_int se_int))))) ss_nil)
    (ss_one (ss_set (i := 2) nd (by rfl) (by first | exact .inl rfl | exact .inr rfl) (se_op op_modD (se_op op_addD (se_op op_addD (se_op op_mulD (se_v 2) se_int) (se_op op_modD (se_v 3) se_int)) se_int) se_int))))))
    (ss_one (ss_ret (se_lst (sa_cons (se_v 1) (sa_cons (se_v 2) (sa_cons se_int sa_nil))))))))
theorem sc_law_draw : FnScope ["rng", "limit", "found", "mixed"] ["rng", "limit"] (defScope st_law_draw) := ⟨rfl, rfl, rfl, by decide +kernel, rfl, by decide +kernel, by decide +kernel⟩
theorem ok_law_draw (T : Txt K mg) : FnOk P w K mg base CX0 1 T.a_law_draw T.d_law_draw ["rng", "limit"] (spM K mg 2 M_law_draw) :=
  def_ok T.F_law_draw sc_law_draw fun cdv A outer s H E c hr => by
    have nd := sc_law_draw.nd
    exact (ss_cons (ss_if (st_cmp op_gtS (se_ix (se_v 0) se_int) se_int (nomark _)) (ss_cons (ss_set (i := 2) nd (by rfl) (by first | exact .inl rfl | exact .inr rfl) (se_op op_modD (se_ix (se_v 0) se_int) (se_v 1)))
    (ss_cons (ss_setIx (pv 0) se_int (se_op op_divD (se_ix (se_v 0) se_int) (se_v 1)))
    (ss_one (ss_ret (se_v 2))))) ss_nil)
    (ss_cons (ss_setIx (pv 0) se_int (se_op op_addD (se_ix (se_v 0) se_int) se_int))
    (ss_cons (ss_set (i := 3) nd (by rfl) (by first | exact .inl rfl | exact .inr rfl) (se_op op_modD (se_op op_powD (se_op op_addD (se_ix (se_v 0) se_int) (se_op op_mulD se_int (se_ix (se_v 0) se_int))) se_int) se_int))
    (ss_cons (ss_set (i := 3) nd (by rfl) (by first | exact .inl rfl | exact .inr rfl) (se_op op_modD (se_op op_powD (se_op op_addD (se_v 3) (se_op op_mulD se_int (se_ix (se_v 0) se_int))) se_int) se_int))
    (ss_one (ss_ret (se_op op_modD (se_op op_divD (se_v 3) se_int) (se_v 1))))))))
theorem sc_law_any_command : FnScope ["rng", "name"] ["rng"] (defScope st_law_any_command) := ⟨rfl, rfl, rfl, by decide +kernel, rfl, by decide +kernel, by decide +kernel⟩
theorem ok_law_any_command (T : Txt K mg) : FnOk P w K mg base CX0 2 T.a_law_any_command T.d_law_any_command ["rng"] (spM K mg 1 M_law_any_command) :=
  def_ok T.F_law_any_command sc_law_any_command fun cdv A outer s H E c hr => by
    have nd := sc_law_any_command.nd
    exact (ss_cons (ss_set (i := 1) nd (by rfl) (by first | exact .inl rfl | exact .inr rfl) (se_ix (se_lst (sa_cons se_str (sa_cons se_str (sa_cons se_str (sa_cons se_str (sa_cons se_str (sa_cons se_str (sa_cons se_str sa_nil)))))))) (se_call1 (ok_law_draw T) (hr.mono (by decide)) (by rfl) T.g_law_draw T.F_law_draw.kp T.n_law_draw (sa_cons (se_v 0) (sa_cons se_int sa_nil)))))
    (ss_cons (ss_if (st_cmp (op_inS hr) (se_v 1) (se_tup (sa_cons se_str (sa_cons se_str (sa_cons se_str sa_nil)))) (by rfl)) (ss_one (ss_ret (se_tup (sa_cons (se_v 1) sa_nil)))) ss_nil)
    (ss_one (ss_ret (se_tup (sa_cons (se_v 1) (sa_cons (se_ix (se_lst (sa_cons se_int (sa_cons (se_call1 (ok_law_draw T) (hr.mono (by decide)) (by rfl) T.g_law_draw T.F_law_draw.kp T.n_law_draw (sa_cons (se_v 0) (sa_cons se_int sa_nil))) (sa_cons (se_call1 (ok_law_draw T) (hr.mono (by decide)) (by rfl) T.g_law_draw T.F_law_draw.kp T.n_law_draw (sa_cons (se_v 0) (sa_cons (se_op op_powD se_int se_int) sa_nil))) (sa_cons (se_op op_subD (se_op op_powD se_int se_int) se_int) sa_nil))))) (se_call1 (ok_law_draw T) (hr.mono (by decide)) (by rfl) T.g_law_draw T.F_law_draw.kp T.n_law_draw (sa_cons (se_v 0) (sa_cons se_int sa_nil)))) sa_nil)))))))
theorem sc_law_any_plan : FnScope ["rng", "most", "turn"] ["rng", "most"] (defScope st_law_any_plan) := ⟨rfl, rfl, rfl, by decide +kernel, rfl, by decide +kernel, by decide +kernel⟩
theorem ok_law_any_plan (T : Txt K mg) : FnOk P w K mg base CX0 3 T.a_law_any_plan T.d_law_any_plan ["rng", "most"] (spM K mg 2 M_law_any_plan) :=
  def_ok T.F_law_any_plan sc_law_any_plan fun cdv A outer s H E c hr => by
    have nd := sc_law_any_plan.nd
    exact (ss_one (ss_ret (se_lc (own := [("turn", 2)]) rfl nd (si_range1 (by rfl) T.b_range (se_call1 (ok_law_draw T) (hr.mono (by decide)) (by rfl) T.g_law_draw T.F_law_draw.kp T.n_law_draw (sa_cons (se_v 0) (sa_cons (se_op op_addD (se_v 1) se_int) sa_nil)))) (blkOk_by (N := ["rng", "most", "turn"]) (sc := defScope st_law_any_plan) (by decide +kernel)) (fun _ _ _ _ _ => (sg_name nd (by rfl) (by first | exact .inl rfl | exact .inr rfl))) (fun _ _ _ _ _ => sts_nil) (fun _ _ _ _ _ => (se_call1 (ok_law_any_command T) (hr.mono (by decide)) (by rfl) T.g_law_any_command T.F_law_any_command.kp T.n_law_any_command (sa_cons (se_v 0) sa_nil))) (by decide))))
theorem sclaw : FnScope ["script", "rng", "lap", "one", "other", "both", "due", "size", "plan"] ["script"] (defScope stlaw) := ⟨rfl, rfl, rfl, by decide +kernel, rfl, by decide +kernel, by decide +kernel⟩
theorem oklaw (T : Txt K mg) : FnOk P w K mg base CX0 4 T.alaw T.dlaw ["script"] (spM K mg 1 Mlaw) :=
  def_ok T.Flaw sclaw fun cdv A outer s H E c hr => by
    have nd := sclaw.nd
    exact (ss_cons (ss_set (i := 1) nd (by rfl) (by first | exact .inl rfl | exact .inr rfl) (se_call0 (ok_law_rng T) (hr.mono (by decide)) (by rfl) T.g_law_rng T.F_law_rng.kp T.n_law_rng (sa_cons (se_v 0) sa_nil)))
    (ss_cons (ss_for PassesOwn.never rfl (si_range1 (by rfl) T.b_range (se_op op_addD se_int (se_cb c_min (by rfl) T.b_min (by decide +kernel) (sa_cons se_int (sa_cons (se_cb c_len (by rfl) T.b_len (by decide +kernel) (sa_cons (se_v 0) sa_nil)) sa_nil))))) (sg_name nd (by rfl) (by first | exact .inl rfl | exact .inr rfl)) (ss_cons (ss_par (i := 3) (j := 4) rfl nd (by rfl) (by rfl) (by decide) (by rfl) (by rfl) (sa_cons (se_call1 (ok_law_any_plan T) (hr.mono (by decide)) (by rfl) T.g_law_any_plan T.F_law_any_plan.kp T.n_law_any_plan (sa_cons (se_v 1) (sa_cons se_int sa_nil))) (sa_cons (se_call1 (ok_law_any_plan T) (hr.mono (by decide)) (by rfl) T.g_law_any_plan T.F_law_any_plan.kp T.n_law_any_plan (sa_cons (se_v 1) (sa_cons se_int sa_nil))) sa_nil)) (by rfl))
    (ss_cons (ss_setLc (own := [("plan", 8)]) (i := 5) rfl nd (by rfl) (by rfl) (sw_true rfl rfl rfl (by decide +kernel)) (si_any (se_lst (sa_cons (se_v 3) (sa_cons (se_v 4) sa_nil)))) (blkOk_by (N := ["script", "rng", "lap", "one", "other", "both", "due", "size", "plan"]) (sc := defScope stlaw) (by decide +kernel)) (fun _ _ _ _ _ => (sg_name nd (by rfl) (by first | exact .inl rfl | exact .inr rfl))) (fun _ _ _ _ _ => (sts_one (st_cmp (op_neS hr) (se_v 8) (se_lst sa_nil) (nomark _)))) (fun _ _ _ _ _ => (se_call0 (okshow_pipeline T) (hr.mono (by decide)) (by rfl) T.gshow_pipeline T.Fshow_pipeline.kp T.nshow_pipeline (sa_cons (se_v 8) sa_nil))) (by decide))
    (ss_cons (ss_set (i := 6) nd (by rfl) (by first | exact .inl rfl | exact .inr rfl) (se_if (st_cmp (op_neS hr) (se_v 5) (se_lst sa_nil) (nomark _)) (se_m1 m_join PySem.F.slot_str_join PySem.F.type_str_join se_str (se_v 5)) se_str))
    (ss_cons (ss_if (st_bool (sw_or (st_cmp (op_neS hr) (se_call0 (okshow_pipeline T) (hr.mono (by decide)) (by rfl) T.gshow_pipeline T.Fshow_pipeline.kp T.nshow_pipeline (sa_cons (se_op op_addD (se_v 3) (se_v 4)) sa_nil)) (se_v 6) (nomark _)) (sw_or1 (st_cmp (op_neS hr) (se_call0 (okread_pipeline T) (hr.mono (by decide)) (by rfl) T.gread_pipeline T.Fread_pipeline.kp T.nread_pipeline (sa_cons (se_v 6) sa_nil)) (se_op op_addD (se_v 3) (se_v 4)) (nomark _))))) (ss_one (ss_ret se_bl)) ss_nil)
    (ss_cons (ss_for PassesOwn.never rfl (si_range2 (by rfl) T.b_range se_int (se_op op_addD (se_cb c_len (by rfl) T.b_len (by decide +kernel) (sa_cons (se_v 3) sa_nil)) se_int)) (sg_name nd (by rfl) (by first | exact .inl rfl | exact .inr rfl)) (ss_one (ss_if (st_not (st_val (se_m1 m_starts PySem.F.slot_str_startswith PySem.F.type_str_startswith (se_v 6) (se_call0 (okshow_pipeline T) (hr.mono (by decide)) (by rfl) T.gshow_pipeline T.Fshow_pipeline.kp T.nshow_pipeline (sa_cons (se_sl (se_v 3) so_none (so_some (se_v 7))) sa_nil))))) (ss_one (ss_ret se_bl)) ss_nil)))
    (ss_one (ss_if (st_bool (sw_and (st_cmp op_gtS (se_cb c_len (by rfl) T.b_len (by decide +kernel) (sa_cons (se_v 3) sa_nil)) se_int (nomark _)) (sw_and1 (st_cmp (op_neS hr) (se_ix (se_m1 m_split PySem.F.slot_str_split PySem.F.type_str_split (se_v 6) se_str) se_int) (se_call0 (okshow_pipeline T) (hr.mono (by decide)) (by rfl) T.gshow_pipeline T.Fshow_pipeline.kp T.nshow_pipeline (sa_cons (se_sl (se_v 3) so_none (so_some se_int)) sa_nil)) (nomark _))))) (ss_one (ss_ret se_bl)) ss_nil))))))))
    (ss_one (ss_ret se_bl))))
end
theorem allMk {K : PySem.W.Frag} {h : Heap} {mg : Str → Option Value} (X : K.In h) (G : h.Ns mainGlobals mg)
    {f0 : Addr} {oc0 kV0 dc0 pm0 cd0 ct0 : Value} {od0 an0 : Option Addr} {sl0 : Array (Option Value)}
    (a0 : PySem.W.nsIn K mainGlobals "show_command" = some (some (.ref f0)))
    (l0 : K.lookup f0 = some ⟨oc0, od0, .func (PySem.W.fnOf "show_command" "show_command" (defArgs stshow_command) (defBody stshow_command) (defScope stshow_command) .none kV0 dc0 pm0 an0 cd0 ct0), sl0⟩)
    (c0 : PySem.W.codeIn K cd0 "show_command" = true) (k0 : PySem.W.keepIn K (.ref f0) = true)
    {f1 : Addr} {oc1 kV1 dc1 pm1 cd1 ct1 : Value} {od1 an1 : Option Addr} {sl1 : Array (Option Value)}
    (a1 : PySem.W.nsIn K mainGlobals "show_pipeline" = some (some (.ref f1)))
    (l1 : K.lookup f1 = some ⟨oc1, od1, .func (PySem.W.fnOf "show_pipeline" "show_pipeline" (defArgs stshow_pipeline) (defBody stshow_pipeline) (defScope stshow_pipeline) .none kV1 dc1 pm1 an1 cd1 ct1), sl1⟩)
    (c1 : PySem.W.codeIn K cd1 "show_pipeline" = true) (k1 : PySem.W.keepIn K (.ref f1) = true)
    {f2 : Addr} {oc2 kV2 dc2 pm2 cd2 ct2 : Value} {od2 an2 : Option Addr} {sl2 : Array (Option Value)}
    (a2 : PySem.W.nsIn K mainGlobals "is_number" = some (some (.ref f2)))
    (l2 : K.lookup f2 = some ⟨oc2, od2, .func (PySem.W.fnOf "is_number" "is_number" (defArgs stis_number) (defBody stis_number) (defScope stis_number) .none kV2 dc2 pm2 an2 cd2 ct2), sl2⟩)
    (c2 : PySem.W.codeIn K cd2 "is_number" = true) (k2 : PySem.W.keepIn K (.ref f2) = true)
    {f3 : Addr} {oc3 kV3 dc3 pm3 cd3 ct3 : Value} {od3 an3 : Option Addr} {sl3 : Array (Option Value)}
    (a3 : PySem.W.nsIn K mainGlobals "read_command" = some (some (.ref f3)))
    (l3 : K.lookup f3 = some ⟨oc3, od3, .func (PySem.W.fnOf "read_command" "read_command" (defArgs stread_command) (defBody stread_command) (defScope stread_command) .none kV3 dc3 pm3 an3 cd3 ct3), sl3⟩)
    (c3 : PySem.W.codeIn K cd3 "read_command" = true) (k3 : PySem.W.keepIn K (.ref f3) = true)
    {f4 : Addr} {oc4 kV4 dc4 pm4 cd4 ct4 : Value} {od4 an4 : Option Addr} {sl4 : Array (Option Value)}
    (a4 : PySem.W.nsIn K mainGlobals "read_pipeline" = some (some (.ref f4)))
    (l4 : K.lookup f4 = some ⟨oc4, od4, .func (PySem.W.fnOf "read_pipeline" "read_pipeline" (defArgs stread_pipeline) (defBody stread_pipeline) (defScope stread_pipeline) .none kV4 dc4 pm4 an4 cd4 ct4), sl4⟩)
    (c4 : PySem.W.codeIn K cd4 "read_pipeline" = true) (k4 : PySem.W.keepIn K (.ref f4) = true)
    {f5 : Addr} {oc5 kV5 dc5 pm5 cd5 ct5 : Value} {od5 an5 : Option Addr} {sl5 : Array (Option Value)}
    (a5 : PySem.W.nsIn K mainGlobals "_law_rng" = some (some (.ref f5)))
    (l5 : K.lookup f5 = some ⟨oc5, od5, .func (PySem.W.fnOf "_law_rng" "_law_rng" (defArgs st_law_rng) (defBody st_law_rng) (defScope st_law_rng) .none kV5 dc5 pm5 an5 cd5 ct5), sl5⟩)
    (c5 : PySem.W.codeIn K cd5 "_law_rng" = true) (k5 : PySem.W.keepIn K (.ref f5) = true)
    {f6 : Addr} {oc6 kV6 dc6 pm6 cd6 ct6 : Value} {od6 an6 : Option Addr} {sl6 : Array (Option Value)}
    (a6 : PySem.W.nsIn K mainGlobals "_law_draw" = some (some (.ref f6)))
    (l6 : K.lookup f6 = some ⟨oc6, od6, .func (PySem.W.fnOf "_law_draw" "_law_draw" (defArgs st_law_draw) (defBody st_law_draw) (defScope st_law_draw) .none kV6 dc6 pm6 an6 cd6 ct6), sl6⟩)
    (c6 : PySem.W.codeIn K cd6 "_law_draw" = true) (k6 : PySem.W.keepIn K (.ref f6) = true)
    {f7 : Addr} {oc7 kV7 dc7 pm7 cd7 ct7 : Value} {od7 an7 : Option Addr} {sl7 : Array (Option Value)}
    (a7 : PySem.W.nsIn K mainGlobals "_law_any_command" = some (some (.ref f7)))
    (l7 : K.lookup f7 = some ⟨oc7, od7, .func (PySem.W.fnOf "_law_any_command" "_law_any_command" (defArgs st_law_any_command) (defBody st_law_any_command) (defScope st_law_any_command) .none kV7 dc7 pm7 an7 cd7 ct7), sl7⟩)
    (c7 : PySem.W.codeIn K cd7 "_law_any_command" = true) (k7 : PySem.W.keepIn K (.ref f7) = true)
    {f8 : Addr} {oc8 kV8 dc8 pm8 cd8 ct8 : Value} {od8 an8 : Option Addr} {sl8 : Array (Option Value)}
    (a8 : PySem.W.nsIn K mainGlobals "_law_any_plan" = some (some (.ref f8)))
    (l8 : K.lookup f8 = some ⟨oc8, od8, .func (PySem.W.fnOf "_law_any_plan" "_law_any_plan" (defArgs st_law_any_plan) (defBody st_law_any_plan) (defScope st_law_any_plan) .none kV8 dc8 pm8 an8 cd8 ct8), sl8⟩)
    (c8 : PySem.W.codeIn K cd8 "_law_any_plan" = true) (k8 : PySem.W.keepIn K (.ref f8) = true)
    {f9 : Addr} {oc9 kV9 dc9 pm9 cd9 ct9 : Value} {od9 an9 : Option Addr} {sl9 : Array (Option Value)}
    (a9 : PySem.W.nsIn K mainGlobals "law" = some (some (.ref f9)))
    (l9 : K.lookup f9 = some ⟨oc9, od9, .func (PySem.W.fnOf "law" "law" (defArgs stlaw) (defBody stlaw) (defScope stlaw) .none kV9 dc9 pm9 an9 cd9 ct9), sl9⟩)
    (c9 : PySem.W.codeIn K cd9 "law" = true) (k9 : PySem.W.keepIn K (.ref f9) = true)
    (z0 : PySem.W.nsIn K mainGlobals "abs" = some none)
    (z1 : PySem.W.nsIn K mainGlobals "all" = some none)
    (z2 : PySem.W.nsIn K mainGlobals "int" = some none)
    (z3 : PySem.W.nsIn K mainGlobals "len" = some none)
    (z4 : PySem.W.nsIn K mainGlobals "min" = some none)
    (z5 : PySem.W.nsIn K mainGlobals "range" = some none)
    (z6 : PySem.W.nsIn K mainGlobals "str" = some none)
    {t0 : Tok} (y0 : PySem.W.nsIn K mainGlobals "DIGITS" = some (some (.str (("0123456789" : String) : Str) t0)))
    {t1 : Tok} (y1 : PySem.W.nsIn K mainGlobals "EMPTY" = some (some (.str (("-" : String) : Str) t1)))
    {t2 : Tok} (y2 : PySem.W.nsIn K mainGlobals "MOST_DIGITS" = some (some (.int 30 t2)))
    {p3 : Addr} {od_3 : Option Addr} {n_3 : Nat} {t3_0 t3_1 t3_2 t3_3 : Tok} {s_3 : Array (Option Value)}
    (y3 : PySem.W.nsIn K mainGlobals "NUMBERED" = some (some (.ref p3)))
    (u3 : K.lookup p3 = some ⟨.type "tuple", od_3, .seq #[.str (("head" : String) : Str) t3_0, .str (("tail" : String) : Str) t3_1, .str (("skip" : String) : Str) t3_2, .str (("chop" : String) : Str) t3_3] n_3, s_3⟩)
    {p4 : Addr} {od_4 : Option Addr} {n_4 : Nat} {t4_0 t4_1 t4_2 : Tok} {s_4 : Array (Option Value)}
    (y4 : PySem.W.nsIn K mainGlobals "PLAIN" = some (some (.ref p4)))
    (u4 : K.lookup p4 = some ⟨.type "tuple", od_4, .seq #[.str (("reverse" : String) : Str) t4_0, .str (("uniq" : String) : Str) t4_1, .str (("sort" : String) : Str) t4_2] n_4, s_4⟩)
    {t5 : Tok} (y5 : PySem.W.nsIn K mainGlobals "SEPARATOR" = some (some (.str ((" | " : String) : Str) t5)))
    : Nonempty (Txt K mg) := ⟨{
  ashow_command := f0, dshow_command := _, Fshow_command := fun_mk (st := stshow_command) l0 c0 k0, gshow_command := PySem.W.mg_of X G a0,
  nshow_command := (fun_mk (st := stshow_command) l0 c0 k0).binds fun _ _ _ _ _ _ us hl => match us, hl with | [_], _ => rfl,
  ashow_pipeline := f1, dshow_pipeline := _, Fshow_pipeline := fun_mk (st := stshow_pipeline) l1 c1 k1, gshow_pipeline := PySem.W.mg_of X G a1,
  nshow_pipeline := (fun_mk (st := stshow_pipeline) l1 c1 k1).binds fun _ _ _ _ _ _ us hl => match us, hl with | [_], _ => rfl,
  ais_number := f2, dis_number := _, Fis_number := fun_mk (st := stis_number) l2 c2 k2, gis_number := PySem.W.mg_of X G a2,
  nis_number := (fun_mk (st := stis_number) l2 c2 k2).binds fun _ _ _ _ _ _ us hl => match us, hl with | [_], _ => rfl,
  aread_command := f3, dread_command := _, Fread_command := fun_mk (st := stread_command) l3 c3 k3, gread_command := PySem.W.mg_of X G a3,
  nread_command := (fun_mk (st := stread_command) l3 c3 k3).binds fun _ _ _ _ _ _ us hl => match us, hl with | [_], _ => rfl,
  aread_pipeline := f4, dread_pipeline := _, Fread_pipeline := fun_mk (st := stread_pipeline) l4 c4 k4, gread_pipeline := PySem.W.mg_of X G a4,
  nread_pipeline := (fun_mk (st := stread_pipeline) l4 c4 k4).binds fun _ _ _ _ _ _ us hl => match us, hl with | [_], _ => rfl,
  a_law_rng := f5, d_law_rng := _, F_law_rng := fun_mk (st := st_law_rng) l5 c5 k5, g_law_rng := PySem.W.mg_of X G a5,
  n_law_rng := (fun_mk (st := st_law_rng) l5 c5 k5).binds fun _ _ _ _ _ _ us hl => match us, hl with | [_], _ => rfl,
  a_law_draw := f6, d_law_draw := _, F_law_draw := fun_mk (st := st_law_draw) l6 c6 k6, g_law_draw := PySem.W.mg_of X G a6,
  n_law_draw := (fun_mk (st := st_law_draw) l6 c6 k6).binds fun _ _ _ _ _ _ us hl => match us, hl with | [_, _], _ => rfl,
  a_law_any_command := f7, d_law_any_command := _, F_law_any_command := fun_mk (st := st_law_any_command) l7 c7 k7, g_law_any_command := PySem.W.mg_of X G a7,
  n_law_any_command := (fun_mk (st := st_law_any_command) l7 c7 k7).binds fun _ _ _ _ _ _ us hl => match us, hl with | [_], _ => rfl,
  a_law_any_plan := f8, d_law_any_plan := _, F_law_any_plan := fun_mk (st := st_law_any_plan) l8 c8 k8, g_law_any_plan := PySem.W.mg_of X G a8,
  n_law_any_plan := (fun_mk (st := st_law_any_plan) l8 c8 k8).binds fun _ _ _ _ _ _ us hl => match us, hl with | [_, _], _ => rfl,
  alaw := f9, dlaw := _, Flaw := fun_mk (st := stlaw) l9 c9 k9, glaw := PySem.W.mg_of X G a9,
  nlaw := (fun_mk (st := stlaw) l9 c9 k9).binds fun _ _ _ _ _ _ us hl => match us, hl with | [_], _ => rfl,
  b_abs := PySem.W.mg_none_of X G z0,
  b_all := PySem.W.mg_none_of X G z1,
  b_int := PySem.W.mg_none_of X G z2,
  b_len := PySem.W.mg_none_of X G z3,
  b_min := PySem.W.mg_none_of X G z4,
  b_range := PySem.W.mg_none_of X G z5,
  b_str := PySem.W.mg_none_of X G z6,
  t_DIGITS := t0, c_DIGITS := PySem.W.mg_of X G y0,
  t_EMPTY := t1, c_EMPTY := PySem.W.mg_of X G y1,
  t_MOST_DIGITS := t2, c_MOST_DIGITS := PySem.W.mg_of X G y2,
  p_NUMBERED := p3, c_NUMBERED := PySem.W.mg_of X G y3, q_NUMBERED := .inr ⟨_, _, _, u3, rfl, rfl, (by show 4 ≤ sizeLine; decide), (.cons ⟨_, rfl⟩ (.cons ⟨_, rfl⟩ (.cons ⟨_, rfl⟩ (.cons ⟨_, rfl⟩ .nil))))⟩,
  p_PLAIN := p4, c_PLAIN := PySem.W.mg_of X G y4, q_PLAIN := .inr ⟨_, _, _, u4, rfl, rfl, (by show 3 ≤ sizeLine; decide), (.cons ⟨_, rfl⟩ (.cons ⟨_, rfl⟩ (.cons ⟨_, rfl⟩ .nil)))⟩,
  t_SEPARATOR := t5, c_SEPARATOR := PySem.W.mg_of X G y5 }⟩
theorem lawOk {P : Program} {w : World} {K : PySem.W.Frag} {h : Heap} {mg : Str → Option Value} {fa : Addr} (X : K.In h) (G : h.Ns mainGlobals mg) (T : Txt K mg) (hfa : mg "law" = some (.ref fa)) (H : LawHolds Mlaw) :
    ∃ fd : FuncData, (∀ (s : Shared) (v : Value), BindsTo s fd ⟨[v], []⟩ [("script", v)]) ∧ ∀ base : Heap, K.In base → base.Ns mainGlobals mg → FnOk P w K mg base CX0 4 fa fd ["script"] (spL K) := by
  have e := hfa.symm.trans T.glaw
  cases e
  exact ⟨T.dlaw, T.Flaw.one, fun base _ _ => (oklaw T).imp (law_imp H)⟩
end Lw

namespace Lw
open PySem L2 TL Sm Sp
local macro_rules | `(tactic| walk_at "ev") => `(tactic| simp (config := { implicitDefEqProofs := false }) only [*, _root_.eq_self, v_c, Sp.at0, Sp.at1, Sp.at2, Sp.ixn0, Sp.ixn1, Sp.ixn2, Sp.ixn03, Sp.ixn13, Sp.ixn23, List.drop_succ_cons, List.drop_zero,  v_var, varK_fz, varK_ol, v_bin, binK_some, binK2_some, binK3_some, valK_some, v_ldd, v_ldn, v_lds, ldK_ol, ldK_fz, v_frzd, v_frzn, v_frzs, frzK_ol, frzK_fz, v_frzs0, v_frzs1, frzsK_some, frzsK2_some, v_lds0, v_lds1, ldsK_some, ldsK2_some, v_anil, v_acons, aConsK_some, aConsK2_some, v_tup, tupK_some, tupK2_some, v_lst, lstK_some, lstK2_some,
  v_neg, negK_some, v_if, ifK_t, ifK_f, v_tst, tstK_some, v_band, v_bor, v_bnot, andK_t, andK_f, orK_t, orK_f, notK_some, v_and, v_or, v_not, andVK_t, andVK_f, orVK_t, orVK_f, notVK_some, v_chain, chK1_some, chK2_some, chK3_some, chK4_t, chK4_f, v_onone, v_osome, partK_some, v_sl, slK1_some, slK2_some, slK3_some, slK4_some, v_slL, v_slS, v_slT, v_slStr, v_rev, revK_some, revK2_l, v_cb, cbK_some, cbK2_some, v_m1, m1K_some, m1K2_some, m1K3_some,
  v_app, appK_ol, appK2_some, appK3_some, appK4_ol, v_pop, popK_ol, v_popAt, popAtK_ol, popAtK2_some, v_c0, c0K_some, c0K2_some, c0K3_some, c0K4_some, melt0, melt1, meltK_some, meltK2_ol, meltK2_fz, v_c1, c1K_some, c1K2_ol, c1K3_some, c1K4_some, c1K5_some, v_seq, seqK_nx, seqK_rt, seqK_ct, v_next, v_cont, v_expr, exprK_some, v_ret, retK_some, v_retN, v_asg, asgK_some, nxK_some, v_stN, v_stD, v_stS, stK_some, v_notT, notTK_fz, notTK_un, notTK_ol, v_sif, sifK_t, sifK_f,
  v_asgT, asgTK_some, asgTK2_some, v_gN, v_gT, v_gNil, v_gCons, gConsK_some, v_par, parK_some, parK2_some, v_aug, augK_fz, augK2_some, augK3_some, augK4_some, v_six, sixK_some, sixK2_some, sixK3_ol, sixK4_some, sixK5_ol, sixK6_some, v_for, forK_some, v_lc, v_yes, v_iL, v_iA, iLK_some, iAK_t, iAK_s, iAK_l, iAK_sls, iAK_sl, iAK_n, iLK2_l, iLK2_s, v_iR1, v_iR2, r2K_some, v_iEn, enK_some, outK_rt, outK_nx, outK2_some, v_rd, v_rn, v_rs, retRK_ol, retRK_fz,
  add_i, add_s, add_l, sub_i, mul_i, mod_i, div_i, pow_i, lt_i, le_i, gt_i, ge_i, eq_i, ne_i, eq_s, ne_s, is_n, isN_n, ix_l, ix_t, ix_s, len_l, len_s, len_t, len_str, abs_i, max_i, min_i, int_i, int_b, list_l, list_s, str_i, str_s, lent, noRs, noL, noLs, lcK2_some, lcL_nil, lcL_cons, lcT1_some, lcT2_t, lcT2_f, lcT3_some, lcT4_some, lcT5_some, forL_nil, forL_cons, turnK_some, turnK2_nx, turnK2_ct, turnK2_rt, wipeG, restG,
  uns, List.replicate_succ, List.replicate_zero, List.getElem?_cons_zero, List.getElem?_cons_succ, List.getElem?_nil, List.set_cons_zero, List.set_cons_succ, List.set_nil, List.length_cons, List.length_nil, List.map_cons, List.map_nil, List.cons_append, List.nil_append, List.append_nil, List.take_succ_cons, List.take_zero, List.take_nil, Option.map_some, Option.map_none, Option.getD_some, Option.getD_none, List.not_mem_nil, not_false_eq_true, List.mem_cons, or_false, false_or,
  Nat.reduceAdd, Nat.reduceSub, Nat.reduceLT, Nat.reduceLeDiff, Int.reduceLT, Int.reduceLE, Int.reduceAdd, Int.reduceSub, Int.reduceMul, Int.reducePow, Int.reduceToNat, Int.reduceNeg, Int.reduceEq, Nat.reduceMul, Nat.reducePow, Nat.zero_add, Nat.add_zero, Nat.reduceEqDiff, decide_true, decide_false, Bool.and_true, Bool.and_false, Bool.true_and, Bool.false_and, Bool.or_true, Bool.or_false, Bool.not_true, Bool.not_false, if_true, if_false, reduceIte, Bool.false_eq_true, and_true, true_and, and_false, false_and, and_self, reduceCtorEq, Bool.and_self, decide_eq_true_eq])


theorem cut_cmds (p : List Cmd) (n : Nat) : cutD (p.map Cmd.enc) none (some (n : Int)) = (p.take n).map Cmd.enc := by rw [cut_upto, List.map_take]
theorem cut_one (p : List Cmd) : cutD (p.map Cmd.enc) none (some 1) = (p.take 1).map Cmd.enc := cut_cmds p 1
theorem eqstr (s : Str) : cNe (.str s) (.str s) = some (.d (.bl false)) := by rw [ne_s, decide_eq_true rfl]; rfl
theorem shows_ok {p : List Cmd} : PyData.strOk (shows p) = true := by
  by_cases h : p = []
  · subst h; exact strOk_of (by decide)
  · refine strOk_of fun c hc => ?_
    rw [shows_tl h] at hc
    have key : ∀ l : List Cmd, ∀ c ∈ joinL BARL (l.map fun c => tl c.show), c < 1114112 := by
      intro l
      induction l with
      | nil => intro c hc; cases hc
      | cons a l ih =>
        intro c hc
        have ha : ∀ x ∈ tl a.show, x < 1114112 := by
          intro x hx
          cases a with
          | num a n =>
            rw [tl_num_show] at hx
            rcases List.mem_append.mp hx with hx | hx
            · have := nm_tl a x hx; omega
            · rcases List.mem_cons.mp hx with hx | hx
              · omega
              · have := numL_digits n x hx; omega
          | pl a => have := pl_tl a x hx; omega
        cases l with
        | nil => exact ha c hc
        | cons b l =>
          rcases List.mem_append.mp hc with hc | hc
          · exact ha c hc
          · rcases List.mem_append.mp hc with hc | hc
            · have : c = 32 ∨ c = 124 ∨ c = 32 := by simpa using hc
              omega
            · exact ih c hc
    exact key p c hc
theorem due_ok {one other : List Cmd} (h1 : ∀ c ∈ one, c.ok) (h2 : ∀ c ∈ other, c.ok) (l1 : one.length ≤ 100) (l2 : other.length ≤ 100) (a0 a1 a2 a3 a4 a5 a6 a7 : Slot) (n7 : notTK (some a7) = true) :
    ∃ F, lcL (gN 8) (tst (eBin cNe (eVar 8) (eLst aNil))) (eCall0 Mshow_pipeline (aCons (eVar 8) aNil)) [8] [.lst (one.map Cmd.enc), .lst (other.map Cmd.enc)] [a0, a1, a2, a3, a4, a5, a6, a7, .un] = some (F, [a0, a1, a2, a3, a4, a5, a6, a7, .un]) ∧
      ((F = [] ∧ one ++ other = []) ∨ (cNe (.lst F) (.lst []) = some (.d (.bl true)) ∧ joinD BAR (.lst F) = some (.d (.str (shows (one ++ other)))))) := by
  have hm := lc_fil (gf := gN 8) (ft := tst (eBin cNe (eVar 8) (eLst aNil))) (fe := eCall0 Mshow_pipeline (aCons (eVar 8) aNil)) (vs := [8]) (ι := fun p : List Cmd => .lst (p.map Cmd.enc)) (φ := fun p => .str (shows p)) (ψ := fun p => !p.isEmpty)
    (g := [a0, a1, a2, a3, a4, a5, a6, a7, .un]) (l := [one, other]) (by
      intro p hp
      have hk : (∀ c ∈ p, c.ok) ∧ p.length ≤ 100 := by
        rcases List.mem_cons.mp hp with rfl | hp
        · exact ⟨h1, l1⟩
        · rcases List.mem_cons.mp hp with rfl | hp
          · exact ⟨h2, l2⟩
          · cases hp
      have e1 := cNe_nil (n := 1) (by decide) (shpL_cmds p)
      rw [show (p.map Cmd.enc).isEmpty = p.isEmpty by cases p <;> rfl] at e1
      refine ⟨[a0, a1, a2, a3, a4, a5, a6, a7, .fz (.lst (p.map Cmd.enc))], [a0, a1, a2, a3, a4, a5, a6, a7, .fz (.lst (p.map Cmd.enc))], ?_, ?_, fun _ => rfl, fun _ => ⟨.d (.str (shows p)), [a0, a1, a2, a3, a4, a5, a6, a7, .fz (.lst (p.map Cmd.enc))], [a0, a1, a2, a3, a4, a5, a6, a7, .fz (.lst (p.map Cmd.enc))], ?_, rfl, rfl⟩⟩
      · walk_at "ev"
      · walk_at "ev"
      · have hs := show_pipeline_ok hk.1 (by omega)
        walk_at "ev")
  refine ⟨_, hm, ?_⟩
  have hstr : ∀ ps : List (List Cmd), ShpL 0 (ps.map fun p => .str (shows p)) := fun ps => shpL_of fun d hd => by
    obtain ⟨p, _, rfl⟩ := List.mem_map.mp hd
    exact shp_str _ shows_ok
  have hj : ∀ ps : List (List Cmd), ps.length ≤ 2 → (∀ p ∈ ps, (∀ c ∈ p, c.ok) ∧ p.length ≤ 100) → joinD BAR (.lst (ps.map fun p => .str (shows p))) = some (.d (.str (Txt.join BAR (ps.map shows)))) := fun ps hl hk => by
    have := join_okD (s := BAR) (l := ps.map shows) (b := 4000) (by
      intro s hs
      obtain ⟨p, hp, rfl⟩ := List.mem_map.mp hs
      have := shows_len (hk p hp).1
      have := (hk p hp).2
      omega) (by rw [List.length_map, show BAR.length = 3 from rfl]; omega)
    rw [List.map_map] at this
    exact this
  have hn : ∀ ps : List (List Cmd), ps ≠ [] → cNe (.lst (ps.map fun p => .str (shows p))) (.lst []) = some (.d (.bl true)) := fun ps hp => by
    rw [cNe_nil (n := 0) (by decide) (hstr ps)]
    cases ps with
    | nil => exact absurd rfl hp
    | cons => rfl
  cases one with
  | nil =>
    cases other with
    | nil => exact .inl ⟨rfl, rfl⟩
    | cons c q =>
      refine .inr ⟨hn [c :: q] (by simp), ?_⟩
      have := hj [c :: q] (by simp) (by intro p hp; rw [List.mem_singleton.mp hp]; exact ⟨h2, l2⟩)
      rw [List.map_cons, List.map_nil, List.map_cons, List.map_nil, join1] at this
      exact this
  | cons a p =>
    cases other with
    | nil =>
      refine .inr ⟨hn [a :: p] (by simp), ?_⟩
      have := hj [a :: p] (by simp) (by intro q hp; rw [List.mem_singleton.mp hp]; exact ⟨h1, l1⟩)
      rw [List.map_cons, List.map_nil, List.map_cons, List.map_nil, join1] at this
      rw [List.append_nil]
      exact this
    | cons c q =>
      refine .inr ⟨hn [a :: p, c :: q] (by simp), ?_⟩
      have := hj [a :: p, c :: q] (by simp) (by
        intro z hz
        rcases List.mem_cons.mp hz with rfl | hz
        · exact ⟨h1, l1⟩
        · rw [List.mem_singleton.mp hz]; exact ⟨h2, l2⟩)
      rw [shows_app (by simp) (by simp)]
      exact this
noncomputable def T3K45 : G → Option O := (sSeq (sIf (bOr (tst (eBin cNe (eCall0 Mshow_pipeline (aCons (eBin addD (eVar 3) (eVar 4)) aNil)) (eVar 6))) (tst (eBin cNe (eCall0 Mread_pipeline (aCons (eVar 6) aNil)) (eBin addD (eVar 3) (eVar 4))))) (sRet (eC (.bl false))) sNext)
  (sSeq (sFor (iR2 (eC (.int 1)) (eBin addD (eCB lenD (aCons (eVar 3) aNil)) (eC (.int 1)))) (gN 7) (sIf (bNot (tst (eM1 startsD (eVar 6) (eCall0 Mshow_pipeline (aCons (eSl (eVar 3) oNone (oSome (eVar 7))) aNil))))) (sRet (eC (.bl false))) sNext))
  (sIf (bAnd (tst (eBin cGt (eCB lenD (aCons (eVar 3) aNil)) (eC (.int 0)))) (tst (eBin cNe (eBin ixD (eM1 splitD (eVar 6) (eC (.str ((" | " : String) : Str)))) (eC (.int 0))) (eCall0 Mshow_pipeline (aCons (eSl (eVar 3) oNone (oSome (eC (.int 1)))) aNil))))) (sRet (eC (.bl false))) sNext)))
noncomputable abbrev bodyK45 : G → Option O := (sSeq (sPar 3 4 (aCons (eCall1 M_law_any_plan (aCons (eVar 1) (aCons (eC (.int 6)) aNil))) (aCons (eCall1 M_law_any_plan (aCons (eVar 1) (aCons (eC (.int 6)) aNil))) aNil)))
  (sSeq (sAsg 5 (eLc (iA (eLst (aCons (eVar 3) (aCons (eVar 4) aNil)))) (gN 8) (tst (eBin cNe (eVar 8) (eLst aNil))) (eCall0 Mshow_pipeline (aCons (eVar 8) aNil)) [8]))
  (sSeq (sAsg 6 (eIf (tst (eBin cNe (eVar 5) (eLst aNil))) (eM1 joinD (eC (.str ((" | " : String) : Str))) (eVar 5)) (eC (.str (("-" : String) : Str)))))
  T3K45)))
theorem loop_ok {one oth : List Cmd} (h1 : ∀ c ∈ one, c.ok) (l1 : one.length ≤ 100) {S a1 a2 a5 a7 O : Slot} (n7 : notTK (some a7) = true) {n : Nat} (hn : n = one.length) :
    ∃ a7', notTK (some a7') = true ∧ forL (gN 7) (sIf (bNot (tst (eM1 startsD (eVar 6) (eCall0 Mshow_pipeline (aCons (eSl (eVar 3) oNone (oSome (eVar 7))) aNil))))) (sRet (eC (.bl false))) sNext) (rangeD 1 n)
      [S, a1, a2, .fz (.lst (one.map Cmd.enc)), O, a5, .fz (.str (shows (one ++ oth))), a7, .un] = some (.nx [S, a1, a2, .fz (.lst (one.map Cmd.enc)), O, a5, .fz (.str (shows (one ++ oth))), a7', .un]) := by
  subst hn
  obtain ⟨g', e1, a7', n7', rfl⟩ := for_inv (L := rangeD 1 one.length) (gf := gN 7) (fB := (sIf (bNot (tst (eM1 startsD (eVar 6) (eCall0 Mshow_pipeline (aCons (eSl (eVar 3) oNone (oSome (eVar 7))) aNil))))) (sRet (eC (.bl false))) sNext))
    (fun pr g => ∃ a7 : Slot, notTK (some a7) = true ∧ g = [S, a1, a2, .fz (.lst (one.map Cmd.enc)), O, a5, .fz (.str (shows (one ++ oth))), a7, .un])
    (l := rangeD 1 one.length) (pr := []) (g := [S, a1, a2, .fz (.lst (one.map Cmd.enc)), O, a5, .fz (.str (shows (one ++ oth))), a7, .un]) rfl ⟨a7, n7, rfl⟩ (by
      rintro pr d rest g e ⟨a7, n7, rfl⟩
      have hd : d ∈ rangeD 1 one.length := by rw [e]; simp
      clear e
      unfold rangeD at hd
      obtain ⟨k, hk, rfl⟩ := List.mem_map.mp hd
      replace hk := List.mem_range.mp hk
      have hc : cutD (one.map Cmd.enc) none (some (1 + (k : Int))) = (one.take (k + 1)).map Cmd.enc := by
        have e9 : (1 + (k : Int)) = ((k + 1 : Nat) : Int) := by omega
        rw [e9]
        exact cut_cmds one (k + 1)
      have ht : one.take (k + 1) ≠ [] := by
        cases one with
        | nil => simp at hk
        | cons a l => simp
      have hsk := show_pipeline_ok (p := one.take (k + 1)) (fun c hc => h1 c (List.mem_of_mem_take hc)) (by rw [List.length_take]; omega)
      have hst : startsD (shows (one ++ oth)) (.str (shows (one.take (k + 1)))) = some (.d (.bl true)) := by
        unfold startsD
        dsimp only
        have := shows_starts (p := one.take (k + 1)) (q := one.drop (k + 1) ++ oth) ht
        rw [← List.append_assoc, List.take_append_drop] at this
        rw [this]
      refine ⟨[S, a1, a2, .fz (.lst (one.map Cmd.enc)), O, a5, .fz (.str (shows (one ++ oth))), .fz (.int (1 + (k : Int))), .un], [S, a1, a2, .fz (.lst (one.map Cmd.enc)), O, a5, .fz (.str (shows (one ++ oth))), .fz (.int (1 + (k : Int))), .un], ?_, .inl ?_, ⟨_, rfl, rfl⟩⟩
      · walk_at "ev"
      · clear hd
        walk_at "ev")
  exact ⟨a7', n7', e1⟩
theorem T3_ok {one oth : List Cmd} (h1 : ∀ c ∈ one, c.ok) (h2 : ∀ c ∈ oth, c.ok) (l1 : one.length ≤ 100) (l2 : oth.length ≤ 100) {S a1 a2 a5 a7 : Slot} (n7 : notTK (some a7) = true) :
    ∃ a7', notTK (some a7') = true ∧ T3K45 [S, a1, a2, .fz (.lst (one.map Cmd.enc)), .fz (.lst (oth.map Cmd.enc)), a5, .fz (.str (shows (one ++ oth))), a7, .un] = some (.nx [S, a1, a2, .fz (.lst (one.map Cmd.enc)), .fz (.lst (oth.map Cmd.enc)), a5, .fz (.str (shows (one ++ oth))), a7', .un]) := by
  have hall : ∀ c ∈ one ++ oth, c.ok := fun c hc => (List.mem_append.mp hc).elim (h1 c) (h2 c)
  have la : (one.map Cmd.enc).length + (oth.map Cmd.enc).length ≤ sizeLine := by rw [List.length_map, List.length_map]; unfold sizeLine; omega
  have hs := show_pipeline_ok hall (by rw [List.length_append]; omega)
  have hrd := read_pipeline_ok hall (by rw [List.length_append]; omega)
  have hne := eqstr (shows (one ++ oth))
  have hnl := cNe_self (n := 2) (by decide) (shp_cmds (one ++ oth))
  rw [List.map_append] at hs hrd hnl
  have hnR : noLs (one.map Cmd.enc ++ oth.map Cmd.enc) = true := by
    rw [← List.map_append]
    generalize one ++ oth = l
    induction l with
    | nil => rfl
    | cons a l ih => rw [List.map_cons, noLs, ih]; cases a <;> rfl
  have hL : one.length + oth.length ≤ 10000 := by omega
  have hc1 := cut_one one
  have hlm : (one.map Cmd.enc).length = one.length := List.length_map ..
  rw [hlm] at la
  have hL3 : (one ++ oth).length ≤ 10000 := by rw [List.length_append]; omega
  have hL2 : (one.take 1).length ≤ 10000 := by rw [List.length_take]; omega
  generalize hn : one.length = n at *
  have hr2 := r2K2_some (g := [S, a1, a2, .fz (.lst (one.map Cmd.enc)), .fz (.lst (oth.map Cmd.enc)), a5, .fz (.str (shows (one ++ oth))), a7, .un]) (i := 1) (n := (n : Int) + 1) ⟨by omega, by omega, by omega, by omega⟩
  rw [show ((n : Int) + 1 - 1).toNat = n by omega] at hr2
  obtain ⟨a7', n7', e1⟩ := loop_ok (S := S) (a1 := a1) (a2 := a2) (a5 := a5) (O := .fz (.lst (oth.map Cmd.enc))) (oth := oth) h1 (by omega) n7 hn.symm
  refine ⟨a7', n7', ?_⟩
  unfold T3K45
  have hemp : one = [] → n = 0 := fun e => by rw [← hn, e]; rfl
  have hcon : one ≠ [] → 0 < n := fun e => by rw [← hn]; exact List.length_pos_iff.mpr e
  clear hn
  by_cases he : one = []
  · have hneg : ¬ (0 : Int) < (n : Int) := by have := hemp he; omega
    clear hemp hcon he h1 h2 l1 l2 n7 hall
    walk_at "ev"
  · have hpos : (0 : Int) < (n : Int) := by have := hcon he; omega
    have hsp := split_okD (p := one ++ oth) (by simp [he]) hall hL3
    have hs1 := show_pipeline_ok (p := one.take 1) (fun c hc => h1 c (List.mem_of_mem_take hc)) hL2
    obtain ⟨c, hat, hc⟩ : ∃ c, atI ((one ++ oth).map fun c => D.str c.show) 0 = some (.str c) ∧ shows (one.take 1) = c := by
      cases one with
      | nil => exact absurd rfl he
      | cons c p =>
        refine ⟨c.show, at0, ?_⟩
        show shows [c] = c.show
        unfold shows
        rw [if_neg (by simp), List.map_cons, List.map_nil, join1]
    rw [hc] at hs1
    have hcc := eqstr c
    clear hemp hcon he hc h1 h2 l1 l2 n7 hall
    walk_at "ev"
def PK (S : Slot) (N : Nat) (g : G) : Prop := ∃ (l : List D) (a2 a3 a4 a5 a6 a7 : Slot), Rg N l ∧ g = [S, .ol false l, a2, a3, a4, a5, a6, a7, .un] ∧ notTK (some a2) = true ∧ notTK (some a3) = true ∧ notTK (some a4) = true ∧ notTK (some a5) = true ∧ notTK (some a6) = true ∧ notTK (some a7) = true
theorem lap_ok {S : Slot} {N : Nat} (hN : N + 1000 < 2 ^ 200) {g : G} (h : PK S N g) (d : D) : ∃ g1 g2, gN 2 d g = some g1 ∧ bodyK45 g1 = some (.nx g2) ∧ PK S (N + 50) g2 := by
  obtain ⟨l, a2, a3, a4, a5, a6, a7, hr, rfl, n2, n3, n4, n5, n6, n7⟩ := h
  obtain ⟨one, l1, p1, p2, p3, p4⟩ := any_plan_ok (most := 6) hr (by omega) (by decide)
  obtain ⟨oth, l2, q1, q2, q3, q4⟩ := any_plan_ok (most := 6) p3 (by omega) (by decide)
  replace p4 : M_law_any_plan [.ol true l, .fz (.int 6)] = some (.nw (one.map Cmd.enc), [.ol true l1, .fz (.int 6)]) := p4
  replace q4 : M_law_any_plan [.ol true l1, .fz (.int 6)] = some (.nw (oth.map Cmd.enc), [.ol true l2, .fz (.int 6)]) := q4
  have nl : ∀ p : List Cmd, noLs (p.map Cmd.enc) = true := fun p => by
    induction p with
    | nil => rfl
    | cons a l ih => rw [List.map_cons, noLs, ih]; cases a <;> rfl
  have x1 := nl one
  have x2 := nl oth
  have x3 := p3.noL
  have x4 := q3.noL
  obtain ⟨F, e1, hF⟩ := due_ok p2 q2 (by omega) (by omega) S (.ol false l2) (.fz d) (.fz (.lst (one.map Cmd.enc))) (.fz (.lst (oth.map Cmd.enc))) a5 a6 a7 n7
  have hlc := lcK_some (gf := gN 8) (ft := tst (eBin cNe (eVar 8) (eLst aNil))) (fe := eCall0 Mshow_pipeline (aCons (eVar 8) aNil)) (vs := [8]) (l := [.lst (one.map Cmd.enc), .lst (oth.map Cmd.enc)]) (g := [S, .ol false l2, .fz d, .fz (.lst (one.map Cmd.enc)), .fz (.lst (oth.map Cmd.enc)), a5, a6, a7, .un]) rfl (by simp)
  obtain ⟨a7', n7', e3⟩ := T3_ok p2 q2 (by omega) (by omega) (S := S) (a1 := .ol false l2) (a2 := .fz d) (a5 := .ol false F) n7
  refine ⟨[S, .ol false l, .fz d, a3, a4, a5, a6, a7, .un], [S, .ol false l2, .fz d, .fz (.lst (one.map Cmd.enc)), .fz (.lst (oth.map Cmd.enc)), .ol false F, .fz (.str (shows (one ++ oth))), a7', .un], ?_, ?_, l2, _, _, _, _, _, _, q3.mono (by omega), rfl, rfl, rfl, rfl, rfl, rfl, n7'⟩
  · walk_at "ev"
  · rcases hF with ⟨rfl, h0⟩ | ⟨h1, h2⟩
    · have hn0 : cNe (.lst []) (.lst []) = some (.d (.bl false)) := rfl
      rw [h0, shows_nil] at e3 ⊢
      clear h0 p1 p2 q1 q2 p3 q3 hr n7'
      unfold bodyK45
      walk_at "ev"
    · clear p1 p2 q1 q2 p3 q3 hr n7'
      unfold bodyK45
      walk_at "ev"
theorem main : LawHolds Mlaw := by
  intro ns hns
  obtain ⟨l, hr, e0⟩ := rng_ok hns
  have hnl := hr.noL
  obtain ⟨m, hm1, hm2⟩ : ∃ m : Nat, (if ((ns.map D.int).length : Int) < 12 then ((ns.map D.int).length : Int) else 12) = (m : Int) ∧ m ≤ 12 := by
    rw [List.length_map]
    by_cases h : (ns.length : Int) < 12
    · exact ⟨ns.length, by rw [if_pos h], by omega⟩
    · exact ⟨12, by rw [if_neg h]; rfl, by omega⟩
  have hri := r1K_some (g := [.fz (.sls (ns.map D.int)), .ol false l, .un, .un, .un, .un, .un, .un, .un]) (n := 12 + (m : Int)) ⟨by omega, by omega⟩
  obtain ⟨g', e1, l', a2, a3, a4, a5, a6, a7, hr', rfl, _⟩ := for_inv (L := rangeD 0 (12 + (m : Int)).toNat) (gf := gN 2) (fB := bodyK45)
    (fun pr g => PK (.fz (.sls (ns.map D.int))) (50 * pr.length) g) (l := rangeD 0 (12 + (m : Int)).toNat) (pr := []) (g := [.fz (.sls (ns.map D.int)), .ol false l, .un, .un, .un, .un, .un, .un, .un]) rfl
    ⟨l, _, _, _, _, _, _, hr, rfl, rfl, rfl, rfl, rfl, rfl, rfl⟩ (by
      intro pr d rest g e h
      have hlen : pr.length < 24 := by
        have := congrArg List.length e
        simp [rangeD] at this
        omega
      obtain ⟨g1, g2, h1, h2, h3⟩ := lap_ok (by omega) h d
      exact ⟨g1, g2, h1, .inl h2, by rw [List.length_append]; exact h3⟩)
  refine ⟨[.fz (.sls (ns.map D.int))], ?_⟩
  unfold Mlaw
  rw [dM_run (n := 1) rfl]
  have hb : Blaw = (sSeq (sAsg 1 (eCall0 M_law_rng (aCons (eVar 0) aNil)))
    (sSeq (sFor (iR1 (eBin addD (eC (.int 12)) (eCB minD (aCons (eC (.int 12)) (aCons (eCB lenD (aCons (eVar 0) aNil)) aNil))))) (gN 2) bodyK45) (sRet (eC (.bl true))))) := rfl
  rw [hb]
  generalize bodyK45 = B at *
  walk_at "ev"
end Lw

open PySem PySem.W PyProof.Rows
set_option maxRecDepth 100000 in
set_option maxHeartbeats 0 in
theorem PySem.Challenge.cw_pipeform_k45_whole_joined_texts_holds : PySem.Challenge.rw_pipeform_k45_whole_joined_texts.Holds := by
  w_on; o_law; k_head; (case hw => w_witness2)
  k_fill
  refine Sm.walkL (l := PySem.Challenge.rw_pipeform_k45_whole_joined_texts) (k := 4) rfl rfl (by decide) (fun w h Y => PySem.W.kIn_of Y) ?F
  case F =>
    intro w mg fa h KX G hmg
    refine' (Lw.allMk KX G ?a0 ?l0 ?c0 ?k0 ?a1 ?l1 ?c1 ?k1 ?a2 ?l2 ?c2 ?k2 ?a3 ?l3 ?c3 ?k3 ?a4 ?l4 ?c4 ?k4 ?a5 ?l5 ?c5 ?k5 ?a6 ?l6 ?c6 ?k6 ?a7 ?l7 ?c7 ?k7 ?a8 ?l8 ?c8 ?k8 ?a9 ?l9 ?c9 ?k9 ?z0 ?z1 ?z2 ?z3 ?z4 ?z5 ?z6 ?y0 ?y1 ?y2 ?y3 ?u3 ?y4 ?u4 ?y5).elim fun T => Lw.lawOk KX G T hmg Lw.main
    (case a0 => k_is)
    (case l0 => k_is)
    (case c0 => k_is)
    (case k0 => k_is)
    (case a1 => k_is)
    (case l1 => k_is)
    (case c1 => k_is)
    (case k1 => k_is)
    (case a2 => k_is)
    (case l2 => k_is)
    (case c2 => k_is)
    (case k2 => k_is)
    (case a3 => k_is)
    (case l3 => k_is)
    (case c3 => k_is)
    (case k3 => k_is)
    (case a4 => k_is)
    (case l4 => k_is)
    (case c4 => k_is)
    (case k4 => k_is)
    (case a5 => k_is)
    (case l5 => k_is)
    (case c5 => k_is)
    (case k5 => k_is)
    (case a6 => k_is)
    (case l6 => k_is)
    (case c6 => k_is)
    (case k6 => k_is)
    (case a7 => k_is)
    (case l7 => k_is)
    (case c7 => k_is)
    (case k7 => k_is)
    (case a8 => k_is)
    (case l8 => k_is)
    (case c8 => k_is)
    (case k8 => k_is)
    (case a9 => k_is)
    (case l9 => k_is)
    (case c9 => k_is)
    (case k9 => k_is)
    (case z0 => k_is)
    (case z1 => k_is)
    (case z2 => k_is)
    (case z3 => k_is)
    (case z4 => k_is)
    (case z5 => k_is)
    (case z6 => k_is)
    (case y0 => k_is)
    (case y1 => k_is)
    (case y2 => k_is)
    (case y3 => k_is)
    (case u3 => k_is)
    (case y4 => k_is)
    (case u4 => k_is)
    (case y5 => k_is)

