import PyProof.Rows.All
import Wide.All
import OpenK.AllK
import Wide.FinOn
import HandS.ForMost
import HandS.Wide
import HandS.Style
import HandS.TupAny
import HandS.Deep
import HandS.ExcInit
import HandS.ExcField
import HandS.ExcIs
import HandS.WordsExc
import HandS.Defaults
import HandS.Set
import HandS.SetBool
import PyProof.Rows.SetFrom
import PyProof.Rows.SortShellAny
import PyProof.ReprLen
import HandS.Dict
import KE.KExcIs
import HandS.IsInst
import HandS.More
import HandS.Conv
import KE.KDictZip
import HandS.GenList
import HandS.WideMore
import HandS.Iter
import HandS.SlotsOwn
import HandS.OwnEq
import PySem.Challenge.RW_pipeform_k29_live_errors
set_option Elab.async false
set_option linter.all false
set_option maxRecDepth 100000
set_option maxHeartbeats 4000000
namespace Sm
open PySem L2

/-! ## data, slots, results -/
inductive D where
  | non | bl (b : Bool) | int (i : Int) | str (s : Str) | tup (l : List D) | lst (l : List D) | sls (l : List D) | ins (c : Str) (fs : List (Str × D))
/-- a part of a composite: frozen, or a list of the composite's own, at q -/
inductive F where
  | fd (d : D) | fl (q : Addr) (l : List D)
/-- a list, a dict of texts, an instance -/
inductive OK where
  | li | di (ks : List Str) | ns (C : Str) (ks : List Str)
inductive Slot where
  | un | fz (d : D) | ol (b : Bool) (l : List D) | pin (v : V) | ob (b : Bool) (k : OK) (cs : List F) | xs (x : D)
def qs : List F → List Addr
  | [] => []
  | .fd _ :: cs => qs cs
  | .fl q _ :: cs => q :: qs cs
abbrev G := List Slot
inductive R where
  | d (x : D) | sl (i : Nat) | nw (l : List D) | pq (i : Nat) (q : Addr)
inductive O where
  | nx (g : G) | rt (r : R) (g : G) | bk (g : G) | ct (g : G) | xc (C : Str) (x : D) (g : G)

section
variable (K : PySem.W.Frag) (mg : Str → Option Value) (m : List Addr) (H : Hp)
mutual
inductive Fz : V → D → Prop
  | non : Fz .non .non
  | bl (b : Bool) : Fz (.bl b) (.bl b)
  | int (i : Int) : Fz (.int i) (.int i)
  | str (s : Str) : Fz (.str s) (.str s)
  | tup {a : Addr} {vs : List V} {ds : List D} (h : (a ∉ m ∧ Rd H a (.tup vs)) ∨ SqT K (fun _ => none) a vs) (t : FzL vs ds) : Fz (.ref a) (.tup ds)
  | lst {a : Addr} {vs : List V} {ds : List D} (h : a ∉ m) (e : H a = some (.lst vs)) (t : FzL vs ds) : Fz (.ref a) (.lst ds)
  | sls {a : Addr} {vs : List V} {ds : List D} (h : (a ∉ m ∧ ∃ o, H a = some (.frz o (.lst vs))) ∨ SqL K (fun _ => none) a vs) (t : FzL vs ds) : Fz (.ref a) (.sls ds)
  | ins {a C dx : Addr} {fvs : List (Str × V)} {c : Str} {fds : List (Str × D)} (h : a ∉ m) (e : H a = some (.ins C dx fvs)) (hc : mg c = some (.ref C)) (t : FzF fvs fds) : Fz (.ref a) (.ins c fds)
inductive FzL : List V → List D → Prop
  | nil : FzL [] []
  | cons {v : V} {d : D} {vs : List V} {ds : List D} : Fz v d → FzL vs ds → FzL (v :: vs) (d :: ds)
inductive FzF : List (Str × V) → List (Str × D) → Prop
  | nil : FzF [] []
  | cons {f : Str} {v : V} {d : D} {vs : List (Str × V)} {ds : List (Str × D)} : Fz v d → FzF vs ds → FzF ((f, v) :: vs) ((f, d) :: ds)
end
end

section
variable {K : PySem.W.Frag} {mg : Str → Option Value} {m m' : List Addr} {H H' : Hp}
theorem sqT_any {a : Addr} {vs : List V} (h : SqT K (fun _ => none) a vs) : SqT K H a vs := by
  rcases h with (h | ⟨o, h⟩) | h
  · exact nomatch h
  · exact nomatch h
  · exact .inr h
theorem sqL_any {a : Addr} {vs : List V} (h : SqL K (fun _ => none) a vs) : SqL K H a vs := by
  rcases h with (h | ⟨o, h⟩) | h
  · exact nomatch h
  · exact nomatch h
  · exact .inr h
mutual
theorem Fz.map (k : ∀ a o, a ∉ m → H a = some o → a ∉ m' ∧ H' a = some o) : ∀ {v : V} {d : D}, Fz K mg m H v d → Fz K mg m' H' v d
  | _, _, .non => .non
  | _, _, .bl b => .bl b
  | _, _, .int i => .int i
  | _, _, .str s => .str s
  | _, _, .tup h t => .tup (by
      rcases h with ⟨h1, h2 | ⟨o, h2⟩⟩ | h
      · exact .inl ⟨(k _ _ h1 h2).1, .inl (k _ _ h1 h2).2⟩
      · exact .inl ⟨(k _ _ h1 h2).1, .inr ⟨o, (k _ _ h1 h2).2⟩⟩
      · exact .inr h) (FzL.map k t)
  | _, _, .lst h e t => .lst (k _ _ h e).1 (k _ _ h e).2 (FzL.map k t)
  | _, _, .sls h t => .sls (by
      rcases h with ⟨h1, o, h2⟩ | h
      · exact .inl ⟨(k _ _ h1 h2).1, o, (k _ _ h1 h2).2⟩
      · exact .inr h) (FzL.map k t)
  | _, _, .ins h e hc t => .ins (k _ _ h e).1 (k _ _ h e).2 hc (FzF.map k t)
theorem FzL.map (k : ∀ a o, a ∉ m → H a = some o → a ∉ m' ∧ H' a = some o) : ∀ {v : List V} {d : List D}, FzL K mg m H v d → FzL K mg m' H' v d
  | _, _, .nil => .nil
  | _, _, .cons h t => .cons (Fz.map k h) (FzL.map k t)
theorem FzF.map (k : ∀ a o, a ∉ m → H a = some o → a ∉ m' ∧ H' a = some o) : ∀ {v : List (Str × V)} {d : List (Str × D)}, FzF K mg m H v d → FzF K mg m' H' v d
  | _, _, .nil => .nil
  | _, _, .cons h t => .cons (Fz.map k h) (FzF.map k t)
end
theorem FzL.length : ∀ {vs : List V} {ds : List D}, FzL K mg m H vs ds → vs.length = ds.length
  | _, _, .nil => rfl
  | _, _, .cons _ t => congrArg Nat.succ (FzL.length t)
theorem FzL.get : ∀ {vs : List V} {ds : List D} {i : Nat} {d : D}, FzL K mg m H vs ds → ds[i]? = some d → ∃ v, vs[i]? = some v ∧ Fz K mg m H v d
  | _, _, 0, _, .cons h t, e => ⟨_, rfl, by cases e; exact h⟩
  | _, _, i + 1, _, .cons h t, e => FzL.get (i := i) t e
theorem FzL.app : ∀ {vs ws : List V} {ds es : List D}, FzL K mg m H vs ds → FzL K mg m H ws es → FzL K mg m H (vs ++ ws) (ds ++ es)
  | _, _, _, _, .nil, s => s
  | _, _, _, _, .cons h t, s => .cons h (FzL.app t s)
theorem FzL.one {v : V} {d : D} (h : Fz K mg m H v d) : FzL K mg m H [v] [d] := .cons h .nil
theorem FzL.set {v : V} {d : D} (h : Fz K mg m H v d) : ∀ {vs : List V} {ds : List D} (i : Nat), FzL K mg m H vs ds → FzL K mg m H (vs.set i v) (ds.set i d)
  | _, _, _, .nil => .nil
  | _, _, 0, .cons _ t => .cons h t
  | _, _, i + 1, .cons g t => .cons g (FzL.set h i t)
theorem FzL.take : ∀ {vs : List V} {ds : List D} (n : Nat), FzL K mg m H vs ds → FzL K mg m H (vs.take n) (ds.take n)
  | _, _, 0, _ => .nil
  | _, _, _ + 1, .nil => .nil
  | _, _, n + 1, .cons g t => .cons g (FzL.take n t)
theorem FzL.drop : ∀ {vs : List V} {ds : List D} (n : Nat), FzL K mg m H vs ds → FzL K mg m H (vs.drop n) (ds.drop n)
  | _, _, 0, t => t
  | _, _, _ + 1, .nil => .nil
  | _, _, n + 1, .cons g t => FzL.drop n t
theorem FzL.rev : ∀ {vs : List V} {ds : List D}, FzL K mg m H vs ds → FzL K mg m H vs.reverse ds.reverse
  | _, _, .nil => .nil
  | _, _, .cons g t => by
    rw [List.reverse_cons, List.reverse_cons]
    exact FzL.app (FzL.rev t) (FzL.one g)
theorem FzL.erase : ∀ {vs : List V} {ds : List D} (i : Nat), FzL K mg m H vs ds → FzL K mg m H (vs.eraseIdx i) (ds.eraseIdx i)
  | _, _, _, .nil => .nil
  | _, _, 0, .cons g t => t
  | _, _, i + 1, .cons g t => .cons g (FzL.erase i t)
theorem FzL.dropLast {vs : List V} {ds : List D} (h : FzL K mg m H vs ds) : FzL K mg m H vs.dropLast ds.dropLast := by
  rw [List.dropLast_eq_take, List.dropLast_eq_take, h.length]
  exact h.take _
theorem FzL.rep {vs : List V} {ds : List D} (h : FzL K mg m H vs ds) : ∀ n : Nat, FzL K mg m H (List.replicate n vs).flatten (List.replicate n ds).flatten
  | 0 => .nil
  | n + 1 => by
    rw [List.replicate_succ, List.replicate_succ, List.flatten_cons, List.flatten_cons]
    exact FzL.app h (FzL.rep h n)
end

/-! ## states -/
/-- what is fixed through a body: the heap at its entry, the mutable addresses then, the addresses of the lists that are handed in to be changed -/
structure C0 where
  H0 : Hp
  m0 : List Addr
  pa : Nat → Option Addr
  po : Nat → Option (OK × List Addr)
  W : WX := fun _ _ _ _ => False
  ea : Addr := 0
  ed : Addr := 0
def C0.pq (c : C0) (a : Addr) : Prop := ∃ i k l, c.po i = some (k, l) ∧ a ∈ l

/-- the object at a composite's address, its parts -/
def HasOb (mg : Str → Option Value) (o : HO) (vs : List V) : OK → Prop
  | .li => o = .lst vs
  | .di ks => ks.Nodup ∧ ks.length = vs.length ∧ o = .dK ((ks.map Sum.inr).zip vs)
  | .ns C ks => ks.Nodup ∧ ks.length = vs.length ∧ ∃ Ca dx, mg C = some (.ref Ca) ∧ o = .ins Ca dx (ks.zip vs)
section
variable (K : PySem.W.Frag) (mg : Str → Option Value) (m : List Addr) (H : Hp)
def CF : V → F → Prop
  | v, .fd d => Fz K mg m H v d
  | v, .fl q l => v = .ref q ∧ q ∈ m ∧ ∃ ws, H q = some (.lst ws) ∧ FzL K mg m H ws l
inductive CFs : List V → List F → Prop
  | nil : CFs [] []
  | cons {v : V} {f : F} {vs : List V} {fs : List F} : CF K mg m H v f → CFs vs fs → CFs (v :: vs) (f :: fs)
end
section
variable {K : PySem.W.Frag} {mg : Str → Option Value} {m m' : List Addr} {H H' : Hp}
theorem CF.map (k : ∀ a o, a ∉ m → H a = some o → a ∉ m' ∧ H' a = some o) : ∀ {v : V} {f : F}, (∀ q ∈ qs [f], q ∈ m' ∧ H' q = H q) → CF K mg m H v f → CF K mg m' H' v f
  | v, .fd d, _, h => Fz.map k h
  | v, .fl q l, hq, h => by
    obtain ⟨e, h1, ws, h2, h3⟩ := h
    obtain ⟨h4, h5⟩ := hq q (List.mem_cons_self ..)
    exact ⟨e, h4, ws, by rw [h5]; exact h2, h3.map k⟩
theorem qs_cons {f : F} {cs : List F} {q : Addr} : q ∈ qs (f :: cs) ↔ q ∈ qs [f] ∨ q ∈ qs cs := by
  cases f with
  | fd d => simp [qs]
  | fl p l => simp [qs]
theorem CFs.map (k : ∀ a o, a ∉ m → H a = some o → a ∉ m' ∧ H' a = some o) : ∀ {vs : List V} {cs : List F}, (∀ q ∈ qs cs, q ∈ m' ∧ H' q = H q) → CFs K mg m H vs cs → CFs K mg m' H' vs cs
  | _, _, _, .nil => .nil
  | _, _, hq, .cons h t => .cons (h.map k fun q z => hq q (qs_cons.mpr (.inl z))) (CFs.map k (fun q z => hq q (qs_cons.mpr (.inr z))) t)
theorem CFs.mem : ∀ {vs : List V} {cs : List F}, CFs K mg m H vs cs → ∀ q ∈ qs cs, q ∈ m ∧ H q ≠ none
  | _, _, .nil, q, h => nomatch h
  | _, _, .cons (f := f) h t, q, hq => by
    rcases qs_cons.mp hq with z | z
    · cases f with
      | fd d => cases z
      | fl p l =>
        obtain ⟨_, h1, ws, h2, _⟩ := h
        rw [List.mem_singleton.mp z]
        exact ⟨h1, by rw [h2]; exact fun z => nomatch z⟩
    · exact CFs.mem t q z
end

/-- the inner addresses handed in with a composite: they may become fewer -/
def po_ (o : Option (OK × List Addr)) (k : OK) (l : List Addr) : Prop := ∃ l0, o = some (k, l0) ∧ ∀ q ∈ l, q ∈ l0
/-- the list of the part at q -/
def ldQ : List F → Addr → Option (List D)
  | [], _ => none
  | .fd _ :: cs, a => ldQ cs a
  | .fl q l :: cs, a => if q = a then some l else ldQ cs a
theorem ldQ_ok {K : PySem.W.Frag} {mg : Str → Option Value} {m : List Addr} {H : Hp} {q : Addr} {l : List D} : ∀ {vs : List V} {cs : List F}, CFs K mg m H vs cs → ldQ cs q = some l → q ∈ qs cs ∧ ∃ ws, H q = some (.lst ws) ∧ FzL K mg m H ws l
  | _, _, .nil, e => by cases e
  | _, _, .cons (f := .fd d) h t, e => by
    unfold ldQ at e
    obtain ⟨h1, h2⟩ := ldQ_ok t e
    exact ⟨h1, h2⟩
  | _, _, .cons (f := .fl p l0) h t, e => by
    unfold ldQ at e
    split at e
    · cases e
      rename_i hq
      subst hq
      obtain ⟨_, _, ws, h1, h2⟩ := h
      exact ⟨List.mem_cons_self, ws, h1, h2⟩
    · obtain ⟨h1, h2⟩ := ldQ_ok t e
      exact ⟨List.mem_cons_of_mem _ h1, h2⟩
/-- what a slot owns -/
def SOwn (s : Slot) (w : Option (Option V)) (a : Addr) : Prop := match s with
  | .ol _ _ => w = some (some (.ref a))
  | .ob _ _ cs => w = some (some (.ref a)) ∨ a ∈ qs cs
  | _ => False
def Own (g : G) (σ : St) (a : Addr) : Prop := ∃ (i : Nat) (s : Slot), g[i]? = some s ∧ SOwn s σ[i]? a

structure Abs (K : PySem.W.Frag) (mg : Str → Option Value) (c : C0) (m : List Addr) (g : G) (σ : St) (H : Hp) : Prop where
  len : g.length = σ.length
  fz : ∀ (i : Nat) (d : D), g[i]? = some (.fz d) → ∃ v, σ[i]? = some (some v) ∧ Fz K mg m H v d
  ol : ∀ (i : Nat) (b : Bool) (l : List D), g[i]? = some (.ol b l) → ∃ p vs, σ[i]? = some (some (.ref p)) ∧ p ∈ m ∧ H p = some (.lst vs) ∧ FzL K mg m H vs l ∧ (if b = true then c.pa i = some p ∧ c.po i = none else c.H0 p = none)
  nn : ∀ (i j : Nat) (s t : Slot) (a : Addr), g[i]? = some s → g[j]? = some t → SOwn s σ[i]? a → SOwn t σ[j]? a → i = j
  trk : ∀ a ∈ m, H a ≠ none
  keep : ∀ a o, (∀ i, c.pa i ≠ some a) → ¬ c.pq a → c.H0 a = some o → H a = some o
  sub : ∀ a ∈ c.m0, a ∈ m ∧ c.H0 a ≠ none
  pas : ∀ (i : Nat) (p : Addr), c.pa i = some p → p ∈ c.m0 ∧ ((∃ l, g[i]? = some (.ol true l)) ∨ ∃ k cs, g[i]? = some (.ob true k cs))
  pin : ∀ (i : Nat) (v : V), g[i]? = some (.pin v) → σ[i]? = some (some v)
  ob : ∀ (i : Nat) (b : Bool) (k : OK) (cs : List F), g[i]? = some (.ob b k cs) → ∃ p o vs, σ[i]? = some (some (.ref p)) ∧ p ∈ m ∧ H p = some o ∧ HasOb mg o vs k ∧ CFs K mg m H vs cs ∧ (p :: qs cs).Nodup ∧ (if b = true then c.pa i = some p ∧ po_ (c.po i) k (qs cs) else c.H0 p = none ∧ ∀ q ∈ qs cs, c.H0 q = none)
  pqs : ∀ q, c.pq q → q ∈ c.m0
  xs : ∀ (i : Nat) (x : D), g[i]? = some (.xs x) → σ[i]? = some (some (.ref c.ea)) ∧ c.ed ∉ m ∧ ∃ v, H c.ed = some (.xd [("value", v)]) ∧ Fz K mg m H v x
theorem Abs.ne {K : PySem.W.Frag} {mg : Str → Option Value} {c : C0} {m : List Addr} {g : G} {σ : St} {H : Hp} (A : Abs K mg c m g σ H) (i j : Nat) (b : Bool) (l : List D) (b' : Bool) (l' : List D) (p : Addr) (h : g[i]? = some (.ol b l)) (h' : g[j]? = some (.ol b' l')) (e : σ[i]? = some (some (.ref p))) (e' : σ[j]? = some (some (.ref p))) : i = j :=
  A.nn i j _ _ p h h' e e'

structure Stp (m : List Addr) (g : G) (σ : St) (H : Hp) (m' : List Addr) (g' : G) (σ' : St) (H' : Hp) : Prop where
  fr : ∀ a ∈ m', a ∈ m ∨ H a = none
  kp : ∀ a o, ¬ Own g σ a → H a = some o → H' a = some o
  mo : ∀ a ∈ m, H a ≠ none → a ∈ m' ∨ Own g σ a
  ow : ∀ a, Own g' σ' a → Own g σ a ∨ H a = none
  tk : ∀ a, H a ≠ none → H' a ≠ none

section
variable {K : PySem.W.Frag} {mg : Str → Option Value} {c : C0} {m m1 m2 : List Addr} {g g1 g2 : G} {σ σ1 σ2 : St} {H H1 H2 : Hp}
theorem Stp.refl : Stp m g σ H m g σ H := ⟨fun _ h => .inl h, fun _ _ _ h => h, fun _ h _ => .inl h, fun _ h => .inl h, fun _ h => h⟩
theorem Stp.trans (s : Stp m g σ H m1 g1 σ1 H1) (t : Stp m1 g1 σ1 H1 m2 g2 σ2 H2) : Stp m g σ H m2 g2 σ2 H2 where
  fr := fun a h => by
    rcases t.fr a h with h | h
    · exact s.fr a h
    · exact .inr (Classical.byContradiction fun q => s.tk a q h)
  kp := fun a o n e => by
    refine t.kp a o (fun w => ?_) (s.kp a o n e)
    rcases s.ow a w with w | w
    · exact n w
    · rw [e] at w; cases w
  mo := fun a h e => by
    rcases s.mo a h e with h | h
    · rcases t.mo a h (s.tk a e) with h | h
      · exact .inl h
      · rcases s.ow a h with h | h
        · exact .inr h
        · exact absurd h e
    · exact .inr h
  ow := fun a h => by
    rcases t.ow a h with h | h
    · exact s.ow a h
    · exact .inr (Classical.byContradiction fun q => s.tk a q h)
  tk := fun a h => t.tk a (s.tk a h)
theorem Abs.own_mem (A : Abs K mg c m g σ H) {a : Addr} (h : Own g σ a) : a ∈ m := by
  obtain ⟨i, s, h1, h2⟩ := h
  cases s with
  | ol b l =>
    obtain ⟨p, vs, h3, h4, _⟩ := A.ol i b l h1
    have h2 : σ[i]? = some (some (.ref a)) := h2
    rw [h2] at h3
    cases h3
    exact h4
  | ob b k cs =>
    obtain ⟨p, o, vs, h3, h4, _, _, h5, _⟩ := A.ob i b k cs h1
    rcases h2 with h2 | h2
    · rw [h2] at h3
      cases h3
      exact h4
    · exact (h5.mem a h2).1
  | un => exact h2.elim
  | fz d => exact h2.elim
  | pin v => exact h2.elim
  | xs x => exact h2.elim
theorem Stp.fzk (A : Abs K mg c m g σ H) (s : Stp m g σ H m1 g1 σ1 H1) : ∀ a o, a ∉ m → H a = some o → a ∉ m1 ∧ H1 a = some o := fun a o h e => by
  refine ⟨fun q => ?_, s.kp a o (fun w => h (A.own_mem w)) e⟩
  rcases s.fr a q with q | q
  · exact h q
  · rw [e] at q; cases q
theorem Fz.step (A : Abs K mg c m g σ H) (s : Stp m g σ H m1 g1 σ1 H1) {v : V} {d : D} (h : Fz K mg m H v d) : Fz K mg m1 H1 v d := h.map (Stp.fzk A s)
theorem FzL.step (A : Abs K mg c m g σ H) (s : Stp m g σ H m1 g1 σ1 H1) {v : List V} {d : List D} (h : FzL K mg m H v d) : FzL K mg m1 H1 v d := h.map (Stp.fzk A s)
end

/-- an exception on its way: of the class C, its value x in its own dict at d -/
def XOk (K : PySem.W.Frag) (mg : Str → Option Value) (m : List Addr) (H : Hp) (C : Str) (x : D) (cls : Value) (d : Option Addr) : Prop :=
  ∃ (Ca dd : Addr) (v : V), cls = .ref Ca ∧ mg C = some (.ref Ca) ∧ d = some dd ∧ dd ∉ m ∧ H dd = some (.xd [("value", v)]) ∧ Fz K mg m H v x
/-- an expression's value -/
def VR (K : PySem.W.Frag) (mg : Str → Option Value) (c : C0) (m : List Addr) (g : G) (σ : St) (H : Hp) (v : V) : R → Prop
  | .d x => Fz K mg m H v x
  | .sl i => σ[i]? = some (some v)
  | .nw l => ∃ p vs, v = .ref p ∧ p ∈ m ∧ H p = some (.lst vs) ∧ FzL K mg m H vs l ∧ ¬ Own g σ p ∧ c.H0 p = none
  | .pq _ q => v = .ref q
/-- a fresh list is fresh -/
def Nw (H : Hp) (v : V) (r : R) : Prop := ∀ l, r = .nw l → ∀ p, v = .ref p → H p = none
section
variable {K : PySem.W.Frag} {mg : Str → Option Value} {c : C0} {m m1 m2 : List Addr} {g g1 g2 : G} {σ σ1 σ2 : St} {H H1 H2 : Hp} {v : V} {r : R}
theorem VR.step (A : Abs K mg c m g σ H) (s : Stp m g σ H m1 g1 σ H1) (h : VR K mg c m g σ H v r) : VR K mg c m1 g1 σ H1 v r := by
  cases r with
  | d x => exact Fz.step A s h
  | sl i => exact h
  | pq i q => exact h
  | nw l =>
    obtain ⟨p, vs, e, hm, hp, hv, ho, h0⟩ := h
    refine ⟨p, vs, e, ?_, s.kp p _ ho hp, hv.step A s, fun w => ?_, h0⟩
    · rcases s.mo p hm (by rw [hp]; exact fun z => nomatch z) with q | q
      · exact q
      · exact absurd q ho
    · rcases s.ow p w with w | w
      · exact ho w
      · rw [hp] at w; cases w
theorem Nw.back (s : Stp m g σ H m1 g1 σ1 H1) (h : Nw H1 v r) : Nw H v r := fun l e p q => by
  have z := h l e p q
  exact Classical.byContradiction fun w => s.tk p w z
end

/-! ## reading a result -/
def fdOf : F → D
  | .fd d => d
  | .fl _ l => .lst l
/-- a composite, as it can be read now -/
def obD : OK → List F → Option D
  | .ns C ks, cs => some (.ins C (ks.zip (cs.map fdOf)))
  | _, _ => none
def ld (g : G) : R → Option D
  | .d x => some x
  | .pq i q => match g[i]? with
    | some (.ob _ _ cs) => (ldQ cs q).map .lst
    | _ => none
  | .sl i => match g[i]? with
    | some (.ol _ l) => some (.lst l)
    | some (.fz d) => some d
    | _ => none
  | .nw l => some (.lst l)
/-- v may be read as d now; the items may be handed on -/
def Vw (K : PySem.W.Frag) (mg : Str → Option Value) (m : List Addr) (H : Hp) (v : V) (d : D) : Prop :=
  match d with
  | .lst ds => ∃ a vs, v = .ref a ∧ H a = some (.lst vs) ∧ FzL K mg m H vs ds
  | d => Fz K mg m H v d
section
variable {K : PySem.W.Frag} {mg : Str → Option Value} {c : C0} {m m1 m2 : List Addr} {g g1 g2 : G} {σ σ1 σ2 : St} {H H1 H2 : Hp} {v : V} {r : R} {d : D}
theorem Fz.vw (h : Fz K mg m H v d) : Vw K mg m H v d := by
  cases h with
  | lst h e t => exact ⟨_, _, rfl, e, t⟩
  | non => exact .non
  | bl b => exact .bl b
  | int i => exact .int i
  | str s => exact .str s
  | tup h t => exact .tup h t
  | sls h t => exact .sls h t
  | ins h e hc t => exact .ins h e hc t
theorem VR.ld (A : Abs K mg c m g σ H) (h : VR K mg c m g σ H v r) (e : ld g r = some d) : Vw K mg m H v d := by
  cases r with
  | d x => cases e; exact h.vw
  | sl i =>
    have h : σ[i]? = some (some v) := h
    simp only [Sm.ld] at e
    cases q : g[i]? with
    | none => rw [q] at e; cases e
    | some s =>
      rw [q] at e
      cases s with
      | un => cases e
      | pin v => cases e
      | ob b k cs => cases e
      | xs x => cases e
      | fz x =>
        cases e
        obtain ⟨w, h1, h2⟩ := A.fz i _ q
        rw [h] at h1; cases h1
        exact h2.vw
      | ol b l =>
        cases e
        obtain ⟨p, vs, h1, h2, h3, h4, _⟩ := A.ol i b l q
        rw [h] at h1; cases h1
        exact ⟨p, vs, rfl, h3, h4⟩
  | nw l =>
    cases e
    obtain ⟨p, vs, e, hm, hp, hv, ho, h0⟩ := h
    exact ⟨p, vs, e, hp, hv⟩
  | pq i p =>
    simp only [Sm.ld] at e
    split at e
    · rename_i b k cs hg
      obtain ⟨l, h1, h2⟩ := Option.map_eq_some_iff.mp e
      subst h2
      obtain ⟨_, o, vs, _, _, _, _, h3, _⟩ := A.ob i b k cs hg
      obtain ⟨_, ws, h4, h5⟩ := ldQ_ok h3 h1
      exact ⟨p, ws, h, h4, h5⟩
    · cases e
end

/-! ## freezing a result -/
def frz (g : G) : R → Option (D × G)
  | .d x => some (x, g)
  | .sl i => match g[i]? with
    | some (.ol false l) => some (.lst l, g.set i (.fz (.lst l)))
    | some (.fz d) => some (d, g)
    | _ => none
  | .nw l => some (.lst l, g)
  | .pq _ _ => none
section
variable {K : PySem.W.Frag} {mg : Str → Option Value} {c : C0} {m m1 m2 : List Addr} {g g1 g2 : G} {σ σ1 σ2 : St} {H H1 H2 : Hp} {v : V} {r : R} {d : D}
theorem lt_of_get {α : Type} {l : List α} {i : Nat} {x : α} (h : l[i]? = some x) : i < l.length := (List.getElem?_eq_some_iff.mp h).1
theorem get_set {α : Type} {l : List α} {i j : Nat} {x y : α} (h : (l.set i x)[j]? = some y) : (i = j ∧ y = x) ∨ (i ≠ j ∧ l[j]? = some y) := by
  by_cases e : i = j
  · subst e
    have hl := lt_of_get h
    rw [List.length_set] at hl
    rw [List.getElem?_set_self hl] at h
    cases h
    exact .inl ⟨rfl, rfl⟩
  · rw [List.getElem?_set_ne e] at h
    exact .inr ⟨e, h⟩
/-- the mutable addresses without one that nobody owns -/
def less (m : List Addr) (p : Addr) : List Addr := m.filter fun a => decide (a ≠ p)
theorem mem_less {m : List Addr} {p a : Addr} : a ∈ less m p ↔ a ∈ m ∧ a ≠ p := by
  unfold less
  rw [List.mem_filter, decide_eq_true_eq]
theorem Fz.less {p : Addr} (h : Fz K mg m H v d) : Fz K mg (less m p) H v d := h.map fun a o n e => ⟨fun q => n (mem_less.mp q).1, e⟩
theorem FzL.less {p : Addr} {vs : List V} {ds : List D} (h : FzL K mg m H vs ds) : FzL K mg (Sm.less m p) H vs ds := h.map fun a o n e => ⟨fun q => n (mem_less.mp q).1, e⟩
theorem Abs.drop {p : Addr} (A : Abs K mg c m g σ H) (ho : ¬ Own g σ p) (h0 : c.H0 p = none) : Abs K mg c (less m p) g σ H where
  len := A.len
  fz := fun i d h => let ⟨v, h1, h2⟩ := A.fz i d h; ⟨v, h1, h2.less⟩
  ol := fun i b l h => by
    obtain ⟨q, vs, h1, h2, h3, h4, h5⟩ := A.ol i b l h
    exact ⟨q, vs, h1, mem_less.mpr ⟨h2, fun z => ho (z ▸ ⟨i, _, h, h1⟩)⟩, h3, h4.less, h5⟩
  nn := A.nn
  trk := fun a h => A.trk a (mem_less.mp h).1
  keep := A.keep
  sub := fun a h => ⟨mem_less.mpr ⟨(A.sub a h).1, fun z => (A.sub a h).2 (z ▸ h0)⟩, (A.sub a h).2⟩
  pas := A.pas
  pin := A.pin
  pqs := A.pqs
  xs := fun i x h => by
    obtain ⟨h1, h2, v, h3, h4⟩ := A.xs i x h
    exact ⟨h1, fun z => h2 (mem_less.mp z).1, v, h3, h4.less⟩
  ob := fun i b k cs h => by
    obtain ⟨q, o, vs, h1, h2, h3, h4, h5, h6, h7⟩ := A.ob i b k cs h
    refine ⟨q, o, vs, h1, mem_less.mpr ⟨h2, fun z => ho (z ▸ ⟨i, _, h, .inl h1⟩)⟩, h3, h4, h5.map (fun a o n e => ⟨fun q => n (mem_less.mp q).1, e⟩) fun a z => ⟨mem_less.mpr ⟨(h5.mem a z).1, fun w => ho (w ▸ ⟨i, _, h, .inr z⟩)⟩, rfl⟩, h6, h7⟩
/-- the list owned by slot i is owned no more -/
theorem Abs.melt {i : Nat} {l : List D} {p : Addr} {vs : List V} (A : Abs K mg c m g σ H) (hg : g[i]? = some (.ol false l)) (hσ : σ[i]? = some (some (.ref p))) (hp : H p = some (.lst vs)) (hv : FzL K mg m H vs l) (h0 : c.H0 p = none) :
    Abs K mg c (less m p) (g.set i (.fz (.lst l))) σ H where
  len := by rw [List.length_set]; exact A.len
  fz := fun j d h => by
    rcases get_set h with ⟨rfl, e⟩ | ⟨e, h⟩
    · cases e
      exact ⟨.ref p, hσ, .lst (fun q => (mem_less.mp q).2 rfl) hp hv.less⟩
    · obtain ⟨v, h1, h2⟩ := A.fz j d h
      exact ⟨v, h1, h2.less⟩
  ol := fun j b l' h => by
    rcases get_set h with ⟨rfl, e⟩ | ⟨e, h⟩
    · cases e
    · obtain ⟨q, ws, h1, h2, h3, h4, h5⟩ := A.ol j b l' h
      exact ⟨q, ws, h1, mem_less.mpr ⟨h2, fun z => e (A.ne i j _ _ _ _ p hg h hσ (z ▸ h1))⟩, h3, h4.less, h5⟩
  nn := fun j k s t q h h' e e' => by
    rcases get_set h with ⟨rfl, z⟩ | ⟨_, h⟩
    · cases z; exact e.elim
    · rcases get_set h' with ⟨rfl, z⟩ | ⟨_, h'⟩
      · cases z; exact e'.elim
      · exact A.nn j k _ _ q h h' e e'
  trk := fun a h => A.trk a (mem_less.mp h).1
  keep := A.keep
  sub := fun a h => ⟨mem_less.mpr ⟨(A.sub a h).1, fun z => (A.sub a h).2 (z ▸ h0)⟩, (A.sub a h).2⟩
  pas := fun j q h => by
    obtain ⟨h1, h2⟩ := A.pas j q h
    refine ⟨h1, ?_⟩
    have e : i ≠ j := fun z => by subst z; rw [hg] at h2; rcases h2 with ⟨_, h2⟩ | ⟨_, _, h2⟩ <;> cases h2
    rw [List.getElem?_set_ne e]
    exact h2
  pin := fun j v h => by
    rcases get_set h with ⟨_, e⟩ | ⟨_, h⟩
    · cases e
    · exact A.pin j v h
  pqs := A.pqs
  xs := fun j x h => by
    rcases get_set h with ⟨_, e⟩ | ⟨_, h⟩
    · cases e
    · obtain ⟨h1, h2, v, h3, h4⟩ := A.xs j x h
      exact ⟨h1, fun z => h2 (mem_less.mp z).1, v, h3, h4.less⟩
  ob := fun j b k cs h => by
    rcases get_set h with ⟨_, e⟩ | ⟨e, h⟩
    · cases e
    · obtain ⟨q, o, ws, h1, h2, h3, h4, h5, h6, h7⟩ := A.ob j b k cs h
      refine ⟨q, o, ws, h1, mem_less.mpr ⟨h2, fun z => e (A.nn i j _ _ p hg h hσ (.inl (z ▸ h1)))⟩, h3, h4, h5.map (fun a o n e => ⟨fun q => n (mem_less.mp q).1, e⟩) fun a z => ⟨mem_less.mpr ⟨(h5.mem a z).1, fun w => e (A.nn i j _ _ p hg h hσ (.inr (w ▸ z)))⟩, rfl⟩, h6, h7⟩
theorem own_melt {i : Nat} {s : D} {a : Addr} (h : Own (g.set i (.fz s)) σ a) : Own g σ a := by
  obtain ⟨j, s, h1, h2⟩ := h
  rcases get_set h1 with ⟨_, e⟩ | ⟨_, e⟩
  · cases e; exact h2.elim
  · exact ⟨j, s, e, h2⟩
/-- the same, less sharp: it may have been frozen already -/
def VRw (K : PySem.W.Frag) (mg : Str → Option Value) (c : C0) (m : List Addr) (g : G) (σ : St) (H : Hp) (v : V) : R → Prop
  | .d x => Fz K mg m H v x
  | .sl i => σ[i]? = some (some v)
  | .nw l => ∃ p vs, v = .ref p ∧ H p = some (.lst vs) ∧ FzL K mg m H vs l ∧ ¬ Own g σ p ∧ c.H0 p = none
  | .pq _ q => v = .ref q
theorem VR.w (h : VR K mg c m g σ H v r) : VRw K mg c m g σ H v r := by
  cases r with
  | nw l => obtain ⟨p, vs, e, _, h1, h2, h3, h4⟩ := h; exact ⟨p, vs, e, h1, h2, h3, h4⟩
  | _ => exact h
theorem VRw.sub (h : VRw K mg c m1 g1 σ H v r) (hm : ∀ a ∈ m2, a ∈ m1) (ho : ∀ a, Own g2 σ a → Own g1 σ a) : VRw K mg c m2 g2 σ H v r := by
  have k : ∀ a o, a ∉ m1 → H a = some o → a ∉ m2 ∧ H a = some o := fun a o n e => ⟨fun q => n (hm a q), e⟩
  cases r with
  | d x => exact Fz.map k h
  | sl i => exact h
  | pq i q => exact h
  | nw l => obtain ⟨p, vs, e, h1, h2, h3, h4⟩ := h; exact ⟨p, vs, e, h1, h2.map k, fun w => h3 (ho _ w), h4⟩
theorem frz_ok (S : Stp m g σ H m1 g1 σ H1) (A1 : Abs K mg c m1 g1 σ H1) (h : VRw K mg c m1 g1 σ H1 v r) (n : Nw H v r) (e : frz g1 r = some (d, g2)) :
    ∃ m2, Abs K mg c m2 g2 σ H1 ∧ Stp m g σ H m2 g2 σ H1 ∧ Fz K mg m2 H1 v d ∧ (∀ a ∈ m2, a ∈ m1) ∧ (∀ a, Own g2 σ a → Own g1 σ a) := by
  cases r with
  | pq i q => cases e
  | d x =>
    cases e
    exact ⟨m1, A1, S, h, fun _ z => z, fun _ z => z⟩
  | sl i =>
    have h : σ[i]? = some (some v) := h
    simp only [frz] at e
    cases q : g1[i]? with
    | none => rw [q] at e; cases e
    | some s =>
      rw [q] at e
      cases s with
      | un => cases e
      | pin v => cases e
      | ob b k cs => cases e
      | xs x => cases e
      | fz x =>
        cases e
        obtain ⟨w, h1, h2⟩ := A1.fz i _ q
        rw [h] at h1; cases h1
        exact ⟨m1, A1, S, h2, fun _ z => z, fun _ z => z⟩
      | ol b l =>
        cases b with
        | true => cases e
        | false =>
          cases e
          obtain ⟨p, vs, h1, h2, h3, h4, h5⟩ := A1.ol i _ l q
          rw [h] at h1; cases h1
          have h5 : c.H0 p = none := h5
          have op : Own g1 σ p := ⟨i, _, q, h⟩
          refine ⟨less m1 p, A1.melt q h h3 h4 h5, S.trans ⟨fun a z => .inl (mem_less.mp z).1, fun a o _ z => z, fun a z _ => ?_, fun a z => .inl (own_melt z), fun a z => z⟩, .lst (fun z => (mem_less.mp z).2 rfl) h3 h4.less, fun _ z => (mem_less.mp z).1, fun _ z => own_melt z⟩
          by_cases w : a = p
          · exact .inr (w ▸ op)
          · exact .inl (mem_less.mpr ⟨z, w⟩)
  | nw l =>
    cases e
    obtain ⟨p, vs, e, hp, hv, ho, h0⟩ := h
    subst e
    have hn : H p = none := n l rfl p rfl
    refine ⟨less m1 p, A1.drop ho h0, ⟨fun a z => S.fr a (mem_less.mp z).1, S.kp, fun a z w => ?_, S.ow, S.tk⟩, .lst (fun z => (mem_less.mp z).2 rfl) hp hv.less, fun _ z => (mem_less.mp z).1, fun _ z => z⟩
    rcases S.mo a z w with q | q
    · exact .inl (mem_less.mpr ⟨q, fun e => w (e ▸ hn)⟩)
    · exact .inr q
def frzs : G → List R → Option (List D × G)
  | g, [] => some ([], g)
  | g, r :: rs => (frz g r).bind fun p => (frzs p.2 rs).bind fun q => some (p.1 :: q.1, q.2)
end

/-! ## the judgements -/
section
variable (K : PySem.W.Frag) (mg : Str → Option Value) (c : C0)
def tE (f : G → Option (R × G)) : TE := fun σ H Q => ∃ m g r g', Abs K mg c m g σ H ∧ f g = some (r, g') ∧
  ∀ v m' H', Abs K mg c m' g' σ H' → Stp m g σ H m' g' σ H' → VR K mg c m' g' σ H' v r → Nw H v r → Q v H'
def tT (f : G → Option (Bool × G)) : TT := fun σ H Q => ∃ m g b g', Abs K mg c m g σ H ∧ f g = some (b, g') ∧
  ∀ m' H', Abs K mg c m' g' σ H' → Stp m g σ H m' g' σ H' → Q b H'
def VRs (m : List Addr) (g : G) (σ : St) (H : Hp) : List V → List R → Prop
  | [], [] => True
  | v :: vs, r :: rs => VR K mg c m g σ H v r ∧ VRs m g σ H vs rs
  | _, _ => False
def Nws (H : Hp) : List V → List R → Prop
  | [], [] => True
  | v :: vs, r :: rs => Nw H v r ∧ Nws H vs rs
  | _, _ => False
def tA (f : G → Option (List R × G)) : TA := fun σ H Q => ∃ m g rs g', Abs K mg c m g σ H ∧ f g = some (rs, g') ∧
  ∀ vs m' H', Abs K mg c m' g' σ H' → Stp m g σ H m' g' σ H' → VRs K mg c m' g' σ H' vs rs → Nws H vs rs → Q vs H'
def Fin (D : Ends) (m : List Addr) (g : G) (σ : St) (H : Hp) : O → Prop
  | .nx g' => ∀ m' σ' H', Abs K mg c m' g' σ' H' → Stp m g σ H m' g' σ' H' → D.nx σ' H'
  | .bk g' => ∀ m' σ' H', Abs K mg c m' g' σ' H' → Stp m g σ H m' g' σ' H' → D.bk σ' H'
  | .ct g' => ∀ m' σ' H', Abs K mg c m' g' σ' H' → Stp m g σ H m' g' σ' H' → D.ct σ' H'
  | .rt r g' => ∀ v m' σ' H', Abs K mg c m' g' σ' H' → VR K mg c m' g' σ' H' v r → D.rt v H'
  | .xc C x g' => ∀ cls d m' σ' H', Abs K mg c m' g' σ' H' → Stp m g σ H m' g' σ' H' → XOk K mg m' H' C x cls d → c.W cls d σ' H'
def tS (f : G → Option O) : TS := fun D σ H => ∃ m g o, Abs K mg c m g σ H ∧ f g = some o ∧ Fin K mg c D m g σ H o
/-- what a loop walks: the items are known, wherever the loop stands -/
def JOk (J : It) (l : List D) (m : List Addr) (g : G) (σ : St) (H : Hp) : Prop :=
  ∀ m' g' σ' H', Abs K mg c m' g' σ' H' → Stp m g σ H m' g' σ' H' → (J.stop l.length H') ∧
    ∀ (i : Nat) (d : D), l[i]? = some d → J.go i H' ∧ ∀ x H'', J.yld i H' x H'' → ∃ m'', Abs K mg c m'' g' σ' H'' ∧ Stp m' g' σ' H' m'' g' σ' H'' ∧ Fz K mg m'' H'' x d
def tI (f : G → Option (List D × G)) : TI := fun σ H Q => ∃ m g l g', Abs K mg c m g σ H ∧ f g = some (l, g') ∧
  ∀ J m' H', Abs K mg c m' g' σ H' → Stp m g σ H m' g' σ H' → JOk K mg c J l m' g' σ H' → Q J H'
end
abbrev SE (X : Cx) (c : C0) (e : Expr) (f : G → Option (R × G)) : Prop := PE X e (tE X.K X.mg c f)
abbrev ST (X : Cx) (c : C0) (e : Expr) (f : G → Option (Bool × G)) : Prop := PT X e (tT X.K X.mg c f)
abbrev SA (X : Cx) (c : C0) (es : List Expr) (f : G → Option (List R × G)) : Prop := PA X es (tA X.K X.mg c f)
abbrev SS (X : Cx) (c : C0) (st : Stmt) (f : G → Option O) : Prop := PS X st (tS X.K X.mg c f)
abbrev SSs (X : Cx) (c : C0) (st : List Stmt) (f : G → Option O) : Prop := PSs X st (tS X.K X.mg c f)
abbrev SI (X : Cx) (c : C0) (tg e : Expr) (f : G → Option (List D × G)) : Prop := PI X tg e (tI X.K X.mg c f)

theorem _root_.L2.PE.imp {X : Cx} {e : Expr} {t t' : TE} (h : PE X e t) (k : ∀ σ H Q, t' σ H Q → t σ H Q) : PE X e t' := ⟨fun pins s σ H Q I q => h.run pins s σ H Q I (k σ H Q q)⟩
theorem _root_.L2.PT.imp {X : Cx} {e : Expr} {t t' : TT} (h : PT X e t) (k : ∀ σ H Q, t' σ H Q → t σ H Q) : PT X e t' := ⟨fun pins s σ H Q I q => h.run pins s σ H Q I (k σ H Q q)⟩
theorem _root_.L2.PA.imp {X : Cx} {e : List Expr} {t t' : TA} (h : PA X e t) (k : ∀ σ H Q, t' σ H Q → t σ H Q) : PA X e t' := ⟨fun pos pins s σ H Q I q => h.run pos pins s σ H Q I (k σ H Q q)⟩
theorem _root_.L2.PS.imp {X : Cx} {e : Stmt} {t t' : TS} (h : PS X e t) (k : ∀ D σ H, t' D σ H → t D σ H) : PS X e t' := ⟨fun pins s σ H D I q => h.run pins s σ H D I (k D σ H q)⟩
theorem _root_.L2.PSs.imp {X : Cx} {e : List Stmt} {t t' : TS} (h : PSs X e t) (k : ∀ D σ H, t' D σ H → t D σ H) : PSs X e t' := ⟨fun pins s σ H D I q => h.run pins s σ H D I (k D σ H q)⟩
theorem _root_.L2.PG.imp {X : Cx} {e : Expr} {t t' : TG} (h : PG X e t) (k : ∀ v σ H Q, t' v σ H Q → t v σ H Q) : PG X e t' := ⟨fun pins s σ H v u Q I r q => h.run pins s σ H v u Q I r (k v σ H Q q)⟩
theorem _root_.L2.PI.imp {X : Cx} {tg e : Expr} {t t' : TI} (h : PI X tg e t) (k : ∀ σ H Q, t' σ H Q → t σ H Q) : PI X tg e t' := ⟨fun pins s σ H Q I q => h.run pins s σ H Q I (k σ H Q q)⟩
end Sm

namespace Sm
open PySem L2

/-! ## steps that only add objects -/
def Ext (H H' : Hp) : Prop := ∀ a o, H a = some o → H' a = some o
theorem Ext.refl (H : Hp) : Ext H H := fun _ _ h => h
theorem Ext.trans {H H1 H2 : Hp} (a : Ext H H1) (b : Ext H1 H2) : Ext H H2 := fun x o h => b x o (a x o h)
theorem Ext.new {H : Hp} {p : Addr} {o : HO} (h : H p = none) : Ext H (upd H p o) := fun a u e => by
  rw [upd_ne (ne_of_none e h)]
  exact e
section
variable {K : PySem.W.Frag} {mg : Str → Option Value} {c : C0} {m m1 m2 : List Addr} {g g1 g2 : G} {σ σ1 σ2 : St} {H H1 H2 : Hp} {v : V} {r : R} {d : D}
theorem Fz.ext (x : Ext H H1) (h : Fz K mg m H v d) : Fz K mg m H1 v d := h.map fun a o n e => ⟨n, x a o e⟩
theorem FzL.ext {vs : List V} {ds : List D} (x : Ext H H1) (h : FzL K mg m H vs ds) : FzL K mg m H1 vs ds := h.map fun a o n e => ⟨n, x a o e⟩
theorem Abs.ext (A : Abs K mg c m g σ H) (x : Ext H H1) : Abs K mg c m g σ H1 where
  len := A.len
  fz := fun i d h => let ⟨v, h1, h2⟩ := A.fz i d h; ⟨v, h1, h2.ext x⟩
  ol := fun i b l h => let ⟨p, vs, h1, h2, h3, h4, h5⟩ := A.ol i b l h; ⟨p, vs, h1, h2, x _ _ h3, h4.ext x, h5⟩
  nn := A.nn
  trk := fun a h => by
    cases q : H a with
    | none => exact absurd q (A.trk a h)
    | some o => rw [x a o q]; exact fun z => nomatch z
  keep := fun a o n n' h => x _ _ (A.keep a o n n' h)
  sub := A.sub
  pas := A.pas
  pin := A.pin
  pqs := A.pqs
  xs := fun i d h => by
    obtain ⟨h1, h2, v, h3, h4⟩ := A.xs i d h
    exact ⟨h1, h2, v, x _ _ h3, h4.ext x⟩
  ob := fun i b k cs h => by
    obtain ⟨p, o, vs, h1, h2, h3, h4, h5, h6, h7⟩ := A.ob i b k cs h
    refine ⟨p, o, vs, h1, h2, x _ _ h3, h4, h5.map (fun a o n e => ⟨n, x a o e⟩) fun q z => ⟨(h5.mem q z).1, ?_⟩, h6, h7⟩
    cases e : H q with
    | none => exact absurd e (h5.mem q z).2
    | some o' => exact x q o' e
theorem Stp.ext (x : Ext H H1) : Stp m g σ H m g σ H1 := ⟨fun _ h => .inl h, fun a o _ h => x a o h, fun _ h _ => .inl h, fun _ h => .inl h, fun a h => by
  cases q : H a with
  | none => exact absurd q h
  | some o => rw [x a o q]; exact fun z => nomatch z⟩
theorem Abs.h0 (A : Abs K mg c m g σ H) {p : Addr} (h : H p = none) : c.H0 p = none := by
  cases q : c.H0 p with
  | none => rfl
  | some o =>
    by_cases w : ∃ i, c.pa i = some p
    · obtain ⟨i, w⟩ := w
      exact absurd h (A.trk p (A.sub p (A.pas i p w).1).1)
    · by_cases w' : c.pq p
      · exact absurd h (A.trk p (A.sub p (A.pqs p w')).1)
      · rw [A.keep p o (fun i e => w ⟨i, e⟩) w' q] at h
        cases h
end

/-! ## a result by values -/
def ResV (K : PySem.W.Frag) (mg : Str → Option Value) (m : List Addr) (H H' : Hp) (u : V) : R → Prop
  | .d x => Fz K mg m H' u x
  | .nw l => ∃ p vs, u = .ref p ∧ H p = none ∧ H' p = some (.lst vs) ∧ FzL K mg (p :: m) H' vs l
  | .sl _ => False
  | .pq _ _ => False
section
variable {K : PySem.W.Frag} {mg : Str → Option Value} {c : C0} {m m1 m2 : List Addr} {g g1 g2 : G} {σ σ1 σ2 : St} {H H1 H2 : Hp} {v : V} {r : R} {d : D}
theorem FzL.more {p : Addr} {vs : List V} {ds : List D} (h : FzL K mg m H vs ds) (hp : H p = none) : FzL K mg (p :: m) H vs ds := h.map fun a o n e => ⟨fun q => by
  rcases List.mem_cons.mp q with q | q
  · subst q; rw [hp] at e; cases e
  · exact n q, e⟩
theorem Fz.more {p : Addr} (h : Fz K mg m H v d) (hp : H p = none) : Fz K mg (p :: m) H v d := h.map fun a o n e => ⟨fun q => by
  rcases List.mem_cons.mp q with q | q
  · subst q; rw [hp] at e; cases e
  · exact n q, e⟩
theorem Abs.more (A : Abs K mg c m g σ H) (x : Ext H H1) {p : Addr} (hp : H p = none) (hq : H1 p ≠ none) : Abs K mg c (p :: m) g σ H1 where
  len := A.len
  fz := fun i d h => let ⟨v, h1, h2⟩ := A.fz i d h; ⟨v, h1, (h2.more hp).ext x⟩
  ol := fun i b l h => let ⟨q, vs, h1, h2, h3, h4, h5⟩ := A.ol i b l h; ⟨q, vs, h1, List.mem_cons_of_mem _ h2, x _ _ h3, (h4.more hp).ext x, h5⟩
  nn := A.nn
  trk := fun a h => by
    rcases List.mem_cons.mp h with h | h
    · exact h ▸ hq
    · exact (A.ext x).trk a h
  keep := (A.ext x).keep
  sub := fun a h => ⟨List.mem_cons_of_mem _ (A.sub a h).1, (A.sub a h).2⟩
  pas := A.pas
  pin := A.pin
  pqs := A.pqs
  xs := fun i d h => by
    obtain ⟨h1, h2, v, h3, h4⟩ := A.xs i d h
    refine ⟨h1, fun z => ?_, v, x _ _ h3, (h4.more hp).ext x⟩
    rcases List.mem_cons.mp z with z | z
    · rw [z, hp] at h3; cases h3
    · exact h2 z
  ob := fun i b k cs h => by
    obtain ⟨q, o, vs, h1, h2, h3, h4, h5, h6, h7⟩ := A.ob i b k cs h
    refine ⟨q, o, vs, h1, List.mem_cons_of_mem _ h2, x _ _ h3, h4, h5.map (fun a o n e => ⟨fun z => ?_, x a o e⟩) fun a z => ⟨List.mem_cons_of_mem _ (h5.mem a z).1, ?_⟩, h6, h7⟩
    · rcases List.mem_cons.mp z with z | z
      · subst z; rw [hp] at e; cases e
      · exact n z
    · cases e : H a with
      | none => exact absurd e (h5.mem a z).2
      | some o' => exact x a o' e
theorem Stp.more (A : Abs K mg c m g σ H) (x : Ext H H1) {p : Addr} (hp : H p = none) : Stp m g σ H (p :: m) g σ H1 := ⟨fun a h => by
  rcases List.mem_cons.mp h with h | h
  · exact .inr (h ▸ hp)
  · exact .inl h, fun a o _ h => x a o h, fun _ h _ => .inl (List.mem_cons_of_mem _ h), fun _ h => .inl h, (Stp.ext (m := m) (g := g) (σ := σ) x).tk⟩
theorem res_ok (A : Abs K mg c m g σ H) (x : Ext H H1) (h : ResV K mg m H H1 v r) : ∃ m1, Abs K mg c m1 g σ H1 ∧ Stp m g σ H m1 g σ H1 ∧ VR K mg c m1 g σ H1 v r ∧ Nw H v r := by
  cases r with
  | d x' => exact ⟨m, A.ext x, Stp.ext x, h, fun _ z => nomatch z⟩
  | sl i => exact h.elim
  | pq i q => exact h.elim
  | nw l =>
    obtain ⟨p, vs, e, hp, hq, hv⟩ := h
    subst e
    refine ⟨p :: m, A.more x hp (by rw [hq]; exact fun z => nomatch z), Stp.more A x hp, ⟨p, vs, rfl, List.mem_cons_self, hq, hv, fun w => A.trk p (A.own_mem w) hp, A.h0 hp⟩, fun _ _ q e => ?_⟩
    cases e
    exact hp
end

/-! ## names, constants -/
section
variable {X : Cx} {c : C0}
def eVar (i : Nat) : G → Option (R × G) := fun g => match g[i]? with
  | some (.fz d) => some (.d d, g)
  | some (.ol _ _) => some (.sl i, g)
  | some (.ob _ _ _) => some (.sl i, g)
  | _ => none
theorem se_pv {e : Expr} {i : Nat} (h : PE X e (tVar i)) : SE X c e (eVar i) := h.imp fun σ H Q q => by
  obtain ⟨m, g, r, g', A, e, k⟩ := q
  unfold eVar at e
  cases q : g[i]? with
  | none => rw [q] at e; cases e
  | some s =>
    rw [q] at e
    cases s with
    | un => cases e
    | pin v => cases e
    | xs x => cases e
    | fz d =>
      cases e
      obtain ⟨v, h1, h2⟩ := A.fz i d q
      exact ⟨v, h1, k v m H A Stp.refl h2 fun _ z => nomatch z⟩
    | ol b l =>
      cases e
      obtain ⟨p, vs, h1, _⟩ := A.ol i b l q
      exact ⟨_, h1, k _ m H A Stp.refl h1 fun _ z => nomatch z⟩
    | ob b kk cs =>
      cases e
      obtain ⟨p, o, vs, h1, _⟩ := A.ob i b kk cs q
      exact ⟨_, h1, k _ m H A Stp.refl h1 fun _ z => nomatch z⟩
def eC (d : D) : G → Option (R × G) := fun g => some (.d d, g)
theorem se_tc {e : Expr} {v : V} {d : D} (h : PE X e (tC v)) (hd : ∀ m H, Fz X.K X.mg m H v d) : SE X c e (eC d) := h.imp fun σ H Q q => by
  obtain ⟨m, g, r, g', A, e, k⟩ := q
  cases e
  exact k v m H A Stp.refl (hd m H) fun _ z => nomatch z
theorem se_int {i : Int} {j pos} : SE X c (.Constant (.int i) j pos) (eC (.int i)) := se_tc pe_int fun _ _ => .int i
theorem se_bl {b : Bool} {j pos} : SE X c (.Constant (.bool b) j pos) (eC (.bl b)) := se_tc pe_bl fun _ _ => .bl b
theorem se_non {j pos} : SE X c (.Constant .none j pos) (eC .non) := se_tc pe_non fun _ _ => .non
theorem se_str {s : Str} {j pos} : SE X c (.Constant (.str s) j pos) (eC (.str s)) := se_tc pe_str fun _ _ => .str s
theorem se_v (i : Nat) {x : Str} {pos : Pos} (hN : X.N[i]? = some x := by rfl) (hv : Vis X.env.scope x := by first | exact Or.inl rfl | exact Or.inr (Or.inl rfl) | exact Or.inr (Or.inr rfl)) (hd : (x == ("__debug__" : Str)) = false := by decide)
    (hcd : (x == ("__classdict__" : Str)) = false := by decide) : SE X c (.Name x pos) (eVar i) := se_pv (pe_var hN hv hd hcd)
theorem se_gl {x : Str} {v : V} {u : Value} {d : D} {pos : Pos} (hg : Gl X x) (hm : X.mg x = some u) (r : RelV v u) (hd : ∀ m H, Fz X.K X.mg m H v d) (hdb : (x == ("__debug__" : Str)) = false := by decide) : SE X c (.Name x pos) (eC d) := se_tc (pe_glob hg hm r hdb) hd

/-! ## operators of two -/
def OpS (X : Cx) (f : Value → Value → Sem Value) (h : D → D → Option R) : Prop :=
  ∃ r : R2, OpR X f r ∧ ∀ (m : List Addr) (H : Hp) (v w : V) (d e : D) (res : R) (Q : VK), (∀ a ∈ m, H a ≠ none) → Vw X.K X.mg m H v d → Vw X.K X.mg m H w e → h d e = some res →
    (∀ u H', Ext H H' → ResV X.K X.mg m H H' u res → Q u H') → r v w H Q
def eBin (h : D → D → Option R) (fa fb : G → Option (R × G)) : G → Option (R × G) := fun g =>
  (fa g).bind fun p => (fb p.2).bind fun q => (ld q.2 p.1).bind fun x => (ld q.2 q.1).bind fun y => (h x y).bind fun r => some (r, q.2)
theorem eBin_inv {h : D → D → Option R} {fa fb : G → Option (R × G)} {g g' : G} {r : R} (e : eBin h fa fb g = some (r, g')) :
    ∃ r1 g1 r2 d1 d2, fa g = some (r1, g1) ∧ fb g1 = some (r2, g') ∧ ld g' r1 = some d1 ∧ ld g' r2 = some d2 ∧ h d1 d2 = some r := by
  unfold eBin at e
  obtain ⟨⟨r1, g1⟩, e1, e⟩ := Option.bind_eq_some_iff.mp e
  obtain ⟨⟨r2, g2⟩, e2, e⟩ := Option.bind_eq_some_iff.mp e
  obtain ⟨d1, e3, e⟩ := Option.bind_eq_some_iff.mp e
  obtain ⟨d2, e4, e⟩ := Option.bind_eq_some_iff.mp e
  obtain ⟨r', e5, e⟩ := Option.bind_eq_some_iff.mp e
  cases e
  exact ⟨r1, g1, r2, d1, d2, e1, e2, e3, e4, e5⟩
variable {a b e : Expr} {pos : Pos} {fa fb : G → Option (R × G)} {h : D → D → Option R}
theorem bin_ok {r2 : R2} {σ : St} {H : Hp} {Q : VK} (hr : ∀ (m : List Addr) (H : Hp) (v w : V) (d e : D) (res : R) (Q : VK), (∀ a ∈ m, H a ≠ none) → Vw X.K X.mg m H v d → Vw X.K X.mg m H w e → h d e = some res →
    (∀ u H', Ext H H' → ResV X.K X.mg m H H' u res → Q u H') → r2 v w H Q) (q : tE X.K X.mg c (eBin h fa fb) σ H Q) : tOp r2 (tE X.K X.mg c fa) (tE X.K X.mg c fb) σ H Q := by
  obtain ⟨m, g, r, g', A, e, k⟩ := q
  obtain ⟨r1, g1, r2, d1, d2, e1, e2, e3, e4, e5⟩ := eBin_inv e
  refine ⟨m, g, r1, g1, A, e1, fun v1 m1 H1 A1 S1 V1 N1 => ⟨m1, g1, r2, g', A1, e2, fun v2 m2 H2 A2 S2 V2 N2 => ?_⟩⟩
  refine hr m2 H2 v1 v2 d1 d2 r Q A2.trk (VR.ld A2 (V1.step A1 S2) e3) (VR.ld A2 V2 e4) e5 fun u H3 x hv => ?_
  obtain ⟨m3, A3, S3, V3, N3⟩ := res_ok A2 x hv
  exact k u m3 H3 A3 ((S1.trans S2).trans S3) V3 (N3.back (S1.trans S2))
theorem se_op {op : Operator} (ho : OpS X (binaryOp op) h) (ha : SE X c a fa) (hb : SE X c b fb) : SE X c (.BinOp a op b pos) (eBin h fa fb) := by
  obtain ⟨r, h1, h2⟩ := ho
  exact (pe_op h1 ha hb).imp fun σ H Q => bin_ok h2
theorem se_cmp {op : CmpOp} (ho : OpS X (compareOp op) h) (ha : SE X c a fa) (hb : SE X c b fb) (hm : behindInMarks op b = false) : SE X c (.Compare a [op] [b] pos) (eBin h fa fb) := by
  obtain ⟨r, h1, h2⟩ := ho
  exact (pe_cmpR h1 ha hb hm).imp fun σ H Q => bin_ok h2
/-- a value as a test -/
def tst (f : G → Option (R × G)) : G → Option (Bool × G) := fun g => match f g with
  | some (.d (.bl b), g') => some (b, g')
  | _ => none
theorem tst_inv {f : G → Option (R × G)} {g g' : G} {b : Bool} (e : tst f g = some (b, g')) : f g = some (.d (.bl b), g') := by
  unfold tst at e
  split at e
  · rename_i h
    cases e
    exact h
  · cases e
theorem tst_ok {f : G → Option (R × G)} {σ : St} {H : Hp} {Q : Bool → Hp → Prop} (q : tT X.K X.mg c (tst f) σ H Q) : tE X.K X.mg c f σ H fun x H1 => ∃ k, x = .bl k ∧ Q k H1 := by
  obtain ⟨m, g, b, g', A, e, k⟩ := q
  refine ⟨m, g, _, g', A, tst_inv e, fun v m1 H1 A1 S1 V1 _ => ?_⟩
  have V1 : Fz X.K X.mg m1 H1 v (.bl b) := V1
  cases V1
  exact ⟨b, rfl, k m1 H1 A1 S1⟩
theorem st_cmp {op : CmpOp} (ho : OpS X (compareOp op) h) (ha : SE X c a fa) (hb : SE X c b fb) (hm : behindInMarks op b = false) : ST X c (.Compare a [op] [b] pos) (tst (eBin h fa fb)) := by
  obtain ⟨r, h1, h2⟩ := ho
  exact (pt_cmpR h1 ha hb hm).imp fun σ H Q q => bin_ok h2 (tst_ok q)
theorem st_val {f : G → Option (R × G)} (he : SE X c e f) (hs : ∀ whole, isTrue e X.env whole = (do let v ← whole; standAt e.pos; holding [v] (truthy v)) := by intro _; rfl) : ST X c e (tst f) :=
  (pt_val he hs).imp fun σ H Q q => tst_ok q

theorem opS_of {f : Value → Value → Sem Value} {r : R2} (h1 : OpR X f r) (h2 : ∀ (m : List Addr) (H : Hp) (v w : V) (d e : D) (res : R) (Q : VK), (∀ a ∈ m, H a ≠ none) → Vw X.K X.mg m H v d → Vw X.K X.mg m H w e → h d e = some res →
    (∀ u H', Ext H H' → ResV X.K X.mg m H H' u res → Q u H') → r v w H Q) : OpS X f h := ⟨r, h1, h2⟩

/-! ### sums, products .. -/
theorem vw_int {K : PySem.W.Frag} {mg : Str → Option Value} {m : List Addr} {H : Hp} {v : V} {i : Int} (h : Vw K mg m H v (.int i)) : v = .int i := by
  have h : Fz K mg m H v (.int i) := h
  cases h; rfl
theorem vw_str {K : PySem.W.Frag} {mg : Str → Option Value} {m : List Addr} {H : Hp} {v : V} {i : Str} (h : Vw K mg m H v (.str i)) : v = .str i := by
  have h : Fz K mg m H v (.str i) := h
  cases h; rfl
theorem vw_bl {K : PySem.W.Frag} {mg : Str → Option Value} {m : List Addr} {H : Hp} {v : V} {i : Bool} (h : Vw K mg m H v (.bl i)) : v = .bl i := by
  have h : Fz K mg m H v (.bl i) := h
  cases h; rfl
theorem vw_non {K : PySem.W.Frag} {mg : Str → Option Value} {m : List Addr} {H : Hp} {v : V} (h : Vw K mg m H v .non) : v = .non := by
  have h : Fz K mg m H v .non := h
  cases h; rfl
theorem vw_tup {K : PySem.W.Frag} {mg : Str → Option Value} {m : List Addr} {H : Hp} {v : V} {l : List D} (h : Vw K mg m H v (.tup l)) : ∃ a vs, v = .ref a ∧ SqT K H a vs ∧ FzL K mg m H vs l := by
  have h : Fz K mg m H v (.tup l) := h
  cases h with
  | tup q t =>
    rcases q with ⟨_, q⟩ | q
    · exact ⟨_, _, rfl, .inl q, t⟩
    · exact ⟨_, _, rfl, sqT_any q, t⟩
theorem vw_lst {K : PySem.W.Frag} {mg : Str → Option Value} {m : List Addr} {H : Hp} {v : V} {l : List D} (h : Vw K mg m H v (.lst l)) : ∃ a vs, v = .ref a ∧ H a = some (.lst vs) ∧ FzL K mg m H vs l := h
theorem vw_sls {K : PySem.W.Frag} {mg : Str → Option Value} {m : List Addr} {H : Hp} {v : V} {l : List D} (h : Vw K mg m H v (.sls l)) : ∃ a vs, v = .ref a ∧ SqL K H a vs ∧ FzL K mg m H vs l := by
  have h : Fz K mg m H v (.sls l) := h
  cases h with
  | sls q t =>
    rcases q with ⟨_, o, q⟩ | q
    · exact ⟨_, _, rfl, .inl (.inr ⟨o, q⟩), t⟩
    · exact ⟨_, _, rfl, sqL_any q, t⟩

theorem nw_new {K : PySem.W.Frag} {mg : Str → Option Value} {m : List Addr} {H : Hp} {p : Addr} {vs : List V} {l : List D} (hp : H p = none) (h : FzL K mg m H vs l) : ResV K mg m H (upd H p (.lst vs)) (.ref p) (.nw l) :=
  ⟨p, vs, rfl, hp, upd_same, (h.more hp).ext (Ext.new hp)⟩
theorem tup_new {K : PySem.W.Frag} {mg : Str → Option Value} {m : List Addr} {H : Hp} {p : Addr} {vs : List V} {l : List D} (ht : ∀ a ∈ m, H a ≠ none) (hp : H p = none) (h : FzL K mg m H vs l) : Fz K mg m (upd H p (.tup vs)) (.ref p) (.tup l) :=
  .tup (.inl ⟨fun q => ht p q hp, .inl upd_same⟩) (h.ext (Ext.new hp))

def addD : D → D → Option R
  | .int i, .int j => some (.d (.int (i + j)))
  | .str a, .str b => if a.length + b.length ≤ sizeLine then some (.d (.str (a ++ b))) else none
  | .lst a, .lst b => if a.length + b.length ≤ sizeLine then some (.nw (a ++ b)) else none
  | .tup a, .tup b => if a ≠ [] ∧ a.length + b.length ≤ sizeLine then some (.d (.tup (a ++ b))) else none
  | _, _ => none
theorem op_addD : OpS X (binaryOp .Add) addD := by
  refine opS_of (op_add.or (op_add_str.or (op_cat.or op_catT))) fun m H v w d e res Q ht hv hw hr k => ?_
  unfold addD at hr
  split at hr
  · cases hr
    exact .inl ⟨_, _, vw_int hv, vw_int hw, k _ _ (Ext.refl H) (.int _)⟩
  · split at hr
    · cases hr
      exact .inr (.inl ⟨_, _, vw_str hv, vw_str hw, ‹_›, k _ _ (Ext.refl H) (.str _)⟩)
    · cases hr
  · split at hr
    · cases hr
      rename_i hz
      obtain ⟨p, vs, e1, h1, t1⟩ := vw_lst hv
      obtain ⟨q, ws, e2, h2, t2⟩ := vw_lst hw
      refine .inr (.inr (.inl ⟨p, q, vs, ws, e1, e2, h1, h2, by rw [t1.length, t2.length]; exact hz, fun l hl => k _ _ (Ext.new hl) (nw_new hl (t1.app t2))⟩))
    · cases hr
  · rename_i a b
    split at hr
    · cases hr
      rename_i hz
      obtain ⟨p, vs, e1, h1, t1⟩ := vw_tup hv
      obtain ⟨q, ws, e2, h2, t2⟩ := vw_tup hw
      refine .inr (.inr (.inr ⟨p, q, vs, ws, e1, e2, h1, h2, ?_, by rw [t1.length, t2.length]; exact hz.2, ?_, ?_⟩))
      · intro e
        subst e
        exact hz.1 (List.length_eq_zero_iff.mp t1.length.symm)
      · intro e
        subst e
        have : b = [] := List.length_eq_zero_iff.mp t2.length.symm
        subst this
        rw [List.append_nil] at k
        rw [← e1]
        exact k _ _ (Ext.refl H) hv
      · intro _ r hr
        exact k _ _ (Ext.new hr) (tup_new ht hr (t1.app t2))
    · cases hr
  · cases hr
def subD : D → D → Option R
  | .int i, .int j => some (.d (.int (i - j)))
  | _, _ => none
theorem op_subD : OpS X (binaryOp .Sub) subD := by
  refine opS_of op_sub fun m H v w d e res Q ht hv hw hr k => ?_
  unfold subD at hr
  split at hr
  · cases hr
    exact ⟨_, _, vw_int hv, vw_int hw, k _ _ (Ext.refl H) (.int _)⟩
  · cases hr
def mulD : D → D → Option R
  | .int i, .int j => if i.natAbs.log2 + j.natAbs.log2 < 1000000 then some (.d (.int (i * j))) else none
  | .lst a, .int k => if k < 2 ^ 40 ∧ -(2 ^ 40) < k ∧ a.length * k.toNat ≤ sizeLine then some (.nw (List.replicate k.toNat a).flatten) else none
  | .str a, .int k => if 0 ≤ k ∧ k ≤ 1000 ∧ a.length ≤ 1000 then some (.d (.str (Txt.mul a k))) else none
  | _, _ => none
theorem mul_fit {a : Str} {k : Int} (h : 0 ≤ k ∧ k ≤ 1000 ∧ a.length ≤ 1000) : MulOk a k := by
  obtain ⟨h1, h2, h3⟩ := h
  refine ⟨?_, fun h _ => ?_, fun h _ => ?_⟩
  · rw [decide_eq_false (by omega), decide_eq_false (by omega)]; rfl
  · have h4 : (1000 : Int) ≤ (2 ^ 63 - 1) / k := by
      rw [Int.le_ediv_iff_mul_le (by omega)]
      omega
    omega
  · have h4 : a.length * k.toNat ≤ 1000 * 1000 := Nat.mul_le_mul h3 (by omega)
    exact decide_eq_false (Nat.not_lt.mpr (Nat.le_trans h4 (by decide)))
theorem op_mul_str : OpR X (binaryOp .Mult) (fun x y H Q => ∃ a k, x = .str a ∧ y = .int k ∧ MulOk a k ∧ Q (.str (Txt.mul a k)) H) := by
  intro pins s σ H x y v u Q I rx ry h
  obtain ⟨a, k, rfl, rfl, hm, q⟩ := h
  obtain ⟨t1, rfl⟩ := rx
  obtain ⟨t2, rfl⟩ := ry
  exact PySem.SB.mul hm fun t' kk => ⟨.str _, H, I.tok _, ⟨t', rfl⟩, q⟩
theorem op_mulD : OpS X (binaryOp .Mult) mulD := by
  refine opS_of (op_mulW.or (op_rep.or op_mul_str)) fun m H v w d e res Q ht hv hw hr k => ?_
  unfold mulD at hr
  split at hr
  · split at hr
    · cases hr
      exact .inl ⟨_, _, vw_int hv, vw_int hw, ‹_›, k _ _ (Ext.refl H) (.int _)⟩
    · cases hr
  · split at hr
    · cases hr
      rename_i hz
      obtain ⟨p, vs, e1, h1, t1⟩ := vw_lst hv
      refine .inr (.inl ⟨p, _, vs, e1, vw_int hw, h1, by omega, by omega, by rw [t1.length]; exact hz.2.2, fun l hl => k _ _ (Ext.new hl) (nw_new hl (t1.rep _))⟩)
    · cases hr
  · split at hr
    · cases hr
      exact .inr (.inr ⟨_, _, vw_str hv, vw_int hw, mul_fit ‹_›, k _ _ (Ext.refl H) (.str _)⟩)
    · cases hr
  · cases hr
def modD : D → D → Option R
  | .int i, .int j => if 0 < j then some (.d (.int (i % j))) else none
  | _, _ => none
theorem op_modD : OpS X (binaryOp .Mod) modD := by
  refine opS_of op_mod fun m H v w d e res Q ht hv hw hr k => ?_
  unfold modD at hr
  split at hr
  · split at hr
    · cases hr
      exact ⟨_, _, vw_int hv, vw_int hw, ‹_›, k _ _ (Ext.refl H) (.int _)⟩
    · cases hr
  · cases hr
def divD : D → D → Option R
  | .int i, .int j => if 0 < j ∧ j.natAbs.log2 < 9000 then some (.d (.int (i / j))) else none
  | _, _ => none
theorem op_divD : OpS X (binaryOp .FloorDiv) divD := by
  refine opS_of op_fdivW fun m H v w d e res Q ht hv hw hr k => ?_
  unfold divD at hr
  split at hr
  · split at hr
    · cases hr
      exact ⟨_, _, vw_int hv, vw_int hw, ‹_›, k _ _ (Ext.refl H) (.int _)⟩
    · cases hr
  · cases hr
def CPowW (i j : Int) : Prop := 0 ≤ j ∧ ((i.natAbs.log2 + 1 : Nat) : Int) * j ≤ 1000000
theorem op_powW : OpR X (binaryOp .Pow) (rI CPowW fun i j => .int (i ^ j.toNat)) := opI fun i j _ _ _ _ _ hc q => by
  refine PyProof.Rows.pow_int hc.1 ?_ q
  have h1 : Builtin.Int.intBits i ≤ i.natAbs.log2 + 1 := by
    unfold Builtin.Int.intBits
    split <;> omega
  have h2 : (Builtin.Int.intBits i : Int) * j ≤ ((i.natAbs.log2 + 1 : Nat) : Int) * j := Int.mul_le_mul_of_nonneg_right (by omega) hc.1
  have h3 := hc.2
  omega
def powD : D → D → Option R
  | .int i, .int j => if 0 ≤ j ∧ ((i.natAbs.log2 + 1 : Nat) : Int) * j ≤ 1000000 then some (.d (.int (i ^ j.toNat))) else none
  | _, _ => none
theorem op_powD : OpS X (binaryOp .Pow) powD := by
  refine opS_of op_powW fun m H v w d e res Q ht hv hw hr k => ?_
  unfold powD at hr
  split at hr
  · split at hr
    · cases hr
      exact ⟨_, _, vw_int hv, vw_int hw, ‹_›, k _ _ (Ext.refl H) (.int _)⟩
    · cases hr
  · cases hr

/-! ### comparisons -/
mutual
def pyOf : D → Option PyData
  | .non => some .none
  | .bl b => some (.bool b)
  | .int i => some (.int i)
  | .str s => some (.str s)
  | .tup l => (pyAll l).map .tuple
  | .lst l => (pyAll l).map .list
  | .sls l => none
  | .ins _ _ => none
def pyAll : List D → Option (List PyData)
  | [] => some []
  | d :: l => (pyOf d).bind fun x => (pyAll l).map (x :: ·)
end
theorem sq_tup {K : PySem.W.Frag} {H : Hp} {m : List Addr} {a : Addr} {vs : List V} (h : (a ∉ m ∧ Rd H a (.tup vs)) ∨ SqT K (fun _ => none) a vs) : SqT K H a vs := by
  rcases h with ⟨_, h⟩ | h
  · exact .inl h
  · exact sqT_any h
mutual
theorem Fz.dp {K : PySem.W.Frag} {mg : Str → Option Value} {m : List Addr} {H : Hp} : ∀ {v : V} {d : D} {p : PyData}, Fz K mg m H v d → pyOf d = some p → Dp K H v p
  | _, _, _, .non, e => by cases e; exact .non
  | _, _, _, .bl b, e => by cases e; exact .bl b
  | _, _, _, .int b, e => by cases e; exact .int b
  | _, _, _, .str b, e => by cases e; exact .str b
  | _, _, _, .tup h t, e => by
    simp only [pyOf] at e
    obtain ⟨ps, e1, e2⟩ := Option.map_eq_some_iff.mp e
    subst e2
    exact .tup (sq_tup h) (FzL.dp t e1)
  | _, _, _, .lst h h2 t, e => by
    simp only [pyOf] at e
    obtain ⟨ps, e1, e2⟩ := Option.map_eq_some_iff.mp e
    subst e2
    exact .lst (.of h2) (FzL.dp t e1)
  | _, _, _, .sls h t, e => by simp only [pyOf] at e; cases e
  | _, _, _, .ins h e1 h2 t, e => by simp only [pyOf] at e; cases e
theorem FzL.dp {K : PySem.W.Frag} {mg : Str → Option Value} {m : List Addr} {H : Hp} : ∀ {v : List V} {d : List D} {p : List PyData}, FzL K mg m H v d → pyAll d = some p → DpAll K H v p
  | _, _, _, .nil, e => by simp only [pyAll] at e; cases e; exact .nil
  | _, _, _, .cons h t, e => by
    simp only [pyAll] at e
    obtain ⟨x, e1, e⟩ := Option.bind_eq_some_iff.mp e
    obtain ⟨y, e2, e⟩ := Option.map_eq_some_iff.mp e
    subst e
    exact .cons (Fz.dp h e1) (FzL.dp t e2)
end
theorem vw_dp {K : PySem.W.Frag} {mg : Str → Option Value} {m : List Addr} {H : Hp} {v : V} {d : D} {p : PyData} (h : Vw K mg m H v d) (e : pyOf d = some p) : Dp K H v p := by
  cases d with
  | lst l =>
    obtain ⟨a, vs, h1, h2, h3⟩ := h
    subst h1
    simp only [pyOf] at e
    obtain ⟨ps, e1, e2⟩ := Option.map_eq_some_iff.mp e
    subst e2
    exact .lst (.of h2) (FzL.dp h3 e1)
  | _ => exact Fz.dp h e
/-- == of two scalars -/
def eqSc : D → D → Option Bool
  | .non, .non => some true | .non, .int _ => some false | .int _, .non => some false | .non, .bl _ => some false | .bl _, .non => some false | .non, .str _ => some false | .str _, .non => some false
  | .int i, .int j => some (decide (i = j)) | .bl i, .bl j => some (decide (i = j)) | .str i, .str j => some (decide (i = j))
  | .int _, .str _ => some false | .str _, .int _ => some false | .bl _, .str _ => some false | .str _, .bl _ => some false
  | _, _ => none
def eqDt (a b : D) : Option Bool := match pyOf a, pyOf b with
  | some p, some q => if SeqAt.shaped p = true ∧ SeqAt.shaped q = true then some (PyData.eqv p q) else none
  | _, _ => none
def eqD (a b : D) : Option Bool := match eqSc a b with
  | some x => some x
  | none => eqDt a b
theorem eqSc_vw {K : PySem.W.Frag} {mg : Str → Option Value} {m : List Addr} {H : Hp} {v w : V} {d e : D} {x : Bool} (hv : Vw K mg m H v d) (hw : Vw K mg m H w e) (h : eqSc d e = some x) : scal v w = true ∧ decide (v = w) = x := by
  unfold eqSc at h
  split at h <;> cases h <;> (first | rw [vw_non hv] | rw [vw_int hv] | rw [vw_bl hv] | rw [vw_str hv]) <;> (first | rw [vw_non hw] | rw [vw_int hw] | rw [vw_bl hw] | rw [vw_str hw]) <;> refine ⟨rfl, ?_⟩ <;> simp
theorem eqDt_vw {K : PySem.W.Frag} {mg : Str → Option Value} {m : List Addr} {H : Hp} {v w : V} {d e : D} {x : Bool} (hv : Vw K mg m H v d) (hw : Vw K mg m H w e) (h : eqDt d e = some x) :
    ∃ p q, Dp K H v p ∧ Dp K H w q ∧ SeqAt.shaped p = true ∧ SeqAt.shaped q = true ∧ PyData.eqv p q = x := by
  unfold eqDt at h
  split at h
  · rename_i p q h1 h2
    split at h
    · cases h
      rename_i hs
      exact ⟨p, q, vw_dp hv h1, vw_dp hw h2, hs.1, hs.2, rfl⟩
    · cases h
  · cases h
def cEq (a b : D) : Option R := (eqD a b).map fun x => .d (.bl x)
def cNe (a b : D) : Option R := (eqD a b).map fun x => .d (.bl !x)
theorem op_eqS {k : Nat} (hr : Room k X.A) : OpS X (compareOp .Eq) cEq := by
  refine opS_of (op_eq.or (op_eqD hr.units)) fun m H v w d e res Q ht hv hw h k => ?_
  unfold cEq at h
  obtain ⟨x, hx, hy⟩ := Option.map_eq_some_iff.mp h
  subst hy
  unfold eqD at hx
  split at hx
  · rename_i y hz
    have hx := Option.some.inj hx
    subst hx
    obtain ⟨h1, h2⟩ := eqSc_vw hv hw hz
    exact .inl ⟨h1, by rw [h2]; exact k _ _ (Ext.refl H) (.bl _)⟩
  · obtain ⟨p, q, h1, h2, h3, h4, h5⟩ := eqDt_vw hv hw hx
    exact .inr ⟨p, q, h1, h2, h3, h4, by rw [h5]; exact k _ _ (Ext.refl H) (.bl _)⟩
theorem op_neS {k : Nat} (hr : Room k X.A) : OpS X (compareOp .NotEq) cNe := by
  refine opS_of (op_ne.or (op_neD hr.units)) fun m H v w d e res Q ht hv hw h k => ?_
  unfold cNe at h
  obtain ⟨x, hx, hy⟩ := Option.map_eq_some_iff.mp h
  subst hy
  unfold eqD at hx
  split at hx
  · rename_i y hz
    have hx := Option.some.inj hx
    subst hx
    obtain ⟨h1, h2⟩ := eqSc_vw hv hw hz
    exact .inl ⟨h1, by rw [h2]; exact k _ _ (Ext.refl H) (.bl _)⟩
  · obtain ⟨p, q, h1, h2, h3, h4, h5⟩ := eqDt_vw hv hw hx
    exact .inr ⟨p, q, h1, h2, h3, h4, by rw [h5]; exact k _ _ (Ext.refl H) (.bl _)⟩
def cI (f : Int → Int → Bool) : D → D → Option R
  | .int i, .int j => some (.d (.bl (f i j)))
  | _, _ => none
theorem op_cI {op : CmpOp} {f : Int → Int → Bool} (ho : OpR X (compareOp op) (rI0 fun i j => .bl (f i j))) : OpS X (compareOp op) (cI f) := by
  refine opS_of ho fun m H v w d e res Q ht hv hw hr k => ?_
  unfold cI at hr
  split at hr
  · cases hr
    exact ⟨_, _, vw_int hv, vw_int hw, k _ _ (Ext.refl H) (.bl _)⟩
  · cases hr
abbrev cLt := cI fun i j => decide (i < j)
abbrev cLe := cI fun i j => decide (i ≤ j)
abbrev cGt := cI fun i j => decide (j < i)
abbrev cGe := cI fun i j => decide (j ≤ i)
theorem op_ltS : OpS X (compareOp .Lt) cLt := op_cI op_lt
theorem op_leS : OpS X (compareOp .LtE) cLe := op_cI op_le
theorem op_gtS : OpS X (compareOp .Gt) cGt := op_cI op_gt
theorem op_geS : OpS X (compareOp .GtE) cGe := op_cI op_ge
def cIs : D → D → Option R
  | .non, .non => some (.d (.bl true))
  | _, .non => some (.d (.bl false))
  | _, _ => none
def cIsN : D → D → Option R
  | .non, .non => some (.d (.bl false))
  | _, .non => some (.d (.bl true))
  | _, _ => none
theorem vw_notnon {K : PySem.W.Frag} {mg : Str → Option Value} {m : List Addr} {H : Hp} {v : V} {d : D} (h : Vw K mg m H v d) (n : d ≠ .non) : v ≠ .non := by
  intro e
  subst e
  cases d with
  | non => exact n rfl
  | lst l => obtain ⟨a, vs, h1, _⟩ := h; cases h1
  | _ => have h : Fz K mg m H _ _ := h; cases h
theorem op_isS : OpS X (compareOp .Is) cIs := by
  refine opS_of op_isN fun m H v w d e res Q ht hv hw hr k => ?_
  unfold cIs at hr
  split at hr
  · cases hr
    refine ⟨vw_non hw, ?_⟩
    rw [vw_non hv]
    exact k _ _ (Ext.refl H) (.bl _)
  · cases hr
    rename_i hn
    refine ⟨vw_non hw, ?_⟩
    rw [decide_eq_false (vw_notnon hv fun z => hn z)]
    exact k _ _ (Ext.refl H) (.bl _)
  · cases hr
theorem op_isNS : OpS X (compareOp .IsNot) cIsN := by
  refine opS_of op_notN fun m H v w d e res Q ht hv hw hr k => ?_
  unfold cIsN at hr
  split at hr
  · cases hr
    refine ⟨vw_non hw, ?_⟩
    rw [vw_non hv]
    exact k _ _ (Ext.refl H) (.bl _)
  · cases hr
    rename_i hn
    refine ⟨vw_non hw, ?_⟩
    rw [decide_eq_false (vw_notnon hv fun z => hn z)]
    exact k _ _ (Ext.refl H) (.bl _)
  · cases hr
/-- x in y -/
def flatD : D → Bool
  | .non => true | .bl _ => true | .int _ => true | .str _ => true | _ => false
def eqF : D → D → Bool
  | .non, .non => true
  | .bl a, .bl b => a == b
  | .bl a, .int b => (if a then 1 else 0) == b
  | .int a, .bl b => a == (if b then 1 else 0)
  | .int a, .int b => a == b
  | .str a, .str b => a == b
  | _, _ => false
def inF (x : D) (l : List D) : Bool := l.any fun y => eqF y x
theorem flat_vw {K : PySem.W.Frag} {mg : Str → Option Value} {m : List Addr} {H : Hp} {v : V} {d : D} (h : Fz K mg m H v d) (f : flatD d = true) : flatV v = true := by
  cases h <;> first | rfl | cases f
theorem eqF_vw {K : PySem.W.Frag} {mg : Str → Option Value} {m : List Addr} {H : Hp} {v w : V} {d e : D} (hv : Fz K mg m H v d) (hw : Fz K mg m H w e) (fd : flatD d = true) (fe : flatD e = true) : eqV v w = eqF d e := by
  cases hv with
  | non => cases hw <;> first | rfl | cases fe
  | bl b => cases hw <;> first | rfl | cases fe
  | int b => cases hw <;> first | rfl | cases fe
  | str b => cases hw <;> first | rfl | cases fe
  | _ => cases fd
theorem flats_vw {K : PySem.W.Frag} {mg : Str → Option Value} {m : List Addr} {H : Hp} {w : V} {e : D} (hw : Fz K mg m H w e) (fe : flatD e = true) : ∀ {vs : List V} {l : List D}, FzL K mg m H vs l → l.all flatD = true → vs.all flatV = true ∧ inV w vs = inF e l
  | _, _, .nil, _ => ⟨rfl, rfl⟩
  | _, _, .cons h t, f => by
    rw [List.all_cons, Bool.and_eq_true] at f
    obtain ⟨h1, h2⟩ := flats_vw hw fe t f.2
    refine ⟨by rw [List.all_cons, flat_vw h f.1, h1]; rfl, ?_⟩
    unfold inV inF at h2 ⊢
    rw [List.any_cons, List.any_cons, eqF_vw h hw f.1 fe, h2]
def inDt (x : D) (l : List D) : Option Bool := match pyOf x, pyAll l with
  | some p, some q => if SeqAt.shaped p = true ∧ SeqAt.shaped (.list q) = true then some (q.any fun z => PyData.eqv z p) else none
  | _, _ => none
def inD (x y : D) : Option Bool := match y with
  | .lst l => if flatD x = true ∧ l.all flatD = true then some (inF x l) else inDt x l
  | .sls l => if flatD x = true ∧ l.all flatD = true then some (inF x l) else none
  | .tup l => if flatD x = true ∧ l.all flatD = true then some (inF x l) else inDt x l
  | .str s => match x with
    | .str z => if z.length = 1 then some (decide (z.cps.toList.getD 0 0 ∈ s.cps.toList)) else none
    | _ => none
  | _ => none
def cIn (x y : D) : Option R := (inD x y).map fun b => .d (.bl b)
theorem fl_vw {K : PySem.W.Frag} {mg : Str → Option Value} {m : List Addr} {H : Hp} {v : V} {d : D} (h : Vw K mg m H v d) (f : flatD d = true) : Fz K mg m H v d := by
  cases d with
  | lst l => cases f
  | _ => exact h
theorem sign_one {z : Str} (h : z.length = 1) : z = ⟨#[z.cps.toList.getD 0 0]⟩ := by
  obtain ⟨⟨l⟩⟩ := z
  have h : l.length = 1 := h
  match l, h with
  | [c], _ => rfl
theorem inD_vw {K : PySem.W.Frag} {mg : Str → Option Value} {m : List Addr} {H : Hp} {v w : V} {d e : D} {b : Bool} (hv : Vw K mg m H v d) (hw : Vw K mg m H w e) (h : inD d e = some b) :
    (∃ p xs, w = .ref p ∧ (SqL K H p xs ∨ SqT K H p xs) ∧ flatV v = true ∧ xs.all flatV = true ∧ inV v xs = b) ∨
    (∃ p ds, Dp K H v p ∧ Dp K H w (.list ds) ∧ SeqAt.shaped p = true ∧ SeqAt.shaped (.list ds) = true ∧ (ds.any fun z => PyData.eqv z p) = b) ∨
    (∃ (c : Nat) (z : Str), v = .str ⟨#[c]⟩ ∧ w = .str z ∧ decide (c ∈ z.cps.toList) = b) ∨
    (∃ p ds, Dp K H v p ∧ Dp K H w (.tuple ds) ∧ SeqAt.shaped p = true ∧ SeqAt.shaped (.list ds) = true ∧ (ds.any fun z => PyData.eqv z p) = b) := by
  unfold inD at h
  split at h
  · split at h
    · cases h
      rename_i hf
      obtain ⟨p, xs, e1, h1, t1⟩ := vw_lst hw
      obtain ⟨h2, h3⟩ := flats_vw (fl_vw hv hf.1) hf.1 t1 hf.2
      exact .inl ⟨p, xs, e1, .inl (.of h1), flat_vw (fl_vw hv hf.1) hf.1, h2, h3⟩
    · unfold inDt at h
      split at h
      · rename_i p q h1 h2
        split at h
        · cases h
          rename_i hs
          exact .inr (.inl ⟨p, q, vw_dp hv h1, vw_dp hw (by simp only [pyOf, h2]; rfl), hs.1, hs.2, rfl⟩)
        · cases h
      · cases h
  · split at h
    · cases h
      rename_i hf
      obtain ⟨p, xs, e1, h1, t1⟩ := vw_sls hw
      obtain ⟨h2, h3⟩ := flats_vw (fl_vw hv hf.1) hf.1 t1 hf.2
      exact .inl ⟨p, xs, e1, .inl h1, flat_vw (fl_vw hv hf.1) hf.1, h2, h3⟩
    · cases h
  · split at h
    · cases h
      rename_i hf
      obtain ⟨p, xs, e1, h1, t1⟩ := vw_tup hw
      obtain ⟨h2, h3⟩ := flats_vw (fl_vw hv hf.1) hf.1 t1 hf.2
      exact .inl ⟨p, xs, e1, .inr h1, flat_vw (fl_vw hv hf.1) hf.1, h2, h3⟩
    · unfold inDt at h
      split at h
      · rename_i p q h1 h2
        split at h
        · cases h
          rename_i hs
          exact .inr (.inr (.inr ⟨p, q, vw_dp hv h1, vw_dp hw (by simp only [pyOf, h2]; rfl), hs.1, hs.2, rfl⟩))
        · cases h
      · cases h
  · split at h
    · split at h
      · cases h
        rename_i hz
        exact .inr (.inr (.inl ⟨_, _, by rw [vw_str hv]; exact congrArg V.str (sign_one hz), vw_str hw, rfl⟩))
      · cases h
    · cases h
  · cases h
theorem op_inT (hu : X.A.units + 65 < cLine) : OpR X (compareOp .In) (fun x y H Q => ∃ d ds, Dp X.K H x d ∧ Dp X.K H y (.tuple ds) ∧ SeqAt.shaped d = true ∧ SeqAt.shaped (.list ds) = true ∧ Q (.bl (ds.any fun z => PyData.eqv z d)) H) := by
  intro pins s σ H x y v u Q I rx ry h
  obtain ⟨d, ds, hd, he, sd, se, q⟩ := h
  obtain ⟨as, r1⟩ := Dp.reads I d x v hd rx
  obtain ⟨bs, r2⟩ := Dp.reads I (.tuple ds) y u he ry
  exact SeqAt.in_tuple_reads r2 r1 (SeqAt.canLay_of_shaped se) (SeqAt.canLay_of_shaped sd) (PyProof.Rows.room_in_shaped sd hu) ⟨.bl _, H, I, rfl, q⟩
theorem op_inS {k : Nat} (hr : Room k X.A) : OpS X (compareOp .In) cIn := by
  refine opS_of (op_in_seq.or ((op_inD (by have := hr.un; omega)).or (op_in_sign.or (op_inT (by have := hr.un; omega))))) fun m H v w d e res Q ht hv hw h k => ?_
  unfold cIn at h
  obtain ⟨x, hx, hy⟩ := Option.map_eq_some_iff.mp h
  subst hy
  rcases inD_vw hv hw hx with ⟨p, xs, h1, h2, h3, h4, h5⟩ | ⟨p, ds, h1, h2, h3, h4, h5⟩ | ⟨c, z, h1, h2, h3⟩ | ⟨p, ds, h1, h2, h3, h4, h5⟩
  · exact .inl ⟨p, xs, h1, h2, h3, h4, by rw [if_neg Bool.false_ne_true, h5]; exact k _ _ (Ext.refl H) (.bl _)⟩
  · exact .inr (.inl ⟨p, ds, h1, h2, h3, h4, by rw [h5]; exact k _ _ (Ext.refl H) (.bl _)⟩)
  · exact .inr (.inr (.inl ⟨c, z, h1, h2, by rw [h3]; exact k _ _ (Ext.refl H) (.bl _)⟩))
  · exact .inr (.inr (.inr ⟨p, ds, h1, h2, h3, h4, by rw [h5]; exact k _ _ (Ext.refl H) (.bl _)⟩))
end
end Sm

namespace Sm
open PySem L2
section
variable {X : Cx} {c : C0} {a b e cnd : Expr} {es : List Expr} {pos : Pos} {fa fb fe : G → Option (R × G)} {ft fu : G → Option (Bool × G)}

/-! ## one operand -/
def eNeg (fa : G → Option (R × G)) : G → Option (R × G) := fun g => (fa g).bind fun p => match p.1 with
  | .d (.int i) => some (.d (.int (-i)), p.2)
  | _ => none
theorem se_neg (ha : SE X c a fa) : SE X c (.UnaryOp .USub a pos) (eNeg fa) := (pe_un un_neg ha).imp fun σ H Q q => by
  obtain ⟨m, g, r, g', A, e, k⟩ := q
  unfold eNeg at e
  obtain ⟨⟨r1, g1⟩, e1, e⟩ := Option.bind_eq_some_iff.mp e
  refine ⟨m, g, r1, g1, A, e1, fun v m1 H1 A1 S1 V1 N1 => ?_⟩
  cases r1 with
  | d x =>
    cases x with
    | int i =>
      cases e
      have V1 : Fz X.K X.mg m1 H1 v (.int i) := V1
      cases V1
      exact ⟨i, rfl, k _ m1 H1 A1 S1 (.int _) fun _ z => nomatch z⟩
    | _ => cases e
  | _ => cases e

/-! ## choices -/
def eIf (ft : G → Option (Bool × G)) (fa fb : G → Option (R × G)) : G → Option (R × G) := fun g => (ft g).bind fun p => if p.1 = true then fa p.2 else fb p.2
theorem se_if (hc : ST X c cnd ft) (ha : SE X c a fa) (hb : SE X c b fb) : SE X c (.IfExp cnd a b pos) (eIf ft fa fb) := (pe_ifExp hc ha hb).imp fun σ H Q q => by
  obtain ⟨m, g, r, g', A, e, k⟩ := q
  unfold eIf at e
  obtain ⟨⟨t, g1⟩, e1, e⟩ := Option.bind_eq_some_iff.mp e
  refine ⟨m, g, t, g1, A, e1, fun m1 H1 A1 S1 => ?_⟩
  cases t with
  | true => exact ⟨m1, g1, r, g', A1, e, fun v m2 H2 A2 S2 V2 N2 => k v m2 H2 A2 (S1.trans S2) V2 (N2.back S1)⟩
  | false => exact ⟨m1, g1, r, g', A1, e, fun v m2 H2 A2 S2 V2 N2 => k v m2 H2 A2 (S1.trans S2) V2 (N2.back S1)⟩
def bAnd (ft fu : G → Option (Bool × G)) : G → Option (Bool × G) := fun g => (ft g).bind fun p => if p.1 = true then fu p.2 else some (false, p.2)
def bOr (ft fu : G → Option (Bool × G)) : G → Option (Bool × G) := fun g => (ft g).bind fun p => if p.1 = true then some (true, p.2) else fu p.2
def bNot (ft : G → Option (Bool × G)) : G → Option (Bool × G) := fun g => (ft g).bind fun p => some (!p.1, p.2)
abbrev SW (X : Cx) (c : C0) (e : Expr) (f : G → Option (Bool × G)) : Prop := PW X e (tT X.K X.mg c f)
theorem _root_.L2.PW.imp {X : Cx} {e : Expr} {t t' : TT} (h : PW X e t) (k : ∀ σ H Q, t' σ H Q → t σ H Q) : PW X e t' := ⟨fun w pins s σ H Q I q => h.run w pins s σ H Q I (k σ H Q q)⟩
theorem sw_and1 (h : ST X c a ft) : SW X c (.BoolOp .And [a] pos) ft := pw_and1 h
theorem sw_or1 (h : ST X c a ft) : SW X c (.BoolOp .Or [a] pos) ft := pw_or1 h
theorem sw_and (h : ST X c a ft) (h2 : SW X c (.BoolOp .And (b :: es) pos) fu) : SW X c (.BoolOp .And (a :: b :: es) pos) (bAnd ft fu) := (pw_and h h2).imp fun σ H Q q => by
  obtain ⟨m, g, r, g', A, e, k⟩ := q
  unfold bAnd at e
  obtain ⟨⟨t, g1⟩, e1, e⟩ := Option.bind_eq_some_iff.mp e
  refine ⟨m, g, t, g1, A, e1, fun m1 H1 A1 S1 => ?_⟩
  cases t with
  | true => exact ⟨m1, g1, r, g', A1, e, fun m2 H2 A2 S2 => k m2 H2 A2 (S1.trans S2)⟩
  | false => cases e; exact k m1 H1 A1 S1
theorem sw_or (h : ST X c a ft) (h2 : SW X c (.BoolOp .Or (b :: es) pos) fu) : SW X c (.BoolOp .Or (a :: b :: es) pos) (bOr ft fu) := (pw_or h h2).imp fun σ H Q q => by
  obtain ⟨m, g, r, g', A, e, k⟩ := q
  unfold bOr at e
  obtain ⟨⟨t, g1⟩, e1, e⟩ := Option.bind_eq_some_iff.mp e
  refine ⟨m, g, t, g1, A, e1, fun m1 H1 A1 S1 => ?_⟩
  cases t with
  | true => cases e; exact k m1 H1 A1 S1
  | false => exact ⟨m1, g1, r, g', A1, e, fun m2 H2 A2 S2 => k m2 H2 A2 (S1.trans S2)⟩
theorem st_bool {op : BoolOp} (h : SW X c (.BoolOp op es pos) ft) : ST X c (.BoolOp op es pos) ft := h.pt
theorem st_not (h : ST X c a ft) : ST X c (.UnaryOp .Not a pos) (bNot ft) := (pt_not h).imp fun σ H Q q => by
  obtain ⟨m, g, r, g', A, e, k⟩ := q
  unfold bNot at e
  obtain ⟨⟨t, g1⟩, e1, e⟩ := Option.bind_eq_some_iff.mp e
  cases e
  exact ⟨m, g, t, g1, A, e1, fun m1 H1 A1 S1 => k m1 H1 A1 S1⟩
/-- as values (of bools) -/
def eAnd (fa fb : G → Option (R × G)) : G → Option (R × G) := fun g => (tst fa g).bind fun p => if p.1 = true then fb p.2 else some (.d (.bl false), p.2)
def eOr (fa fb : G → Option (R × G)) : G → Option (R × G) := fun g => (tst fa g).bind fun p => if p.1 = true then some (.d (.bl true), p.2) else fb p.2
def eNot (fa : G → Option (R × G)) : G → Option (R × G) := fun g => (tst fa g).bind fun p => some (.d (.bl !p.1), p.2)
theorem se_one {op : BoolOp} (h : SE X c a fa) : SE X c (.BoolOp op [a] pos) fa := pe_one h
theorem fz_bl {K : PySem.W.Frag} {mg : Str → Option Value} {m : List Addr} {H : Hp} {v : V} {i : Bool} (h : Fz K mg m H v (.bl i)) : v = .bl i := by cases h; rfl
theorem se_and (h : SE X c a fa) (h2 : SE X c (.BoolOp .And (b :: es) pos) fb) : SE X c (.BoolOp .And (a :: b :: es) pos) (eAnd fa fb) := (pe_and h h2).imp fun σ H Q q => by
  obtain ⟨m, g, r, g', A, e, k⟩ := q
  unfold eAnd at e
  obtain ⟨⟨t, g1⟩, e1, e⟩ := Option.bind_eq_some_iff.mp e
  refine ⟨m, g, _, g1, A, tst_inv e1, fun v m1 H1 A1 S1 V1 _ => ⟨t, fz_bl V1, ?_⟩⟩
  cases t with
  | true => exact ⟨m1, g1, r, g', A1, e, fun v m2 H2 A2 S2 V2 N2 => k v m2 H2 A2 (S1.trans S2) V2 (N2.back S1)⟩
  | false => cases e; exact k _ m1 H1 A1 S1 (.bl _) fun _ z => nomatch z
/-! ## chains of two comparisons -/
def eChain (h h' : D → D → Option R) (fa fb fe : G → Option (R × G)) : G → Option (R × G) := fun g =>
  (fa g).bind fun p => (fb p.2).bind fun q => (ld q.2 p.1).bind fun x => (ld q.2 q.1).bind fun y => (h x y).bind fun r => match r with
    | .d (.bl true) => (fe q.2).bind fun s => (ld s.2 q.1).bind fun y' => (ld s.2 s.1).bind fun z => (h' y' z).bind fun r => some (r, s.2)
    | .d (.bl false) => some (.d (.bl false), q.2)
    | _ => none
theorem chain_ok {h h' : D → D → Option R} {r2 r3 : R2} {σ : St} {H : Hp} {Q : VK}
    (hr : ∀ (m : List Addr) (H : Hp) (v w : V) (d e : D) (res : R) (Q : VK), (∀ a ∈ m, H a ≠ none) → Vw X.K X.mg m H v d → Vw X.K X.mg m H w e → h d e = some res → (∀ u H', Ext H H' → ResV X.K X.mg m H H' u res → Q u H') → r2 v w H Q)
    (hr' : ∀ (m : List Addr) (H : Hp) (v w : V) (d e : D) (res : R) (Q : VK), (∀ a ∈ m, H a ≠ none) → Vw X.K X.mg m H v d → Vw X.K X.mg m H w e → h' d e = some res → (∀ u H', Ext H H' → ResV X.K X.mg m H H' u res → Q u H') → r3 v w H Q)
    (q : tE X.K X.mg c (eChain h h' fa fb fe) σ H Q) : tChain r2 r3 (tE X.K X.mg c fa) (tE X.K X.mg c fb) (tE X.K X.mg c fe) σ H Q := by
  obtain ⟨m, g, r, g', A, e, k⟩ := q
  unfold eChain at e
  obtain ⟨⟨r1, g1⟩, e1, e⟩ := Option.bind_eq_some_iff.mp e
  obtain ⟨⟨r2, g2⟩, e2, e⟩ := Option.bind_eq_some_iff.mp e
  obtain ⟨d1, e3, e⟩ := Option.bind_eq_some_iff.mp e
  obtain ⟨d2, e4, e⟩ := Option.bind_eq_some_iff.mp e
  obtain ⟨r', e5, e⟩ := Option.bind_eq_some_iff.mp e
  refine ⟨m, g, r1, g1, A, e1, fun v1 m1 H1 A1 S1 V1 N1 => ⟨m1, g1, r2, g2, A1, e2, fun v2 m2 H2 A2 S2 V2 N2 => ?_⟩⟩
  refine hr m2 H2 v1 v2 d1 d2 r' _ A2.trk (VR.ld A2 (V1.step A1 S2) e3) (VR.ld A2 V2 e4) e5 fun u H3 x hv => ?_
  have A3 := A2.ext x
  have S3 : Stp m2 g2 σ H2 m2 g2 σ H3 := Stp.ext x
  split at e
  · have hv : Fz X.K X.mg m2 H3 u (.bl true) := hv
    obtain ⟨⟨r4, g4⟩, e6, e⟩ := Option.bind_eq_some_iff.mp e
    obtain ⟨d3, e7, e⟩ := Option.bind_eq_some_iff.mp e
    obtain ⟨d4, e8, e⟩ := Option.bind_eq_some_iff.mp e
    obtain ⟨r5, e9, e⟩ := Option.bind_eq_some_iff.mp e
    cases e
    refine ⟨true, fz_bl hv, iteT ⟨m2, g2, r4, g4, A3, e6, fun v4 m4 H4 A4 S4 V4 N4 => ?_⟩⟩
    refine hr' m4 H4 v2 v4 d3 d4 _ Q A4.trk (VR.ld A4 ((V2.step A2 S3).step A3 S4) e7) (VR.ld A4 V4 e8) e9 fun u' H5 x' hv' => ?_
    obtain ⟨m5, A5, S5, V5, N5⟩ := res_ok A4 x' hv'
    have S := (((S1.trans S2).trans S3).trans S4)
    exact k u' m5 H5 A5 (S.trans S5) V5 (N5.back S)
  · have hv : Fz X.K X.mg m2 H3 u (.bl false) := hv
    cases e
    exact ⟨false, fz_bl hv, iteF (k _ m2 H3 A3 ((S1.trans S2).trans S3) (.bl _) fun _ z => nomatch z)⟩
  · cases e
theorem st_chain {op op' : CmpOp} {h h' : D → D → Option R} (ho : OpS X (compareOp op) h) (ho' : OpS X (compareOp op') h') (ha : SE X c a fa) (hb : SE X c b fb) (he : SE X c e fe)
    (hm : lastMarks [op, op'] [b, e] = false := by with_unfolding_all rfl) : ST X c (.Compare a [op, op'] [b, e] pos) (tst (eChain h h' fa fb fe)) := by
  obtain ⟨r, h1, h2⟩ := ho
  obtain ⟨r', h3, h4⟩ := ho'
  exact (pt_chain h1 h3 ha hb he hm).imp fun σ H Q q => chain_ok h2 h4 (tst_ok q)
theorem se_chain {op op' : CmpOp} {h h' : D → D → Option R} (ho : OpS X (compareOp op) h) (ho' : OpS X (compareOp op') h') (ha : SE X c a fa) (hb : SE X c b fb) (he : SE X c e fe)
    (hm : lastMarks [op, op'] [b, e] = false := by with_unfolding_all rfl) : SE X c (.Compare a [op, op'] [b, e] pos) (eChain h h' fa fb fe) := by
  obtain ⟨r, h1, h2⟩ := ho
  obtain ⟨r', h3, h4⟩ := ho'
  exact (pe_chain h1 h3 ha hb he hm).imp fun σ H Q q => chain_ok h2 h4 q

/-! ## argument lists, displays -/
def aNil : G → Option (List R × G) := fun g => some ([], g)
def aCons (f : G → Option (R × G)) (fr : G → Option (List R × G)) : G → Option (List R × G) := fun g => (f g).bind fun p => (fr p.2).bind fun q => some (p.1 :: q.1, q.2)
variable {fs : G → Option (List R × G)}
theorem sa_nil : SA X c [] aNil := pa_nil.imp fun σ H Q q => by
  obtain ⟨m, g, r, g', A, e, k⟩ := q
  cases e
  exact k [] m H A Stp.refl trivial trivial
theorem VRs.step {K : PySem.W.Frag} {mg : Str → Option Value} {m m1 : List Addr} {g g1 : G} {σ : St} {H H1 : Hp} (A : Abs K mg c m g σ H) (s : Stp m g σ H m1 g1 σ H1) : ∀ {vs : List V} {rs : List R}, VRs K mg c m g σ H vs rs → VRs K mg c m1 g1 σ H1 vs rs
  | [], [], _ => trivial
  | _ :: _, _ :: _, h => ⟨h.1.step A s, VRs.step A s h.2⟩
  | [], _ :: _, h => h.elim
  | _ :: _, [], h => h.elim
theorem Nws.back {m m1 : List Addr} {g g1 : G} {σ σ1 : St} {H H1 : Hp} (s : Stp m g σ H m1 g1 σ1 H1) : ∀ {vs : List V} {rs : List R}, Nws H1 vs rs → Nws H vs rs
  | [], [], _ => trivial
  | _ :: _, _ :: _, h => ⟨h.1.back s, Nws.back s h.2⟩
  | [], _ :: _, h => h.elim
  | _ :: _, [], h => h.elim
theorem sa_cons (h : SE X c e fe) (hr : SA X c es fs) (hs : starEach (e :: es) X.env = (false, eval e X.env) :: starEach es X.env := by rfl) : SA X c (e :: es) (aCons fe fs) := (pa_cons h hr hs).imp fun σ H Q q => by
  obtain ⟨m, g, r, g', A, e, k⟩ := q
  unfold aCons at e
  obtain ⟨⟨r1, g1⟩, e1, e⟩ := Option.bind_eq_some_iff.mp e
  obtain ⟨⟨r2, g2⟩, e2, e⟩ := Option.bind_eq_some_iff.mp e
  cases e
  refine ⟨m, g, r1, g1, A, e1, fun v1 m1 H1 A1 S1 V1 N1 => ⟨m1, g1, r2, g2, A1, e2, fun vs m2 H2 A2 S2 V2 N2 => ?_⟩⟩
  exact k (v1 :: vs) m2 H2 A2 (S1.trans S2) ⟨V1.step A1 S2, V2⟩ ⟨N1, N2.back S1⟩
def VRws (K : PySem.W.Frag) (mg : Str → Option Value) (c : C0) (m : List Addr) (g : G) (σ : St) (H : Hp) : List V → List R → Prop
  | [], [] => True
  | v :: vs, r :: rs => VRw K mg c m g σ H v r ∧ VRws K mg c m g σ H vs rs
  | _, _ => False
theorem VRs.w {K : PySem.W.Frag} {mg : Str → Option Value} {m : List Addr} {g : G} {σ : St} {H : Hp} : ∀ {vs : List V} {rs : List R}, VRs K mg c m g σ H vs rs → VRws K mg c m g σ H vs rs
  | [], [], _ => trivial
  | _ :: _, _ :: _, h => ⟨h.1.w, VRs.w h.2⟩
  | [], _ :: _, h => h.elim
  | _ :: _, [], h => h.elim
theorem VRws.sub {K : PySem.W.Frag} {mg : Str → Option Value} {m m1 : List Addr} {g g1 : G} {σ : St} {H : Hp} (hm : ∀ a ∈ m1, a ∈ m) (ho : ∀ a, Own g1 σ a → Own g σ a) : ∀ {vs : List V} {rs : List R}, VRws K mg c m g σ H vs rs → VRws K mg c m1 g1 σ H vs rs
  | [], [], _ => trivial
  | _ :: _, _ :: _, h => ⟨h.1.sub hm ho, VRws.sub hm ho h.2⟩
  | [], _ :: _, h => h.elim
  | _ :: _, [], h => h.elim
theorem frzs_ok {K : PySem.W.Frag} {mg : Str → Option Value} {m : List Addr} {g : G} {σ : St} {H H1 : Hp} : ∀ {vs : List V} {rs : List R} {ds : List D} {m1 : List Addr} {g1 g2 : G}, Stp m g σ H m1 g1 σ H1 → Abs K mg c m1 g1 σ H1 → VRws K mg c m1 g1 σ H1 vs rs → Nws H vs rs → frzs g1 rs = some (ds, g2) →
    ∃ m2, Abs K mg c m2 g2 σ H1 ∧ Stp m g σ H m2 g2 σ H1 ∧ FzL K mg m2 H1 vs ds ∧ (∀ a ∈ m2, a ∈ m1) ∧ (∀ a, Own g2 σ a → Own g1 σ a)
  | [], [], _, m1, _, _, S, A, _, _, e => by
    cases e
    exact ⟨m1, A, S, .nil, fun _ z => z, fun _ z => z⟩
  | v :: vs, r :: rs, _, m1, g1, _, S, A, h, n, e => by
    unfold frzs at e
    obtain ⟨⟨d, g2⟩, e1, e⟩ := Option.bind_eq_some_iff.mp e
    obtain ⟨⟨ds, g3⟩, e2, e⟩ := Option.bind_eq_some_iff.mp e
    cases e
    obtain ⟨m2, A2, S2, F2, M2, O2⟩ := frz_ok S A h.1 n.1 e1
    obtain ⟨m3, A3, S3, F3, M3, O3⟩ := frzs_ok S2 A2 (h.2.sub M2 O2) n.2 e2
    exact ⟨m3, A3, S3, .cons (F2.map fun a o z w => ⟨fun q => z (M3 a q), w⟩) F3, fun a q => M2 a (M3 a q), fun a q => O2 a (O3 a q)⟩
  | [], _ :: _, _, _, _, _, _, _, h, _, _ => h.elim
  | _ :: _, [], _, _, _, _, _, _, h, _, _ => h.elim
def eTup (fs : G → Option (List R × G)) : G → Option (R × G) := fun g => (fs g).bind fun p => (frzs p.2 p.1).bind fun q => if q.1.length ≤ 1000 then some (.d (.tup q.1), q.2) else none
def eLst (fs : G → Option (List R × G)) : G → Option (R × G) := fun g => (fs g).bind fun p => (frzs p.2 p.1).bind fun q => if q.1.length ≤ 1000 then some (.nw q.1, q.2) else none
theorem le_size {n : Nat} (h : n ≤ 1000) : n ≤ sizeLine := Nat.le_trans h (by decide)
theorem se_tup {x1} (h : SA X c es fs) : SE X c (.Tuple es x1 pos) (eTup fs) := (pe_tup h).imp fun σ H Q q => by
  obtain ⟨m, g, r, g', A, e, k⟩ := q
  unfold eTup at e
  obtain ⟨⟨rs, g1⟩, e1, e⟩ := Option.bind_eq_some_iff.mp e
  obtain ⟨⟨ds, g2⟩, e2, e⟩ := Option.bind_eq_some_iff.mp e
  split at e
  · rename_i hl
    cases e
    refine ⟨m, g, rs, g1, A, e1, fun vs m1 H1 A1 S1 V1 N1 => ?_⟩
    obtain ⟨m2, A2, S2, F2, _⟩ := frzs_ok S1 A1 V1.w N1 e2
    refine ⟨by rw [F2.length]; exact le_size hl, fun p hp => ?_⟩
    exact k _ m2 _ (A2.ext (Ext.new hp)) (S2.trans (Stp.ext (Ext.new hp))) (tup_new A2.trk hp F2) fun _ z => nomatch z
  · cases e
theorem se_lst (h : SA X c es fs) : SE X c (.List es pos) (eLst fs) := (pe_lst h).imp fun σ H Q q => by
  obtain ⟨m, g, r, g', A, e, k⟩ := q
  unfold eLst at e
  obtain ⟨⟨rs, g1⟩, e1, e⟩ := Option.bind_eq_some_iff.mp e
  obtain ⟨⟨ds, g2⟩, e2, e⟩ := Option.bind_eq_some_iff.mp e
  split at e
  · rename_i hl
    cases e
    refine ⟨m, g, rs, g1, A, e1, fun vs m1 H1 A1 S1 V1 N1 => ?_⟩
    obtain ⟨m2, A2, S2, F2, _⟩ := frzs_ok S1 A1 V1.w N1 e2
    refine ⟨by rw [F2.length]; exact le_size hl, fun p hp => ?_⟩
    obtain ⟨m3, A3, S3, V3, N3⟩ := res_ok (v := .ref p) (r := .nw ds) A2 (Ext.new hp) (nw_new hp F2)
    exact k _ m3 _ A3 (S2.trans S3) V3 (N3.back S2)
  · cases e

/-! ## subscripts, slices -/
def IxS (X : Cx) (h : D → D → Option R) : Prop :=
  ∃ r : R2, IxR X r ∧ ∀ (m : List Addr) (H : Hp) (v w : V) (d e : D) (res : R) (Q : VK), (∀ a ∈ m, H a ≠ none) → Vw X.K X.mg m H v d → Vw X.K X.mg m H w e → h d e = some res →
    (∀ u H', Ext H H' → ResV X.K X.mg m H H' u res → Q u H') → r v w H Q
theorem se_ixr {h : D → D → Option R} (ho : IxS X h) (ha : SE X c a fa) (hb : SE X c b fb) (hs : PlainIx b) : SE X c (.Subscript a b pos) (eBin h fa fb) := by
  obtain ⟨r, h1, h2⟩ := ho
  exact (pe_ix h1 ha hb hs).imp fun σ H Q => bin_ok h2
def ixD : D → D → Option R
  | .lst l, .int i => (atI l i).map .d
  | .sls l, .int i => (atI l i).map .d
  | .tup l, .int i => (atI l i).map .d
  | .str s, .int i => if s.length ≤ sizeLine then (atI s.cps.toList i).map fun c => .d (.str ⟨#[c]⟩) else none
  | _, _ => none
theorem atI_get {K : PySem.W.Frag} {mg : Str → Option Value} {m : List Addr} {H : Hp} {vs : List V} {l : List D} {i : Int} {r : R} (t : FzL K mg m H vs l) (e : (atI l i).map R.d = some r) : ∃ v d, atI vs i = some v ∧ r = .d d ∧ Fz K mg m H v d := by
  obtain ⟨d, e1, e2⟩ := Option.map_eq_some_iff.mp e
  unfold atI at e1 ⊢
  obtain ⟨j, e3, e4⟩ := Option.bind_eq_some_iff.mp e1
  obtain ⟨v, h1, h2⟩ := t.get e4
  exact ⟨v, d, by rw [t.length, e3]; exact h1, e2.symm, h2⟩
theorem ix_S : IxS X ixD := by
  refine ⟨_, ix_seq, fun m H v w d e res Q ht hv hw hr k => ?_⟩
  unfold ixD at hr
  split at hr
  · obtain ⟨p, vs, e1, h1, t1⟩ := vw_lst hv
    obtain ⟨x, d, h2, h3, h4⟩ := atI_get t1 hr
    subst h3
    exact .inl ⟨p, vs, _, x, e1, vw_int hw, .of h1, h2, k _ _ (Ext.refl H) h4⟩
  · obtain ⟨p, vs, e1, h1, t1⟩ := vw_sls hv
    obtain ⟨x, d, h2, h3, h4⟩ := atI_get t1 hr
    subst h3
    exact .inl ⟨p, vs, _, x, e1, vw_int hw, h1, h2, k _ _ (Ext.refl H) h4⟩
  · obtain ⟨p, vs, e1, h1, t1⟩ := vw_tup hv
    obtain ⟨x, d, h2, h3, h4⟩ := atI_get t1 hr
    subst h3
    exact .inr (.inl ⟨p, vs, _, x, e1, vw_int hw, h1, h2, k _ _ (Ext.refl H) h4⟩)
  · split at hr
    · rename_i hz
      obtain ⟨c, e1, e2⟩ := Option.map_eq_some_iff.mp hr
      subst e2
      exact .inr (.inr ⟨_, _, c, vw_str hv, vw_int hw, hz, e1, k _ _ (Ext.refl H) (.str _)⟩)
    · cases hr
  · cases hr
theorem se_ix (ha : SE X c a fa) (hb : SE X c b fb) (hs : PlainIx b := by exact fun _ _ => rfl) : SE X c (.Subscript a b pos) (eBin ixD fa fb) := se_ixr ix_S ha hb hs

abbrev SO (X : Cx) (c : C0) (e : Option Expr) (f : G → Option (Option Int × G)) : Prop := PO X e (fun σ H Q => ∃ m g o g', Abs X.K X.mg c m g σ H ∧ f g = some (o, g') ∧ ∀ m' H', Abs X.K X.mg c m' g' σ H' → Stp m g σ H m' g' σ H' → Q o H')
theorem _root_.L2.PO.imp {X : Cx} {e : Option Expr} {t t' : TO} (h : PO X e t) (k : ∀ σ H Q, t' σ H Q → t σ H Q) : PO X e t' := ⟨fun pins s σ H Q I q => h.run pins s σ H Q I (k σ H Q q)⟩
def oNone : G → Option (Option Int × G) := fun g => some (none, g)
def oSome (fe : G → Option (R × G)) : G → Option (Option Int × G) := fun g => (fe g).bind fun p => match p.1 with
  | .d (.int i) => some (some i, p.2)
  | _ => none
theorem so_none : SO X c none oNone := po_none.imp fun σ H Q q => by
  obtain ⟨m, g, r, g', A, e, k⟩ := q
  cases e
  exact k m H A Stp.refl
theorem so_some (h : SE X c e fe) : SO X c (some e) (oSome fe) := (po_some h).imp fun σ H Q q => by
  obtain ⟨m, g, r, g', A, e, k⟩ := q
  unfold oSome at e
  obtain ⟨⟨r1, g1⟩, e1, e⟩ := Option.bind_eq_some_iff.mp e
  refine ⟨m, g, r1, g1, A, e1, fun v m1 H1 A1 S1 V1 N1 => ?_⟩
  cases r1 with
  | d x =>
    cases x with
    | int i =>
      cases e
      have V1 : Fz X.K X.mg m1 H1 v (.int i) := V1
      cases V1
      exact ⟨i, rfl, k m1 H1 A1 S1⟩
    | _ => cases e
  | _ => cases e
def cutD (xs : List D) (lo hi : Option Int) : List D := (xs.drop (HT.sIx xs.length 0 lo)).take (HT.sIx xs.length xs.length hi - HT.sIx xs.length 0 lo)
theorem FzL.cut {K : PySem.W.Frag} {mg : Str → Option Value} {m : List Addr} {H : Hp} {vs : List V} {l : List D} (t : FzL K mg m H vs l) (lo hi : Option Int) : FzL K mg m H (cutV vs lo hi) (cutD l lo hi) := by
  unfold cutV cutD
  rw [t.length]
  exact (t.drop _).take _
def slD (d : D) (lo hi : Option Int) : Option R := match d with
  | .lst l => some (.nw (cutD l lo hi))
  | .sls l => some (.nw (cutD l lo hi))
  | .str s => if s.length ≤ sizeLine then some (.d (.str (cutS s lo hi))) else none
  | .tup l => some (.d (.tup (cutD l lo hi)))
  | _ => none
def eSl (fa : G → Option (R × G)) (fl fh : G → Option (Option Int × G)) : G → Option (R × G) := fun g =>
  (fa g).bind fun p => (fl p.2).bind fun q => (fh q.2).bind fun s => (ld s.2 p.1).bind fun x => (slD x q.1 s.1).bind fun r => some (r, s.2)
theorem HTsIx_full {n : Nat} {lo hi : Option Int} {l : List D} (h : HT.sIx l.length 0 lo = 0 ∧ HT.sIx l.length l.length hi = l.length) : cutD l lo hi = l := by
  unfold cutD
  rw [h.1, h.2, List.drop_zero, Nat.sub_zero, List.take_length]
theorem slD_vw {v : V} {d : D} {lo hi : Option Int} {res : R} {m : List Addr} {H : Hp} {Q : VK} (ht : ∀ a ∈ m, H a ≠ none) (hv : Vw X.K X.mg m H v d) (hr : slD d lo hi = some res)
    (k : ∀ u H', Ext H H' → ResV X.K X.mg m H H' u res → Q u H') : rSlL X.K v lo hi H Q ∨ (rSlS v lo hi H Q ∨ rSlA X.K v lo hi H Q) := by
  unfold slD at hr
  split at hr
  · cases hr
    obtain ⟨p, vs, e1, h1, t1⟩ := vw_lst hv
    exact .inl ⟨p, vs, e1, .of h1, fun l hl => k _ _ (Ext.new hl) (nw_new hl (t1.cut lo hi))⟩
  · cases hr
    obtain ⟨p, vs, e1, h1, t1⟩ := vw_sls hv
    exact .inl ⟨p, vs, e1, h1, fun l hl => k _ _ (Ext.new hl) (nw_new hl (t1.cut lo hi))⟩
  · split at hr
    · cases hr
      exact .inr (.inl ⟨_, vw_str hv, ‹_›, k _ _ (Ext.refl H) (.str _)⟩)
    · cases hr
  · cases hr
    rename_i l
    obtain ⟨p, vs, e1, h1, t1⟩ := vw_tup hv
    refine .inr (.inr ⟨p, vs, e1, h1, fun hw => ?_, fun _ q hq => k _ _ (Ext.new hq) (tup_new ht hq (t1.cut lo hi))⟩)
    subst e1
    rw [t1.length] at hw
    have hv : Fz X.K X.mg m H (.ref p) (.tup l) := hv
    exact k _ _ (Ext.refl H) (by show Fz _ _ _ _ _ (.tup (cutD l lo hi)); rw [HTsIx_full (n := 0) hw]; exact hv)
  · cases hr
theorem se_sl {lo hi : Option Expr} {p2 : Pos} {fl fh : G → Option (Option Int × G)} (ha : SE X c a fa) (hl : SO X c lo fl) (hh : SO X c hi fh) : SE X c (.Subscript a (.Slice lo hi none p2) pos) (eSl fa fl fh) :=
  (pe_slice (sl_list.or (sl_str.or sl_tupA)) ha hl hh).imp fun σ H Q q => by
    obtain ⟨m, g, r, g', A, e, k⟩ := q
    unfold eSl at e
    obtain ⟨⟨r1, g1⟩, e1, e⟩ := Option.bind_eq_some_iff.mp e
    obtain ⟨⟨o1, g2⟩, e2, e⟩ := Option.bind_eq_some_iff.mp e
    obtain ⟨⟨o2, g3⟩, e3, e⟩ := Option.bind_eq_some_iff.mp e
    obtain ⟨d, e4, e⟩ := Option.bind_eq_some_iff.mp e
    obtain ⟨r', e5, e⟩ := Option.bind_eq_some_iff.mp e
    cases e
    refine ⟨m, g, r1, g1, A, e1, fun v1 m1 H1 A1 S1 V1 N1 => ⟨m1, g1, o1, g2, A1, e2, fun m2 H2 A2 S2 => ⟨m2, g2, o2, g3, A2, e3, fun m3 H3 A3 S3 => ?_⟩⟩⟩
    refine slD_vw A3.trk (VR.ld A3 ((V1.step A1 S2).step A2 S3) e4) e5 fun u H4 x hv => ?_
    obtain ⟨m4, A4, S4, V4, N4⟩ := res_ok A3 x hv
    exact k u m4 H4 A4 (((S1.trans S2).trans S3).trans S4) V4 (N4.back ((S1.trans S2).trans S3))
def eRev (fa : G → Option (R × G)) : G → Option (R × G) := fun g => (fa g).bind fun p => match ld p.2 p.1 with
  | some (.lst l) => some (.nw l.reverse, p.2)
  | some (.sls l) => some (.nw l.reverse, p.2)
  | _ => none
theorem se_rev {k : Nat} {p1 p2 p3 pos : Pos} (ha : SE X c a fa) : SE X c (.Subscript a (.Slice none none (some (.UnaryOp .USub (.Constant (.int 1) k p1) p2)) p3) pos) (eRev fa) := (pe_revL ha).imp fun σ H Q q => by
  obtain ⟨m, g, r, g', A, e, k⟩ := q
  unfold eRev at e
  obtain ⟨⟨r1, g1⟩, e1, e⟩ := Option.bind_eq_some_iff.mp e
  refine ⟨m, g, r1, g1, A, e1, fun v1 m1 H1 A1 S1 V1 N1 => ?_⟩
  split at e
  · cases e
    obtain ⟨p, vs, h1, h2, t1⟩ := vw_lst (VR.ld A1 V1 ‹_›)
    refine ⟨p, vs, h1, .of h2, fun q hq => ?_⟩
    obtain ⟨m3, A3, S3, V3, N3⟩ := res_ok (v := .ref q) A1 (Ext.new hq) (nw_new hq t1.rev)
    exact k _ m3 _ A3 (S1.trans S3) V3 (N3.back S1)
  · cases e
    obtain ⟨p, vs, h1, h2, t1⟩ := vw_sls (VR.ld A1 V1 ‹_›)
    refine ⟨p, vs, h1, h2, fun q hq => ?_⟩
    obtain ⟨m3, A3, S3, V3, N3⟩ := res_ok (v := .ref q) A1 (Ext.new hq) (nw_new hq t1.rev)
    exact k _ m3 _ A3 (S1.trans S3) V3 (N3.back S1)
  · cases e

/-! ## built-in functions and types, called -/
def Vws (K : PySem.W.Frag) (mg : Str → Option Value) (m : List Addr) (H : Hp) : List V → List D → Prop
  | [], [] => True
  | v :: vs, d :: ds => Vw K mg m H v d ∧ Vws K mg m H vs ds
  | _, _ => False
def lds (g : G) : List R → Option (List D)
  | [] => some []
  | r :: rs => (ld g r).bind fun d => (lds g rs).bind fun ds => some (d :: ds)
theorem VRs.lds {K : PySem.W.Frag} {mg : Str → Option Value} {m : List Addr} {g : G} {σ : St} {H : Hp} (A : Abs K mg c m g σ H) : ∀ {vs : List V} {rs : List R} {ds : List D}, VRs K mg c m g σ H vs rs → lds g rs = some ds → Vws K mg m H vs ds
  | [], [], _, _, e => by cases e; trivial
  | v :: vs, r :: rs, _, h, e => by
    unfold Sm.lds at e
    obtain ⟨d, e1, e⟩ := Option.bind_eq_some_iff.mp e
    obtain ⟨ds, e2, e⟩ := Option.bind_eq_some_iff.mp e
    cases e
    exact ⟨VR.ld A h.1 e1, VRs.lds A h.2 e2⟩
  | [], _ :: _, _, h, _ => h.elim
  | _ :: _, [], _, h, _ => h.elim
def CallS (X : Cx) (f : Value) (h : List D → Option R) : Prop :=
  ∃ r : List V → Hp → VK → Prop, CallR X f r ∧ ∀ (m : List Addr) (H : Hp) (vs : List V) (ds : List D) (res : R) (Q : VK), (∀ a ∈ m, H a ≠ none) → Vws X.K X.mg m H vs ds → h ds = some res →
    (∀ u H', Ext H H' → ResV X.K X.mg m H H' u res → Q u H') → r vs H Q
def eCB (h : List D → Option R) (fs : G → Option (List R × G)) : G → Option (R × G) := fun g => (fs g).bind fun p => (lds p.2 p.1).bind fun ds => (h ds).bind fun r => some (r, p.2)
theorem cb_ok {h : List D → Option R} {r : List V → Hp → VK → Prop} {σ : St} {H : Hp} {Q : VK} (hr : ∀ (m : List Addr) (H : Hp) (vs : List V) (ds : List D) (res : R) (Q : VK), (∀ a ∈ m, H a ≠ none) → Vws X.K X.mg m H vs ds → h ds = some res →
    (∀ u H', Ext H H' → ResV X.K X.mg m H H' u res → Q u H') → r vs H Q) (q : tE X.K X.mg c (eCB h fs) σ H Q) : tCB r (tA X.K X.mg c fs) σ H Q := by
  obtain ⟨m, g, r, g', A, e, k⟩ := q
  unfold eCB at e
  obtain ⟨⟨rs, g1⟩, e1, e⟩ := Option.bind_eq_some_iff.mp e
  obtain ⟨ds, e2, e⟩ := Option.bind_eq_some_iff.mp e
  obtain ⟨r', e3, e⟩ := Option.bind_eq_some_iff.mp e
  cases e
  refine ⟨m, g, rs, g1, A, e1, fun vs m1 H1 A1 S1 V1 N1 => hr m1 H1 vs ds _ Q A1.trk (V1.lds A1 e2) e3 fun u H2 x hv => ?_⟩
  obtain ⟨m2, A2, S2, V2, N2⟩ := res_ok A1 x hv
  exact k u m2 H2 A2 (S1.trans S2) V2 (N2.back S1)
theorem se_cb {h : List D → Option R} {id : String} {x : Str} {p : Pos} (ho : CallS X (.builtin id) h) (hg : Gl X x) (hm : X.mg x = none) (hv : bootBuiltins x = some (.builtin id)) (ha : SA X c (e :: es) fs) (hn : x ≠ "__name__" := by decide) (hdb : (x == ("__debug__" : Str)) = false := by decide)
    (he : starEach (e :: es) X.env = (false, eval e X.env) :: starEach es X.env := by rfl) (hpl : (backTo pos (starEach es X.env)).any (·.1) = false := by rfl) : SE X c (.Call (.Name x p) (e :: es) [] pos) (eCB h fs) := by
  obtain ⟨r, h1, h2⟩ := ho
  exact (pe_callB h1 hg hm hv ha hn hdb he hpl).imp fun σ H Q => cb_ok h2
theorem se_cty {h : List D → Option R} {T : String} {x : Str} {p : Pos} (ho : CallS X (.type T) h) (hg : Gl X x) (hm : X.mg x = none) (hv : bootBuiltins x = some (.type T)) (ha : SA X c (e :: es) fs) (hn : x ≠ "__name__" := by decide) (hdb : (x == ("__debug__" : Str)) = false := by decide)
    (he : starEach (e :: es) X.env = (false, eval e X.env) :: starEach es X.env := by rfl) (hpl : (backTo pos (starEach es X.env)).any (·.1) = false := by rfl) : SE X c (.Call (.Name x p) (e :: es) [] pos) (eCB h fs) := by
  obtain ⟨r, h1, h2⟩ := ho
  exact (pe_callTy h1 hg hm hv ha hn hdb he hpl).imp fun σ H Q => cb_ok h2
theorem vws1 {K : PySem.W.Frag} {mg : Str → Option Value} {m : List Addr} {H : Hp} {vs : List V} {d : D} (h : Vws K mg m H vs [d]) : ∃ v, vs = [v] ∧ Vw K mg m H v d := by
  match vs, h with
  | [v], h => exact ⟨v, rfl, h.1⟩
theorem vws2 {K : PySem.W.Frag} {mg : Str → Option Value} {m : List Addr} {H : Hp} {vs : List V} {d e : D} (h : Vws K mg m H vs [d, e]) : ∃ v w, vs = [v, w] ∧ Vw K mg m H v d ∧ Vw K mg m H w e := by
  match vs, h with
  | [v, w], h => exact ⟨v, w, rfl, h.1, h.2.1⟩
def lenD : List D → Option R
  | [.lst l] => some (.d (.int (l.length : Int)))
  | [.sls l] => some (.d (.int (l.length : Int)))
  | [.tup l] => some (.d (.int (l.length : Int)))
  | [.str s] => if s.length ≤ sizeLine then some (.d (.int (s.length : Int))) else none
  | _ => none
theorem c_len : CallS X (.builtin "len") lenD := by
  refine ⟨_, call_len_seq.or call_len_str, fun m H vs ds res Q ht hv hr k => ?_⟩
  unfold lenD at hr
  split at hr
  · cases hr
    obtain ⟨v, rfl, hx⟩ := vws1 hv
    obtain ⟨p, vs, e1, h1, t1⟩ := vw_lst hx
    exact .inl ⟨p, vs, by rw [e1], .inl (.of h1), by rw [t1.length]; exact k _ _ (Ext.refl H) (.int _)⟩
  · cases hr
    obtain ⟨v, rfl, hx⟩ := vws1 hv
    obtain ⟨p, vs, e1, h1, t1⟩ := vw_sls hx
    exact .inl ⟨p, vs, by rw [e1], .inl h1, by rw [t1.length]; exact k _ _ (Ext.refl H) (.int _)⟩
  · cases hr
    obtain ⟨v, rfl, hx⟩ := vws1 hv
    obtain ⟨p, vs, e1, h1, t1⟩ := vw_tup hx
    exact .inl ⟨p, vs, by rw [e1], .inr h1, by rw [t1.length]; exact k _ _ (Ext.refl H) (.int _)⟩
  · split at hr
    · cases hr
      obtain ⟨v, rfl, hx⟩ := vws1 hv
      exact .inr ⟨_, by rw [vw_str hx], ‹_›, k _ _ (Ext.refl H) (.int _)⟩
    · cases hr
  · cases hr
def absD : List D → Option R
  | [.int i] => some (.d (.int (if i < 0 then -i else i)))
  | _ => none
theorem c_abs : CallS X (.builtin "abs") absD := by
  refine ⟨_, call_abs, fun m H vs ds res Q ht hv hr k => ?_⟩
  unfold absD at hr
  split at hr
  · cases hr
    obtain ⟨v, rfl, hx⟩ := vws1 hv
    exact ⟨_, by rw [vw_int hx], k _ _ (Ext.refl H) (.int _)⟩
  · cases hr
def maxD : List D → Option R
  | [.int i, .int j] => some (.d (.int (if j > i then j else i)))
  | _ => none
theorem c_max (hc : X.calm = true := by rfl) : CallS X (.builtin "max") maxD := by
  refine ⟨_, call_max2 hc, fun m H vs ds res Q ht hv hr k => ?_⟩
  unfold maxD at hr
  split at hr
  · cases hr
    obtain ⟨v, w, rfl, hx, hw⟩ := vws2 hv
    exact ⟨_, _, by rw [vw_int hx, vw_int hw], k _ _ (Ext.refl H) (.int _)⟩
  · cases hr
def minD : List D → Option R
  | [.int i, .int j] => some (.d (.int (if j < i then j else i)))
  | _ => none
theorem c_min (hc : X.calm = true := by rfl) : CallS X (.builtin "min") minD := by
  refine ⟨_, call_min2 hc, fun m H vs ds res Q ht hv hr k => ?_⟩
  unfold minD at hr
  split at hr
  · cases hr
    obtain ⟨v, w, rfl, hx, hw⟩ := vws2 hv
    exact ⟨_, _, by rw [vw_int hx, vw_int hw], k _ _ (Ext.refl H) (.int _)⟩
  · cases hr
def intD : List D → Option R
  | [.int i] => some (.d (.int i))
  | [.bl b] => some (.d (.int (if b then 1 else 0)))
  | [.str s] => if s.length ≤ 640 then (PySem.intText? s).map fun n => .d (.int n) else none
  | _ => none
theorem c_int : CallS X (.type "int") intD := by
  refine ⟨_, call_int1.or call_int_str, fun m H vs ds res Q ht hv hr k => ?_⟩
  unfold intD at hr
  split at hr
  · cases hr
    obtain ⟨v, rfl, hx⟩ := vws1 hv
    exact .inl (.inl ⟨_, by rw [vw_int hx], k _ _ (Ext.refl H) (.int _)⟩)
  · cases hr
    obtain ⟨v, rfl, hx⟩ := vws1 hv
    exact .inl (.inr ⟨_, by rw [vw_bl hx], k _ _ (Ext.refl H) (.int _)⟩)
  · split at hr
    · obtain ⟨n, h1, h2⟩ := Option.map_eq_some_iff.mp hr
      subst h2
      obtain ⟨v, rfl, hx⟩ := vws1 hv
      exact .inr ⟨_, n, by rw [vw_str hx], h1, ‹_›, k _ _ (Ext.refl H) (.int _)⟩
    · cases hr
  · cases hr
def listD : List D → Option R
  | [.lst l] => some (.nw l)
  | [.sls l] => some (.nw l)
  | [.tup l] => some (.nw l)
  | _ => none
theorem c_list : CallS X (.type "list") listD := by
  refine ⟨_, call_list_of, fun m H vs ds res Q ht hv hr k => ?_⟩
  unfold listD at hr
  split at hr
  · cases hr
    obtain ⟨v, rfl, hx⟩ := vws1 hv
    obtain ⟨p, vs, e1, h1, t1⟩ := vw_lst hx
    exact ⟨p, vs, by rw [e1], .inl (.of h1), fun l hl => k _ _ (Ext.new hl) (nw_new hl t1)⟩
  · cases hr
    obtain ⟨v, rfl, hx⟩ := vws1 hv
    obtain ⟨p, vs, e1, h1, t1⟩ := vw_sls hx
    exact ⟨p, vs, by rw [e1], .inl h1, fun l hl => k _ _ (Ext.new hl) (nw_new hl t1)⟩
  · cases hr
    obtain ⟨v, rfl, hx⟩ := vws1 hv
    obtain ⟨p, vs, e1, h1, t1⟩ := vw_tup hx
    exact ⟨p, vs, by rw [e1], .inr h1, fun l hl => k _ _ (Ext.new hl) (nw_new hl t1)⟩
  · cases hr
def strsD : List D → Option (List Str)
  | [] => some []
  | .str i :: l => (strsD l).map (i :: ·)
  | _ => none
theorem strs_vw {K : PySem.W.Frag} {mg : Str → Option Value} {m : List Addr} {H : Hp} : ∀ {vs : List V} {l : List D} {ns : List Str}, FzL K mg m H vs l → strsD l = some ns → vs = ns.map V.str
  | _, _, _, .nil, e => by cases e; rfl
  | _, .str i :: l, _, .cons h t, e => by
    unfold strsD at e
    obtain ⟨ms, e1, e2⟩ := Option.map_eq_some_iff.mp e
    subst e2
    cases h
    rw [strs_vw t e1]; rfl
  | _, .non :: _, _, .cons _ _, e => by cases e
  | _, .bl _ :: _, _, .cons _ _, e => by cases e
  | _, .int _ :: _, _, .cons _ _, e => by cases e
  | _, .tup _ :: _, _, .cons _ _, e => by cases e
  | _, .lst _ :: _, _, .cons _ _, e => by cases e
  | _, .sls _ :: _, _, .cons _ _, e => by cases e
  | _, .ins _ _ :: _, _, .cons _ _, e => by cases e
theorem fz_ints {K : PySem.W.Frag} {mg : Str → Option Value} {m : List Addr} {H : Hp} : ∀ ns : List Int, FzL K mg m H (ns.map V.int) (ns.map D.int)
  | [] => .nil
  | n :: ns => .cons (.int n) (fz_ints ns)
theorem fz_strs {K : PySem.W.Frag} {mg : Str → Option Value} {m : List Addr} {H : Hp} : ∀ ns : List Str, FzL K mg m H (ns.map V.str) (ns.map D.str)
  | [] => .nil
  | n :: ns => .cons (.str n) (fz_strs ns)
def strD : List D → Option R
  | [.int i] => if i.natAbs.log2 < 1920 then some (.d (.str (toString i))) else none
  | [.str s] => some (.d (.str s))
  | _ => none
end
end Sm

namespace Sm
open PySem L2

/-! ## a list owned by a slot, changed -/
section
variable {K : PySem.W.Frag} {mg : Str → Option Value} {c : C0} {m m1 m2 : List Addr} {g g1 g2 : G} {σ σ1 σ2 : St} {H H1 H2 : Hp} {v : V} {r : R} {d : D}
theorem Fz.updM {p : Addr} {o : HO} (hp : p ∈ m) (h : Fz K mg m H v d) : Fz K mg m (upd H p o) v d := h.map fun a u n e => ⟨n, by
  rw [upd_ne (fun z : a = p => n (by rw [z]; exact hp))]; exact e⟩
theorem FzL.updM {p : Addr} {o : HO} {vs : List V} {ds : List D} (hp : p ∈ m) (h : FzL K mg m H vs ds) : FzL K mg m (upd H p o) vs ds := h.map fun a u n e => ⟨n, by
  rw [upd_ne (fun z : a = p => n (by rw [z]; exact hp))]; exact e⟩
theorem Abs.put {i : Nat} {b : Bool} {l l' : List D} {p : Addr} {ws : List V} (A : Abs K mg c m g σ H) (hg : g[i]? = some (.ol b l)) (hσ : σ[i]? = some (some (.ref p))) (hw : FzL K mg m H ws l') :
    Abs K mg c m (g.set i (.ol b l')) σ (upd H p (.lst ws)) ∧ Stp m g σ H m (g.set i (.ol b l')) σ (upd H p (.lst ws)) := by
  have op : Own g σ p := ⟨i, _, hg, hσ⟩
  have pm : p ∈ m := A.own_mem op
  have hi := lt_of_get hg
  obtain ⟨q0, _, e0, _, _, _, hb⟩ := A.ol i b l hg
  rw [hσ] at e0; cases e0
  have back : ∀ {n : Nat} {s : Slot} {a : Addr}, (g.set i (.ol b l'))[n]? = some s → SOwn s σ[n]? a → ∃ t, g[n]? = some t ∧ SOwn t σ[n]? a := fun {n s a} h e => by
    rcases get_set h with ⟨rfl, z⟩ | ⟨_, h⟩
    · cases z; exact ⟨_, hg, e⟩
    · exact ⟨s, h, e⟩
  refine ⟨⟨by rw [List.length_set]; exact A.len, fun j d h => ?_, fun j b' l2 h => ?_, fun j k s t q h h' e e' => ?_, fun a h => ?_, fun a o n n' h => ?_, A.sub, fun j q h => ?_, fun j v h => (get_set h).elim (fun z => by cases z.2) fun z => A.pin j v z.2, fun j b' k cs h => ?_, A.pqs, fun j x h => (get_set h).elim (fun z => by cases z.2) fun z => by
    obtain ⟨h1, h2, v, h3, h4⟩ := A.xs j x z.2
    exact ⟨h1, h2, v, by rw [upd_ne (fun w => h2 (by rw [w]; exact pm))]; exact h3, h4.updM pm⟩⟩, ⟨fun _ z => .inl z, fun a o n e => ?_, fun _ z _ => .inl z, fun a z => .inl ?_, fun a z => ?_⟩⟩
  · rcases get_set h with ⟨_, e⟩ | ⟨_, h⟩
    · cases e
    · obtain ⟨v, h1, h2⟩ := A.fz j d h
      exact ⟨v, h1, h2.updM pm⟩
  · rcases get_set h with ⟨rfl, e⟩ | ⟨ne, h⟩
    · cases e
      exact ⟨p, ws, hσ, pm, upd_same, hw.updM pm, hb⟩
    · obtain ⟨q, vs, h1, h2, h3, h4, h5⟩ := A.ol j b' l2 h
      have hq : q ≠ p := fun z => ne (A.ne i j _ _ _ _ p hg h hσ (z ▸ h1))
      exact ⟨q, vs, h1, h2, by rw [upd_ne hq]; exact h3, h4.updM pm, h5⟩
  · obtain ⟨_, z1, z2⟩ := back h e
    obtain ⟨_, z3, z4⟩ := back h' e'
    exact A.nn j k _ _ q z1 z3 z2 z4
  · by_cases e : a = p
    · subst e; rw [upd_same]; exact fun z => nomatch z
    · rw [upd_ne e]; exact A.trk a h
  · have ne : a ≠ p := fun z => by
      subst z
      cases b with
      | true => exact n i hb.1
      | false => rw [show c.H0 a = none from hb] at h; cases h
    rw [upd_ne ne]
    exact A.keep a o n n' h
  · obtain ⟨h1, h2⟩ := A.pas j q h
    refine ⟨h1, ?_⟩
    by_cases e : i = j
    · subst e
      rw [hg] at h2
      rcases h2 with ⟨_, h2⟩ | ⟨_, _, h2⟩
      · cases h2
        exact .inl ⟨l', List.getElem?_set_self hi⟩
      · cases h2
    · rw [List.getElem?_set_ne e]; exact h2
  · rcases get_set h with ⟨_, e⟩ | ⟨ne, h⟩
    · cases e
    · obtain ⟨q, o, vs, h1, h2, h3, h4, h5, h6, h7⟩ := A.ob j b' k cs h
      have hq : q ≠ p := fun z => ne (A.nn i j _ _ p hg h hσ (.inl (z ▸ h1)))
      refine ⟨q, o, vs, h1, h2, by rw [upd_ne hq]; exact h3, h4, h5.map (fun a u n e => ⟨n, by rw [upd_ne (fun z : a = p => n (by rw [z]; exact pm))]; exact e⟩) fun a z => ⟨(h5.mem a z).1, ?_⟩, h6, h7⟩
      rw [upd_ne fun w : a = p => ne (A.nn i j _ _ p hg h hσ (.inr (w ▸ z)))]
  · rw [upd_ne (fun z : a = p => n (by rw [z]; exact op))]; exact e
  · obtain ⟨j, s, h1, h2⟩ := z
    obtain ⟨t, h3, h4⟩ := back h1 h2
    exact ⟨j, t, h3, h4⟩
  · by_cases e : a = p
    · subst e; rw [upd_same]; exact fun w => nomatch w
    · rw [upd_ne e]; exact z
/-! ## a value stored in a slot -/
def notT (g : G) (i : Nat) : Bool := match g[i]? with
  | some (.ol true _) => false
  | some (.ob true _ _) => false
  | some _ => true
  | none => false
theorem notT_lt {i : Nat} (h : notT g i = true) : i < g.length ∧ (∀ l, g[i]? ≠ some (.ol true l)) ∧ ∀ k cs, g[i]? ≠ some (.ob true k cs) := by
  unfold notT at h
  cases e : g[i]? with
  | none => rw [e] at h; cases h
  | some s =>
    refine ⟨lt_of_get e, fun l q => ?_, fun k cs q => ?_⟩
    · cases q
      rw [e] at h; cases h
    · cases q
      rw [e] at h; cases h
/-- the parameters stay, whatever the slot i becomes -/
theorem Abs.pas_set {i : Nat} {s : Slot} (A : Abs K mg c m g σ H) (h1 : ∀ l, g[i]? ≠ some (.ol true l)) (h2 : ∀ k cs, g[i]? ≠ some (.ob true k cs)) (j : Nat) (p : Addr) (e : c.pa j = some p) : p ∈ c.m0 ∧ ((∃ l, (g.set i s)[j]? = some (.ol true l)) ∨ ∃ k cs, (g.set i s)[j]? = some (.ob true k cs)) := by
  obtain ⟨h3, h4⟩ := A.pas j p e
  refine ⟨h3, ?_⟩
  have ne : i ≠ j := fun z => by
    subst z
    rcases h4 with ⟨l, h4⟩ | ⟨k, cs, h4⟩
    · exact h1 l h4
    · exact h2 k cs h4
  rw [List.getElem?_set_ne ne]
  exact h4
theorem own_set {i : Nat} {s : D} {w : Option V} {a : Addr} (h : Own (g.set i (.fz s)) (σ.set i w) a) : Own g σ a := by
  obtain ⟨j, t, h1, h2⟩ := h
  rcases get_set h1 with ⟨_, e⟩ | ⟨ne, e⟩
  · cases e; exact h2.elim
  · rw [List.getElem?_set_ne ne] at h2
    exact ⟨j, t, e, h2⟩
theorem Abs.sto {i : Nat} (A : Abs K mg c m g σ H) (hn : notT g i = true) (h : Fz K mg m H v d) : Abs K mg c m (g.set i (.fz d)) (σ.set i (some v)) H ∧ Stp m g σ H m (g.set i (.fz d)) (σ.set i (some v)) H := by
  obtain ⟨hi, hn, hn'⟩ := notT_lt hn
  refine ⟨⟨by rw [List.length_set, List.length_set]; exact A.len, fun j x e => ?_, fun j b l e => ?_, fun j k s t p e e' z z' => ?_, A.trk, A.keep, A.sub, A.pas_set hn hn', fun j v h => (get_set h).elim (fun z => by cases z.2) fun z => by rw [List.getElem?_set_ne z.1]; exact A.pin j v z.2, fun j b k cs e => ?_, A.pqs, fun j x h => (get_set h).elim (fun z => by cases z.2) fun z => by rw [List.getElem?_set_ne z.1]; exact A.xs j x z.2⟩, ⟨fun _ z => .inl z, fun _ _ _ z => z, fun _ z _ => .inl z, fun a z => .inl (own_set z), fun _ z => z⟩⟩
  · rcases get_set e with ⟨rfl, q⟩ | ⟨ne, q⟩
    · cases q
      exact ⟨v, List.getElem?_set_self (by rw [← A.len]; exact hi), h⟩
    · rw [List.getElem?_set_ne ne]
      exact A.fz j x q
  · rcases get_set e with ⟨rfl, q⟩ | ⟨ne, q⟩
    · cases q
    · rw [List.getElem?_set_ne ne]
      exact A.ol j b l q
  · rcases get_set e with ⟨rfl, w⟩ | ⟨ne, w⟩
    · cases w; exact z.elim
    · rcases get_set e' with ⟨rfl, w'⟩ | ⟨ne', w'⟩
      · cases w'; exact z'.elim
      · rw [List.getElem?_set_ne ne] at z
        rw [List.getElem?_set_ne ne'] at z'
        exact A.nn j k _ _ p w w' z z'
  · rcases get_set e with ⟨rfl, q⟩ | ⟨ne, q⟩
    · cases q
    · rw [List.getElem?_set_ne ne]
      exact A.ob j b k cs q
theorem Abs.stoN {i : Nat} {p : Addr} {vs : List V} {l : List D} (S : Stp m g σ H m1 g1 σ H1) (A : Abs K mg c m1 g1 σ H1) (hn : notT g1 i = true) (hm : p ∈ m1) (hp : H1 p = some (.lst vs)) (hv : FzL K mg m1 H1 vs l) (ho : ¬ Own g1 σ p) (h0 : c.H0 p = none) (hf : H p = none) :
    Abs K mg c m1 (g1.set i (.ol false l)) (σ.set i (some (.ref p))) H1 ∧ Stp m g σ H m1 (g1.set i (.ol false l)) (σ.set i (some (.ref p))) H1 := by
  obtain ⟨hi, hn, hn'⟩ := notT_lt hn
  have hself : (σ.set i (some (.ref p)))[i]? = some (some (.ref p)) := List.getElem?_set_self (by rw [← A.len]; exact hi)
  refine ⟨⟨by rw [List.length_set, List.length_set]; exact A.len, fun j x e => ?_, fun j b l e => ?_, fun j k s t q e e' z z' => ?_, A.trk, A.keep, A.sub, A.pas_set hn hn', fun j v h => (get_set h).elim (fun z => by cases z.2) fun z => by rw [List.getElem?_set_ne z.1]; exact A.pin j v z.2, fun j b k cs e => ?_, A.pqs, fun j x h => (get_set h).elim (fun z => by cases z.2) fun z => by rw [List.getElem?_set_ne z.1]; exact A.xs j x z.2⟩, ⟨S.fr, S.kp, S.mo, fun a z => ?_, S.tk⟩⟩
  · rcases get_set e with ⟨rfl, q⟩ | ⟨ne, q⟩
    · cases q
    · rw [List.getElem?_set_ne ne]
      exact A.fz j x q
  · rcases get_set e with ⟨rfl, q⟩ | ⟨ne, q⟩
    · cases q
      exact ⟨p, vs, hself, hm, hp, hv, h0⟩
    · rw [List.getElem?_set_ne ne]
      exact A.ol j b l q
  · rcases get_set e with ⟨rfl, w⟩ | ⟨ne, w⟩
    · cases w
      rcases get_set e' with ⟨rfl, w'⟩ | ⟨ne', w'⟩
      · rfl
      · have z : (σ.set i (some (.ref p)))[i]? = some (some (.ref q)) := z
        rw [hself] at z
        cases z
        rw [List.getElem?_set_ne ne'] at z'
        exact absurd ⟨k, _, w', z'⟩ ho
    · rcases get_set e' with ⟨rfl, w'⟩ | ⟨ne', w'⟩
      · cases w'
        have z' : (σ.set i (some (.ref p)))[i]? = some (some (.ref q)) := z'
        rw [hself] at z'
        cases z'
        rw [List.getElem?_set_ne ne] at z
        exact absurd ⟨j, _, w, z⟩ ho
      · rw [List.getElem?_set_ne ne] at z
        rw [List.getElem?_set_ne ne'] at z'
        exact A.nn j k _ _ q w w' z z'
  · rcases get_set e with ⟨rfl, q⟩ | ⟨ne, q⟩
    · cases q
    · rw [List.getElem?_set_ne ne]
      exact A.ob j b k cs q
  · obtain ⟨j, s, h1, h2⟩ := z
    rcases get_set h1 with ⟨rfl, e⟩ | ⟨ne, e⟩
    · cases e
      have h2 : (σ.set i (some (.ref p)))[i]? = some (some (.ref a)) := h2
      rw [hself] at h2
      cases h2
      exact .inr hf
    · rw [List.getElem?_set_ne ne] at h2
      exact S.ow a ⟨j, s, e, h2⟩
/-- a result stored in slot i -/
def stS (i : Nat) (r : R) (g : G) : Option G := match r with
  | .nw l => if notT g i = true then some (g.set i (.ol false l)) else none
  | r => (frz g r).bind fun q => if notT q.2 i = true then some (q.2.set i (.fz q.1)) else none
theorem stS_ok {i : Nat} (S : Stp m g σ H m1 g1 σ H1) (A1 : Abs K mg c m1 g1 σ H1) (h : VR K mg c m1 g1 σ H1 v r) (n : Nw H v r) (e : stS i r g1 = some g2) :
    ∃ m2, Abs K mg c m2 g2 (σ.set i (some v)) H1 ∧ Stp m g σ H m2 g2 (σ.set i (some v)) H1 := by
  have gen : ∀ r, VR K mg c m1 g1 σ H1 v r → Nw H v r → ((frz g1 r).bind fun q => if notT q.2 i = true then some (q.2.set i (.fz q.1)) else none) = some g2 → ∃ m2, Abs K mg c m2 g2 (σ.set i (some v)) H1 ∧ Stp m g σ H m2 g2 (σ.set i (some v)) H1 := fun r h n e => by
    obtain ⟨⟨d, g3⟩, e1, e⟩ := Option.bind_eq_some_iff.mp e
    split at e
    · cases e
      obtain ⟨m2, A2, S2, F2, _⟩ := frz_ok S A1 h.w n e1
      obtain ⟨A3, S3⟩ := A2.sto ‹_› F2
      exact ⟨m2, A3, S2.trans S3⟩
    · cases e
  cases r with
  | d x => exact gen _ h n e
  | sl j => exact gen _ h n e
  | pq j q => exact gen _ h n e
  | nw l =>
    simp only [stS] at e
    split at e
    · cases e
      obtain ⟨p, vs, e, hm, hp, hv, ho, h0⟩ := h
      subst e
      obtain ⟨A2, S2⟩ := Abs.stoN S A1 ‹_› hm hp hv ho h0 (n l rfl p rfl)
      exact ⟨m1, A2, S2⟩
    · cases e
end

section
variable {X : Cx} {c : C0} {a b e cnd o : Expr} {es : List Expr} {pos : Pos} {fa fb fe fo : G → Option (R × G)} {ft fu : G → Option (Bool × G)} {st : Stmt} {rest sts sts' : List Stmt} {f f' : G → Option O} {fs : G → Option (List R × G)}

/-! ## methods of texts -/
def eM1 (h : Str → D → Option R) (fo fe : G → Option (R × G)) : G → Option (R × G) := fun g => (fo g).bind fun p => match p.1 with
  | .d (.str s) => (fe p.2).bind fun q => (ld q.2 q.1).bind fun y => (h s y).bind fun r => some (r, q.2)
  | _ => none
/-! ## methods of a list that a slot owns -/
theorem own_ty {K : PySem.W.Frag} {mg : Str → Option Value} {m : List Addr} {g : G} {σ : St} {H : Hp} {i : Nat} {b : Bool} {l : List D} (A : Abs K mg c m g σ H) (hg : g[i]? = some (.ol b l)) :
    ∃ p vs, σ[i]? = some (some (.ref p)) ∧ H p = some (.lst vs) ∧ FzL K mg m H vs l ∧ tyV K "list" (.ref p) H := by
  obtain ⟨p, vs, h1, h2, h3, h4, _⟩ := A.ol i b l hg
  exact ⟨p, vs, h1, h3, h4, .inl ⟨rfl, vs, .of h3⟩⟩
def eApp (i : Nat) (fe : G → Option (R × G)) : G → Option (R × G) := fun g => match g[i]? with
  | some (.ol _ _) => (fe g).bind fun p => (frz p.2 p.1).bind fun q => match q.2[i]? with
    | some (.ol b l) => if l.length ≤ 100000 then some (.d .non, q.2.set i (.ol b (l ++ [q.1]))) else none
    | _ => none
  | _ => none
theorem lt_size {n : Nat} (h : n ≤ 100000) : n < sizeLine := Nat.lt_of_le_of_lt h (by decide)
theorem se_append {i : Nat} {x : Str} {p apos : Pos} (ho : PE X (.Name x p) (tVar i)) (he : SE X c e fe)
    (hbase : attributeBase (.Name x p) "append" X.env (eval (.Name x p) X.env) = eval (.Name x p) X.env := by rfl)
    (hfew : ((backTo pos (starEach [e] X.env)).all (fun x => !x.1) && (backToKw pos (keywordEach [] X.env)).all (fun x => x.1.isSome)
      && decide (([e] : List Expr).length + ([] : List Keyword).length + (if ([] : List Keyword).isEmpty then 0 else 1) < 30)) = true := by rfl)
    (hline : (apos.endLine == pos.line) = true := by rfl) (hs : starEach [e] X.env = (false, eval e X.env) :: starEach [] X.env := by rfl) (hplain : (backTo pos (starEach [] X.env)).any (·.1) = false := by rfl) :
    SE X c (.Call (.Attribute (.Name x p) "append" apos) [e] [] pos) (eApp i fe) :=
  (pe_bm PySem.F.plainAttrs_list PySem.F.slot_list_append PySem.F.type_list_append mt_append ho (pa_cons he pa_nil hs) hbase hfew hline hs hplain).imp fun σ H Q q => by
    obtain ⟨m, g, r, g', A, e, k⟩ := q
    unfold eApp at e
    split at e
    · rename_i b0 l0 hg0
      obtain ⟨p0, vs0, h1, h2, h3, hty⟩ := own_ty A hg0
      obtain ⟨⟨r1, g1⟩, e1, e⟩ := Option.bind_eq_some_iff.mp e
      obtain ⟨⟨d, g2⟩, e2, e⟩ := Option.bind_eq_some_iff.mp e
      dsimp only at e
      split at e
      · rename_i b l hg
        split at e
        · cases e
          refine ⟨_, h1, hty, m, g, r1, g1, A, e1, fun v1 m1 H1 A1 S1 V1 N1 => ?_⟩
          obtain ⟨m2, A2, S2, F2, _⟩ := frz_ok S1 A1 V1.w N1 e2
          obtain ⟨p, vs, h4, h5, h6, _⟩ := own_ty A2 hg
          rw [h1] at h4; cases h4
          refine ⟨p0, vs, v1, rfl, rfl, h5, by rw [h6.length]; exact lt_size ‹_›, ?_⟩
          obtain ⟨A3, S3⟩ := A2.put hg h1 (h6.app (.one F2))
          exact k .non m2 _ A3 (S2.trans S3) .non fun _ z => nomatch z
        · cases e
      · cases e
    · cases e
def ePop (i : Nat) : G → Option (R × G) := fun g => match g[i]? with
  | some (.ol b l) => match l[l.length - 1]? with
    | some d => some (.d d, g.set i (.ol b l.dropLast))
    | none => none
  | _ => none
def ePopAt (i : Nat) (fe : G → Option (R × G)) : G → Option (R × G) := fun g => match g[i]? with
  | some (.ol _ _) => (fe g).bind fun p => match p.1, p.2[i]? with
    | .d (.int n), some (.ol b l) => if 0 ≤ n ∧ n < 100000 then match l[n.toNat]? with
      | some d => some (.d d, p.2.set i (.ol b (l.eraseIdx n.toNat)))
      | none => none else none
    | _, _ => none
  | _ => none
theorem seqIx {n : Int} {k : Nat} (h0 : 0 ≤ n) (h : n.toNat < k) : seqIndex? n k = some n.toNat := by
  unfold seqIndex?
  first
    | (simp only [] <;> split <;> first | rfl | omega | (split <;> first | rfl | omega))
    | (simp <;> omega)
theorem se_popAt {i : Nat} {x : Str} {p apos : Pos} (ho : PE X (.Name x p) (tVar i)) (he : SE X c e fe)
    (hbase : attributeBase (.Name x p) "pop" X.env (eval (.Name x p) X.env) = eval (.Name x p) X.env := by rfl)
    (hfew : ((backTo pos (starEach [e] X.env)).all (fun x => !x.1) && (backToKw pos (keywordEach [] X.env)).all (fun x => x.1.isSome)
      && decide (([e] : List Expr).length + ([] : List Keyword).length + (if ([] : List Keyword).isEmpty then 0 else 1) < 30)) = true := by rfl)
    (hline : (apos.endLine == pos.line) = true := by rfl) (hs : starEach [e] X.env = (false, eval e X.env) :: starEach [] X.env := by rfl) (hplain : (backTo pos (starEach [] X.env)).any (·.1) = false := by rfl) :
    SE X c (.Call (.Attribute (.Name x p) "pop" apos) [e] [] pos) (ePopAt i fe) :=
  (pe_bm PySem.F.plainAttrs_list PySem.F.slot_list_pop PySem.F.type_list_pop mt_popAt ho (pa_cons he pa_nil hs) hbase hfew hline hs hplain).imp fun σ H Q q => by
    obtain ⟨m, g, r, g', A, e, k⟩ := q
    unfold ePopAt at e
    split at e
    · rename_i b0 l0 hg0
      obtain ⟨p0, vs0, h1, h2, h3, hty⟩ := own_ty A hg0
      obtain ⟨⟨r1, g1⟩, e1, e⟩ := Option.bind_eq_some_iff.mp e
      dsimp only at e
      split at e
      · rename_i n b l hg
        split at e
        · rename_i hz
          split at e
          · rename_i d hd
            cases e
            refine ⟨_, h1, hty, m, g, _, g1, A, e1, fun v1 m1 H1 A1 S1 V1 N1 => ?_⟩
            have V1 : Fz X.K X.mg m1 H1 v1 (.int n) := V1
            cases V1
            obtain ⟨p, vs, h4, h5, h6, _⟩ := own_ty A1 hg
            rw [h1] at h4; cases h4
            obtain ⟨v, h7, h8⟩ := h6.get hd
            obtain ⟨A3, S3⟩ := A1.put hg h1 (h6.erase n.toNat)
            refine ⟨p0, vs, n, n.toNat, v, rfl, rfl, h5, by omega, by omega, seqIx hz.1 (lt_of_get h7), h7, ?_⟩
            exact k v m1 _ A3 (S1.trans S3) (h8.updM (A1.own_mem ⟨i, _, hg, h1⟩)) fun _ z => nomatch z
          · cases e
        · cases e
      · cases e
    · cases e
/-! ## statements -/
def sSeq (f f' : G → Option O) : G → Option O := fun g => (f g).bind fun o => match o with
  | .nx g' => f' g'
  | o => some o
def sNext : G → Option O := fun g => some (.nx g)
theorem ss_nil : SSs X c [] sNext := pss_nil.imp fun D σ H q => by
  obtain ⟨m, g, o, A, e, k⟩ := q
  cases e
  exact k m σ H A Stp.refl
theorem ss_one (h : SS X c st f) : SSs X c [st] f := pss_one h
theorem ss_cons (h : SS X c st f) (h' : SSs X c rest f') : SSs X c (st :: rest) (sSeq f f') := (pss_cons h h').imp fun D σ H q => by
  obtain ⟨m, g, o, A, e, k⟩ := q
  unfold sSeq at e
  obtain ⟨o1, e1, e⟩ := Option.bind_eq_some_iff.mp e
  refine ⟨m, g, o1, A, e1, ?_⟩
  cases o1 with
  | nx g1 =>
    refine fun m1 σ1 H1 A1 S1 => ⟨m1, g1, o, A1, e, ?_⟩
    cases o with
    | nx g2 => exact fun m2 σ2 H2 A2 S2 => k m2 σ2 H2 A2 (S1.trans S2)
    | bk g2 => exact fun m2 σ2 H2 A2 S2 => k m2 σ2 H2 A2 (S1.trans S2)
    | ct g2 => exact fun m2 σ2 H2 A2 S2 => k m2 σ2 H2 A2 (S1.trans S2)
    | xc C x g2 => exact fun cls d m2 σ2 H2 A2 S2 => k cls d m2 σ2 H2 A2 (S1.trans S2)
    | rt r g2 => exact k
  | bk g1 => cases e; exact k
  | ct g1 => cases e; exact k
  | xc C x g1 => cases e; exact k
  | rt r g1 => cases e; exact k
def sExpr (fe : G → Option (R × G)) : G → Option O := fun g => (fe g).bind fun p => some (.nx p.2)
theorem ss_expr (h : SE X c e fe) (hs : swapsWith e none pos.line X.env = pure false := by rfl) : SS X c (.Expr e pos) (sExpr fe) := (ps_expr h hs).imp fun D σ H q => by
  obtain ⟨m, g, o, A, e, k⟩ := q
  unfold sExpr at e
  obtain ⟨⟨r, g1⟩, e1, e⟩ := Option.bind_eq_some_iff.mp e
  cases e
  exact ⟨m, g, r, g1, A, e1, fun v m1 H1 A1 S1 _ _ => k m1 σ H1 A1 S1⟩
def sRet (fe : G → Option (R × G)) : G → Option O := fun g => (fe g).bind fun p => some (.rt p.1 p.2)
theorem ss_ret (h : SE X c e fe) : SS X c (.Return (some e) pos) (sRet fe) := (ps_ret h).imp fun D σ H q => by
  obtain ⟨m, g, o, A, e, k⟩ := q
  unfold sRet at e
  obtain ⟨⟨r, g1⟩, e1, e⟩ := Option.bind_eq_some_iff.mp e
  cases e
  exact ⟨m, g, r, g1, A, e1, fun v m1 H1 A1 S1 V1 _ => k v m1 σ H1 A1 V1⟩
def sRetN : G → Option O := fun g => some (.rt (.d .non) g)
def sCont : G → Option O := fun g => some (.ct g)
/-- a statement that is never reached -/
def sBad : G → Option O := fun _ => none
theorem ss_bad : SS X c st sBad := ps_never.imp fun D σ H q => by
  obtain ⟨m, g, o, A, e, k⟩ := q
  cases e
def sIf (ft : G → Option (Bool × G)) (f f' : G → Option O) : G → Option O := fun g => (ft g).bind fun p => if p.1 = true then f p.2 else f' p.2
theorem ss_if (hc : ST X c cnd ft) (h : SSs X c sts f) (h' : SSs X c sts' f') : SS X c (.If cnd sts sts' pos) (sIf ft f f') := (ps_if hc h h').imp fun D σ H q => by
  obtain ⟨m, g, o, A, e, k⟩ := q
  unfold sIf at e
  obtain ⟨⟨t, g1⟩, e1, e⟩ := Option.bind_eq_some_iff.mp e
  refine ⟨m, g, t, g1, A, e1, fun m1 H1 A1 S1 => ?_⟩
  have fin : Fin X.K X.mg c D m1 g1 σ H1 o := by
    cases o with
    | nx g2 => exact fun m2 σ2 H2 A2 S2 => k m2 σ2 H2 A2 (S1.trans S2)
    | bk g2 => exact fun m2 σ2 H2 A2 S2 => k m2 σ2 H2 A2 (S1.trans S2)
    | ct g2 => exact fun m2 σ2 H2 A2 S2 => k m2 σ2 H2 A2 (S1.trans S2)
    | xc C x g2 => exact fun cls d m2 σ2 H2 A2 S2 => k cls d m2 σ2 H2 A2 (S1.trans S2)
    | rt r g2 => exact k
  cases t with
  | true => exact iteT ⟨m1, g1, o, A1, e, fin⟩
  | false => exact iteF ⟨m1, g1, o, A1, e, fin⟩
def sAsg (i : Nat) (fe : G → Option (R × G)) : G → Option O := fun g => (fe g).bind fun p => (stS i p.1 p.2).bind fun g' => some (.nx g')
theorem ss_asgG {i : Nat} {te : TE} (h : PS X st (tAsg te (gName i))) (he : ∀ σ H Q, tE X.K X.mg c fe σ H Q → te σ H Q) : SS X c st (sAsg i fe) := h.imp fun D σ H q => by
  obtain ⟨m, g, o, A, e, k⟩ := q
  unfold sAsg at e
  obtain ⟨⟨r, g1⟩, e1, e⟩ := Option.bind_eq_some_iff.mp e
  obtain ⟨g2, e2, e⟩ := Option.bind_eq_some_iff.mp e
  cases e
  refine he _ _ _ ⟨m, g, r, g1, A, e1, fun v m1 H1 A1 S1 V1 N1 => ?_⟩
  obtain ⟨m2, A2, S2⟩ := stS_ok S1 A1 V1 N1 e2
  exact k m2 _ H1 A2 S2
theorem ss_set {i : Nat} {x : Str} {pos' : Pos} (hN : X.N.Nodup) (hi : X.N[i]? = some x) (hx : Loc X.env.scope x) (he : SE X c e fe) (hs : swapsWith e (some (.Name x pos')) pos.line X.env = pure false := by rfl) (hf : X.fn x = true ∨ X.env.scope.names.lookup x = some .local := by first | exact .inl rfl | exact .inr rfl | assumption) :
    SS X c (.Assign [.Name x pos'] e pos) (sAsg i fe) := ss_asgG (ps_set hN hi hx he hs hf) fun _ _ _ q => q
/-- two names at once -/
def sPar (i j : Nat) (fs : G → Option (List R × G)) : G → Option O := fun g => (fs g).bind fun p => match p.1 with
  | [r1, r2] => (frz p.2 r1).bind fun q1 => (frz q1.2 r2).bind fun q2 => if notT q2.2 i = true ∧ notT q2.2 j = true then some (.nx ((q2.2.set i (.fz q1.1)).set j (.fz q2.1))) else none
  | _ => none
theorem notT_set {g : G} {i j : Nat} {d : D} (h : notT g j = true) : notT (g.set i (.fz d)) j = true := by
  obtain ⟨h1, h2⟩ := notT_lt h
  unfold notT
  by_cases e : i = j
  · subst e
    rw [List.getElem?_set_self h1]
  · rw [List.getElem?_set_ne e]
    exact h
theorem ss_par {i j : Nat} {x y : Str} {px py pt : Pos} {kt k2 pt2} (hc : X.calm = true) (hN : X.N.Nodup) (hi : X.N[i]? = some x) (hj : X.N[j]? = some y) (hij : i ≠ j)
    (hx : X.env.scope.names.lookup x = some .local) (hy : X.env.scope.names.lookup y = some .local) (ha : SA X c [a, b] fs)
    (hw : swappedStores [.Tuple [.Name x px, .Name y py] kt pt] (.Tuple [a, b] k2 pt2) X.env = pure (some [x, y]))
    (hs : swapsWithSole [.Tuple [.Name x px, .Name y py] kt pt] (.Tuple [a, b] k2 pt2) pos.line X.env = pure false := by rfl) :
    SS X c (.Assign [.Tuple [.Name x px, .Name y py] kt pt] (.Tuple [a, b] k2 pt2) pos) (sPar i j fs) := (ps_par hc hN hi hj hij hx hy ha hw hs).imp fun D σ H q => by
  obtain ⟨m, g, o, A, e, k⟩ := q
  unfold sPar at e
  obtain ⟨⟨rs, g1⟩, e1, e⟩ := Option.bind_eq_some_iff.mp e
  refine ⟨m, g, rs, g1, A, e1, fun vs m1 H1 A1 S1 V1 N1 => ?_⟩
  dsimp only at e
  split at e
  · rename_i r1 r2
    obtain ⟨⟨d1, g2⟩, e2, e⟩ := Option.bind_eq_some_iff.mp e
    obtain ⟨⟨d2, g3⟩, e3, e⟩ := Option.bind_eq_some_iff.mp e
    split at e
    · rename_i hn
      cases e
      match vs, V1, N1 with
      | [v, w], V1, N1 =>
        refine ⟨v, w, rfl, ?_⟩
        obtain ⟨m3, A3, S3, F3, _⟩ := frzs_ok (rs := [r1, r2]) (ds := [d1, d2]) (g2 := g3) S1 A1 V1.w N1 (by simp only [frzs, e2, e3, Option.bind_some])
        cases F3 with
        | cons F3 F4 =>
          cases F4 with
          | cons F4 _ =>
            obtain ⟨A4, S4⟩ := A3.sto hn.1 F3
            obtain ⟨A5, S5⟩ := A4.sto (i := j) (notT_set hn.2) F4
            exact k m3 _ H1 A5 ((S3.trans S4).trans S5)
    · cases e
  · cases e
/-- x op= e -/
def sAug (i : Nat) (h : D → D → Option R) (fe : G → Option (R × G)) : G → Option O := fun g => match g[i]? with
  | some (.fz (.int n)) => (fe g).bind fun p => (ld p.2 p.1).bind fun d => match h (.int n) d with
    | some (.d x) => if notT p.2 i = true then some (.nx (p.2.set i (.fz x))) else none
    | _ => none
  | _ => none
def IpS (X : Cx) (op : Operator) (h : D → D → Option R) : Prop :=
  ∃ t : TIp, PIp X op t ∧ ∀ (m : List Addr) (H : Hp) (n : Int) (w : V) (e x : D) (Q : VK), Vw X.K X.mg m H w e → h (.int n) e = some (.d x) → (∀ u, Fz X.K X.mg m H u x → Q u H) → t (.int n) w H Q
theorem ss_aug {i : Nat} {x : Str} {op : Operator} {h : D → D → Option R} {pos' : Pos} (ho : IpS X op h) (hN : X.N.Nodup) (hi : X.N[i]? = some x) (hx : Loc X.env.scope x) (he : SE X c e fe) (hf : X.fn x = true ∨ X.env.scope.names.lookup x = some .local := by first | exact .inl rfl | exact .inr rfl | assumption) :
    SS X c (.AugAssign (.Name x pos') op e pos) (sAug i h fe) := by
  obtain ⟨t, h1, h2⟩ := ho
  refine (ps_aug hN hi hx he h1 hf).imp fun D σ H q => ?_
  obtain ⟨m, g, o, A, e, k⟩ := q
  unfold sAug at e
  split at e
  · rename_i n hg
    obtain ⟨⟨r, g1⟩, e1, e⟩ := Option.bind_eq_some_iff.mp e
    obtain ⟨d, e2, e⟩ := Option.bind_eq_some_iff.mp e
    split at e
    · rename_i y hy
      split at e
      · cases e
        obtain ⟨v, h3, h4⟩ := A.fz i _ hg
        cases h4
        refine ⟨_, h3, m, g, r, g1, A, e1, fun w m1 H1 A1 S1 V1 N1 => ?_⟩
        refine h2 m1 H1 n w d y _ (VR.ld A1 V1 e2) hy fun u hu => ?_
        obtain ⟨A2, S2⟩ := A1.sto ‹_› hu
        exact k m1 _ H1 A2 (S1.trans S2)
      · cases e
    · cases e
  · cases e
theorem ip_addS : IpS X .Add addD := ⟨_, ip_add, fun m H n w e x Q hw hr k => by
  unfold addD at hr
  split at hr
  · rename_i i j hi
    cases hi
    cases hr
    exact ⟨n, _, rfl, vw_int hw, k _ (.int _)⟩
  · rename_i hi; cases hi
  · rename_i hi; cases hi
  · rename_i hi; cases hi
  · cases hr⟩
/-- x[i] = e, x a list that a slot owns -/
def sSetIx (i : Nat) (fi fe : G → Option (R × G)) : G → Option O := fun g => (fe g).bind fun p => (frz p.2 p.1).bind fun q => match q.2[i]? with
  | some (.ol _ _) => (fi q.2).bind fun s => match s.1, s.2[i]? with
    | .d (.int n), some (.ol b l) => match ixN l.length n with
      | some j => some (.nx (s.2.set i (.ol b (l.set j q.1))))
      | none => none
    | _, _ => none
  | _ => none
theorem ss_setIx {i : Nat} {x : Str} {p p' : Pos} {ix : Expr} {fi : G → Option (R × G)} (ho : PE X (.Name x p) (tVar i)) (hi : SE X c ix fi) (he : SE X c e fe)
    (ha : ∀ v, assign (.Subscript (.Name x p) ix p') X.env v = (do
      let ov ← holding [v] (eval (.Name x p) X.env)
      let iv ← holding [v, ov] (eval ix X.env)
      standAt p'
      holding [v, ov, iv] (setItem ov iv v)
      release [v, ov, iv] []) := by intro _; rfl) (hs : swapsWithSole [.Subscript (.Name x p) ix p'] e pos.line X.env = pure false := by rfl) (hw : swappedStores [.Subscript (.Name x p) ix p'] e X.env = pure none := by rfl)
    (h1 : (assignEach [.Subscript (.Name x p) ix p'] X.env).map (·.2) = [assign (.Subscript (.Name x p) ix p') X.env] := by rfl) :
    SS X c (.Assign [.Subscript (.Name x p) ix p'] e pos) (sSetIx i fi fe) := (ps_asg he (pg_sub ho hi set_list ha) hs hw h1).imp fun D σ H q => by
  obtain ⟨m, g, o, A, e, k⟩ := q
  unfold sSetIx at e
  obtain ⟨⟨r1, g1⟩, e1, e⟩ := Option.bind_eq_some_iff.mp e
  obtain ⟨⟨d, g2⟩, e2, e⟩ := Option.bind_eq_some_iff.mp e
  dsimp only at e
  split at e
  · rename_i b0 l0 hg0
    obtain ⟨⟨r3, g3⟩, e3, e⟩ := Option.bind_eq_some_iff.mp e
    dsimp only at e
    split at e
    · rename_i n b l hg
      split at e
      · rename_i j hj
        cases e
        refine ⟨m, g, r1, g1, A, e1, fun v1 m1 H1 A1 S1 V1 N1 => ?_⟩
        obtain ⟨m2, A2, S2, F2, _⟩ := frz_ok S1 A1 V1.w N1 e2
        obtain ⟨p0, vs0, h4, _⟩ := own_ty A2 hg0
        refine ⟨_, h4, m2, g2, _, g3, A2, e3, fun v3 m3 H3 A3 S3 V3 N3 => ?_⟩
        have V3 : Fz X.K X.mg m3 H3 v3 (.int n) := V3
        cases V3
        obtain ⟨p, vs, h5, h6, h7, _⟩ := own_ty A3 hg
        rw [h4] at h5; cases h5
        obtain ⟨A4, S4⟩ := A3.put hg h4 (h7.set (Fz.step A2 S3 F2) j)
        exact ⟨p0, vs, n, j, rfl, rfl, h6, by rw [h7.length]; exact hj, k m3 σ _ A4 ((S2.trans S3).trans S4)⟩
      · cases e
    · cases e
  · cases e
end
end Sm

namespace Sm
open PySem L2
/-! ## targets; ws: the slots that are written -/
section
variable (K : PySem.W.Frag) (mg : Str → Option Value) (c : C0)
def tGw (ws : List Nat) (f : D → G → Option G) : TG := fun v σ H Q => ∃ m g d g', Abs K mg c m g σ H ∧ Fz K mg m H v d ∧ f d g = some g' ∧
  ∀ m' σ' H', Abs K mg c m' g' σ' H' → Stp m g σ H m' g' σ' H' → ((∀ j, j ∉ ws → σ'[j]? = σ[j]?) ∧ σ'.length = σ.length) → Q σ' H'
def tGs (ws : List Nat) (f : List D → G → Option G) : TGs := fun vs σ H Q => ∃ m g ds g', Abs K mg c m g σ H ∧ FzL K mg m H vs ds ∧ f ds g = some g' ∧
  ∀ m' σ' H', Abs K mg c m' g' σ' H' → Stp m g σ H m' g' σ' H' → ((∀ j, j ∉ ws → σ'[j]? = σ[j]?) ∧ σ'.length = σ.length) → Q σ' H'
end
abbrev SGw (X : Cx) (c : C0) (ws : List Nat) (t : Expr) (f : D → G → Option G) : Prop := PG X t (tGw X.K X.mg c ws f)
abbrev SGs (X : Cx) (c : C0) (ws : List Nat) (t : List Expr) (f : List D → G → Option G) : Prop := PGs X t (tGs X.K X.mg c ws f)
theorem _root_.L2.PGs.imp {X : Cx} {e : List Expr} {t t' : TGs} (h : PGs X e t) (k : ∀ v σ H Q, t' v σ H Q → t v σ H Q) : PGs X e t' := ⟨fun pins s σ H v u Q I r q => h.run pins s σ H v u Q I r (k v σ H Q q)⟩
section
variable {X : Cx} {c : C0} {a b e cnd o tg iter : Expr} {es : List Expr} {pos : Pos} {ws ws' : List Nat} {gf : D → G → Option G} {gs : List D → G → Option G}
def gN (i : Nat) : D → G → Option G := fun d g => if notT g i = true then some (g.set i (.fz d)) else none
theorem sg_name {i : Nat} {x : Str} (hN : X.N.Nodup) (hi : X.N[i]? = some x) (hx : Loc X.env.scope x) (hf : X.fn x = true ∨ X.env.scope.names.lookup x = some .local := by first | exact .inl rfl | exact .inr rfl | assumption) : SGw X c [i] (.Name x pos) (gN i) :=
  (pg_name hN hi hx hf).imp fun v σ H Q q => by
    obtain ⟨m, g, d, g', A, F, e, k⟩ := q
    unfold gN at e
    split at e
    · cases e
      obtain ⟨A1, S1⟩ := A.sto ‹_› F
      refine k m _ H A1 S1 ⟨fun j hj => ?_, List.length_set⟩
      rw [List.getElem?_set_ne]
      intro z
      exact hj (by rw [z]; exact List.mem_singleton.mpr rfl)
    · cases e
def gNil' : List D → G → Option G := fun ds g => match ds with
  | [] => some g
  | _ => none
def gCons' (gf : D → G → Option G) (gs : List D → G → Option G) : List D → G → Option G := fun ds g => match ds with
  | d :: ds => (gf d g).bind fun g' => gs ds g'
  | _ => none
theorem sgs_nil : SGs X c [] [] gNil' := pgs_nil.imp fun vs σ H Q q => by
  obtain ⟨m, g, ds, g', A, F, e, k⟩ := q
  cases F with
  | nil => cases e; exact ⟨rfl, k m σ H A Stp.refl ⟨fun _ _ => rfl, rfl⟩⟩
  | cons _ _ => cases e
theorem sgs_cons (h : SGw X c ws e gf) (h' : SGs X c ws' es gs) (hs : (assignEach (e :: es) X.env).map (·.2) = assign e X.env :: (assignEach es X.env).map (·.2) := by rfl) : SGs X c (ws ++ ws') (e :: es) (gCons' gf gs) := (pgs_cons h h' hs).imp fun vs σ H Q q => by
  obtain ⟨m, g, ds, g', A, F, e, k⟩ := q
  cases F with
  | nil => cases e
  | cons F1 F2 =>
    simp only [gCons'] at e
    obtain ⟨g1, e1, e2⟩ := Option.bind_eq_some_iff.mp e
    refine ⟨_, _, rfl, m, g, _, g1, A, F1, e1, fun m1 σ1 H1 A1 S1 W1 => ⟨m1, g1, _, g', A1, F2.step A S1, e2, fun m2 σ2 H2 A2 S2 W2 => ?_⟩⟩
    refine k m2 σ2 H2 A2 (S1.trans S2) ⟨fun j hj => ?_, W2.2.trans W1.2⟩
    rw [W2.1 j fun z => hj (List.mem_append_right _ z), W1.1 j fun z => hj (List.mem_append_left _ z)]
def gT (n : Nat) (gs : List D → G → Option G) : D → G → Option G := fun d g => match d with
  | .tup ds => if ds.length = n then gs ds g else none
  | _ => none
theorem sg_tup {k n : Nat} (hc : X.calm = true) (h : SGs X c ws es gs) (hn : (assignEach es X.env).length = n := by rfl) (hst : (assignEach es X.env).findIdx? (·.1) = none := by rfl) : SGw X c ws (.Tuple es k pos) (gT n gs) := (pg_tup hc h hn hst).imp fun v σ H Q q => by
  obtain ⟨m, g, d, g', A, F, e, k⟩ := q
  unfold gT at e
  split at e
  · split at e
    · cases F with
      | tup hx t =>
        exact ⟨_, _, rfl, sq_tup hx, by rw [t.length]; assumption, m, g, _, g', A, t, e, k⟩
    · cases e
  · cases e
theorem ss_asgT {fe : G → Option (R × G)} (he : SE X c e fe) (hg : SGw X c ws tg gf) (hs : swapsWithSole [tg] e pos.line X.env = pure false := by rfl) (hw : swappedStores [tg] e X.env = pure none := by rfl)
    (h1 : (assignEach [tg] X.env).map (·.2) = [assign tg X.env] := by rfl) : SS X c (.Assign [tg] e pos) (fun g => (fe g).bind fun p => (frz p.2 p.1).bind fun q => (gf q.1 q.2).bind fun g' => some (.nx g')) := (ps_asg he hg hs hw h1).imp fun D σ H q => by
  obtain ⟨m, g, o, A, e, k⟩ := q
  obtain ⟨⟨r1, g1⟩, e1, e⟩ := Option.bind_eq_some_iff.mp e
  obtain ⟨⟨d, g2⟩, e2, e⟩ := Option.bind_eq_some_iff.mp e
  obtain ⟨g3, e3, e⟩ := Option.bind_eq_some_iff.mp e
  cases e
  refine ⟨m, g, r1, g1, A, e1, fun v m1 H1 A1 S1 V1 N1 => ?_⟩
  obtain ⟨m2, A2, S2, F2, _⟩ := frz_ok S1 A1 V1.w N1 e2
  exact ⟨m2, g2, d, g3, A2, F2, e3, fun m3 σ3 H3 A3 S3 _ => k m3 σ3 H3 A3 (S2.trans S3)⟩
def sAsgT (gf : D → G → Option G) (fe : G → Option (R × G)) : G → Option O := fun g => (fe g).bind fun p => (frz p.2 p.1).bind fun q => (gf q.1 q.2).bind fun g' => some (.nx g')

/-! ## what is walked -/
def seqD : D → Option (List D)
  | .lst l => some l
  | .sls l => some l
  | _ => none
def iL (fe : G → Option (R × G)) : G → Option (List D × G) := fun g => (fe g).bind fun p => (frz p.2 p.1).bind fun q => match q.1 with
  | .lst l => some (l, q.2)
  | .sls l => some (l, q.2)
  | _ => none
theorem jok_frz {K : PySem.W.Frag} {mg : Str → Option Value} {m : List Addr} {g : G} {σ : St} {H : Hp} {a : Addr} {vs : List V} {l : List D} (A : Abs K mg c m g σ H) (h1 : SqL K H a vs ∧ (a ∈ m → False) ∨ SqL K (fun _ => none) a vs) (h2 : FzL K mg m H vs l) : JOk K mg c (Itl K a) l m g σ H := fun m' g' σ' H' A' S' => by
  have h3 : SqL K H' a vs := by
    rcases h1 with ⟨h1, n⟩ | h1
    · rcases h1 with (h1 | ⟨o, h1⟩) | h1
      · exact .inl (.inl (Stp.fzk A S' _ _ n h1).2)
      · exact .inl (.inr ⟨o, (Stp.fzk A S' _ _ n h1).2⟩)
      · exact .inr h1
    · exact sqL_any h1
  have h2' := h2.step A S'
  refine ⟨⟨vs, h3, by rw [h2'.length]; exact Nat.le_refl _⟩, fun i d hd => ?_⟩
  obtain ⟨v, h4, h5⟩ := h2'.get hd
  refine ⟨⟨vs, v, h3, h4⟩, fun x H'' y => ?_⟩
  obtain ⟨rfl, y⟩ := y
  have := y vs h3
  rw [h4] at this; cases this
  exact ⟨m', A', Stp.refl, h5⟩
theorem fz_seq {K : PySem.W.Frag} {mg : Str → Option Value} {m : List Addr} {H : Hp} {v : V} {d : D} {l : List D} (h : Fz K mg m H v d) (e : seqD d = some l) :
    ∃ a vs, v = .ref a ∧ (SqL K H a vs ∧ (a ∈ m → False) ∨ SqL K (fun _ => none) a vs) ∧ FzL K mg m H vs l := by
  cases h with
  | lst h1 h2 t => cases e; exact ⟨_, _, rfl, .inl ⟨.of h2, h1⟩, t⟩
  | sls h1 t =>
    cases e
    rcases h1 with ⟨h1, o, h2⟩ | h1
    · exact ⟨_, _, rfl, .inl ⟨.inl (.inr ⟨o, h2⟩), h1⟩, t⟩
    · exact ⟨_, _, rfl, .inr h1, t⟩
  | _ => cases e
theorem iL_inv {fe : G → Option (R × G)} {g g' : G} {l : List D} (e : iL fe g = some (l, g')) : ∃ r g1 d, fe g = some (r, g1) ∧ frz g1 r = some (d, g') ∧ seqD d = some l := by
  unfold iL at e
  obtain ⟨⟨r1, g1⟩, e1, e⟩ := Option.bind_eq_some_iff.mp e
  obtain ⟨⟨d, g2⟩, e2, e⟩ := Option.bind_eq_some_iff.mp e
  refine ⟨r1, g1, d, e1, ?_⟩
  cases d <;> cases e <;> exact ⟨e2, rfl⟩
theorem si_list {fe : G → Option (R × G)} (h : SE X c e fe) : SI X c tg e (iL fe) := (pi_list h).imp fun σ H Q q => by
  obtain ⟨m, g, l, g', A, e, k⟩ := q
  obtain ⟨r, g1, d, e1, e2, e3⟩ := iL_inv e
  refine ⟨m, g, r, g1, A, e1, fun v m1 H1 A1 S1 V1 N1 => ?_⟩
  obtain ⟨m2, A2, S2, F2, _⟩ := frz_ok S1 A1 V1.w N1 e2
  obtain ⟨a, vs, h1, h2, h3⟩ := fz_seq F2 e3
  refine ⟨a, h1, ⟨vs, ?_⟩, k _ m2 H1 A2 S2 (jok_frz A2 h2 h3)⟩
  rcases h2 with ⟨h2, _⟩ | h2
  · exact h2
  · exact sqL_any h2
def iT (fe : G → Option (R × G)) : G → Option (List D × G) := fun g => (fe g).bind fun p => match p.1 with
  | .d (.tup l) => some (l, p.2)
  | _ => none
theorem si_tup {fe : G → Option (R × G)} (h : SE X c e fe) : SI X c tg e (iT fe) := (pi_tup h).imp fun σ H Q q => by
  obtain ⟨m, g, l, g', A, e, k⟩ := q
  unfold iT at e
  obtain ⟨⟨r1, g1⟩, e1, e⟩ := Option.bind_eq_some_iff.mp e
  refine ⟨m, g, r1, g1, A, e1, fun v m1 H1 A1 S1 V1 N1 => ?_⟩
  dsimp only at e
  split at e
  · cases e
    have V1 : Fz X.K X.mg m1 H1 v (.tup l) := V1
    cases V1 with
    | tup hx t =>
      rename_i a vs
      refine ⟨a, rfl, ⟨vs, sq_tup hx⟩, k _ m1 H1 A1 S1 fun m' g' σ' H' A' S' => ?_⟩
      have h3 : SqT X.K H' a vs := by
        rcases hx with ⟨n, h1 | ⟨o, h1⟩⟩ | h1
        · exact .inl (.inl (Stp.fzk A1 S' _ _ n h1).2)
        · exact .inl (.inr ⟨o, (Stp.fzk A1 S' _ _ n h1).2⟩)
        · exact sqT_any h1
      have h2' := t.step A1 S'
      refine ⟨⟨vs, h3, by rw [h2'.length]; exact Nat.le_refl _⟩, fun i d hd => ?_⟩
      obtain ⟨v, h4, h5⟩ := h2'.get hd
      refine ⟨⟨vs, v, h3, h4⟩, fun x H'' y => ?_⟩
      obtain ⟨rfl, y⟩ := y
      have := y vs h3
      rw [h4] at this; cases this
      exact ⟨m', A', Stp.refl, h5⟩
  · cases e
def iS (fe : G → Option (R × G)) : G → Option (List D × G) := fun g => (fe g).bind fun p => match p.1 with
  | .d (.str s) => some (s.cps.toList.map fun x => .str ⟨#[x]⟩, p.2)
  | _ => none
theorem si_str {fe : G → Option (R × G)} (h : SE X c e fe) : SI X c tg e (iS fe) := (pi_str h).imp fun σ H Q q => by
  obtain ⟨m, g, l, g', A, e, k⟩ := q
  unfold iS at e
  obtain ⟨⟨r1, g1⟩, e1, e⟩ := Option.bind_eq_some_iff.mp e
  refine ⟨m, g, r1, g1, A, e1, fun v m1 H1 A1 S1 V1 N1 => ?_⟩
  dsimp only at e
  split at e
  · cases e
    rename_i s
    have V1 : Fz X.K X.mg m1 H1 v (.str s) := V1
    cases V1
    refine ⟨s, rfl, k _ m1 H1 A1 S1 fun m' g' σ' H' A' S' => ⟨?_, fun i d hd => ?_⟩⟩
    · show s.cps.size ≤ _
      rw [List.length_map, Array.length_toList]
      exact Nat.le_refl _
    · rw [List.getElem?_map] at hd
      obtain ⟨x, h1, h2⟩ := Option.map_eq_some_iff.mp hd
      subst h2
      have hlt := lt_of_get h1
      rw [Array.length_toList] at hlt
      refine ⟨hlt, fun y H'' z => ?_⟩
      obtain ⟨rfl, x', h3, h4⟩ := z
      rw [Array.getElem?_toList] at h1
      rw [h1] at h3; cases h3
      subst h4
      exact ⟨m', A', Stp.refl, .str _⟩
  · cases e
def rangeD (lo : Int) (n : Nat) : List D := (List.range n).map fun i => .int (lo + (i : Nat))
theorem jok_range {K : PySem.W.Frag} {mg : Str → Option Value} {m : List Addr} {g : G} {σ : St} {H : Hp} {lo : Int} {n : Nat} : JOk K mg c (Itr lo n) (rangeD lo n) m g σ H := fun m' g' σ' H' A' S' => by
  unfold rangeD
  refine ⟨by show n ≤ _; rw [List.length_map, List.length_range]; exact Nat.le_refl _, fun i d hd => ?_⟩
  rw [List.getElem?_map] at hd
  obtain ⟨x, h1, h2⟩ := Option.map_eq_some_iff.mp hd
  have hlt := lt_of_get h1
  rw [List.length_range] at hlt
  rw [List.getElem?_range hlt] at h1
  cases h1
  subst h2
  refine ⟨hlt, fun y H'' z => ?_⟩
  obtain ⟨rfl, rfl⟩ := z
  exact ⟨m', A', Stp.refl, .int _⟩
def iR1 (fe : G → Option (R × G)) : G → Option (List D × G) := fun g => (fe g).bind fun p => match p.1 with
  | .d (.int n) => if -(2 ^ 62) ≤ n ∧ n < 2 ^ 62 then some (rangeD 0 n.toNat, p.2) else none
  | _ => none
def iR2 (fa fe : G → Option (R × G)) : G → Option (List D × G) := fun g => (fa g).bind fun p => (fe p.2).bind fun q => match p.1, q.1 with
  | .d (.int i), .d (.int n) => if -(2 ^ 62) ≤ n ∧ n < 2 ^ 62 ∧ -(2 ^ 62) ≤ i ∧ i < 2 ^ 62 then some (rangeD i (n - i).toNat, q.2) else none
  | _, _ => none
theorem si_range1 {fe : G → Option (R × G)} {p : Pos} (hg : Gl X "range") (hm : X.mg "range" = none) (h : SE X c a fe) (hs : starEach [a] X.env = [(false, eval a X.env)] := by rfl) (hs' : starEach [a] X.env = (false, eval a X.env) :: starEach [] X.env := by rfl) : SI X c tg (.Call (.Name "range" p) [a] [] pos) (iR1 fe) :=
  (pi_range1 hg hm (pa_cons h pa_nil hs') hs).imp fun σ H Q q => by
    obtain ⟨m, g, l, g', A, e, k⟩ := q
    unfold iR1 at e
    obtain ⟨⟨r1, g1⟩, e1, e⟩ := Option.bind_eq_some_iff.mp e
    refine ⟨m, g, r1, g1, A, e1, fun v m1 H1 A1 S1 V1 N1 => ?_⟩
    dsimp only at e
    split at e
    · rename_i n
      split at e
      · rename_i hz
        cases e
        have V1 : Fz X.K X.mg m1 H1 v (.int n) := V1
        cases V1
        exact ⟨n, rfl, hz.1, hz.2, k _ m1 H1 A1 S1 jok_range⟩
      · cases e
    · cases e
def enumD (l : List D) : List D := l.zipIdx.map fun p => .tup [.int (p.2 : Nat), p.1]
def iEn (fe : G → Option (R × G)) : G → Option (List D × G) := fun g => (iL fe g).bind fun p => some (enumD p.1, p.2)
theorem si_enum {fe : G → Option (R × G)} {p tpos : Pos} {elts : List Expr} {kk : Nat} (hg : Gl X "enumerate") (hm : X.mg "enumerate" = none) (h : SE X c e fe) (hs : starEach [e] X.env = [(false, eval e X.env)] := by rfl) (hs' : starEach [e] X.env = (false, eval e X.env) :: starEach [] X.env := by rfl) :
    SI X c (.Tuple elts kk tpos) (.Call (.Name "enumerate" p) [e] [] pos) (iEn fe) := (pi_enum hg hm (pa_cons h pa_nil hs') hs).imp fun σ H Q q => by
  obtain ⟨m, g, l, g', A, e, k⟩ := q
  unfold iEn at e
  obtain ⟨⟨l0, g0⟩, e0, e⟩ := Option.bind_eq_some_iff.mp e
  cases e
  obtain ⟨r, g1, d, e1, e2, e3⟩ := iL_inv e0
  refine ⟨m, g, r, g1, A, e1, fun v m1 H1 A1 S1 V1 N1 => ?_⟩
  obtain ⟨m2, A2, S2, F2, _⟩ := frz_ok S1 A1 V1.w N1 e2
  obtain ⟨a, vs, h1, h2, h3⟩ := fz_seq F2 e3
  subst h1
  have hq : SqL X.K H1 a vs := by
    rcases h2 with ⟨h2, _⟩ | h2
    · exact h2
    · exact sqL_any h2
  refine ⟨a, vs, rfl, hq, k _ m2 H1 A2 S2 fun m' g' σ' H' A' S' => ?_⟩
  have h3' : SqL X.K H' a vs := by
    rcases h2 with ⟨h1, n⟩ | h1
    · rcases h1 with (h1 | ⟨o, h1⟩) | h1
      · exact .inl (.inl (Stp.fzk A2 S' _ _ n h1).2)
      · exact .inl (.inr ⟨o, (Stp.fzk A2 S' _ _ n h1).2⟩)
      · exact .inr h1
    · exact sqL_any h1
  have h2' := h3.step A2 S'
  unfold enumD
  refine ⟨⟨vs, h3', by rw [List.length_map, List.length_zipIdx, h2'.length]; exact Nat.le_refl _⟩, fun i d hd => ?_⟩
  rw [List.getElem?_map, List.getElem?_zipIdx, Option.map_map] at hd
  obtain ⟨x, hx, hd⟩ := Option.map_eq_some_iff.mp hd
  obtain ⟨w, h4, h5⟩ := h2'.get hx
  refine ⟨⟨vs, w, h3', h4⟩, fun y H'' z => ?_⟩
  obtain ⟨T, x', rfl, hT, rfl, z⟩ := z
  have := z vs h3'
  rw [h4] at this; cases this
  refine ⟨m', A'.ext (Ext.new hT), Stp.ext (Ext.new hT), ?_⟩
  subst hd
  refine tup_new A'.trk hT (.cons ?_ (.cons h5 .nil))
  have : ((0 + i : Nat) : Int) = ((i : Nat) : Int) := by omega
  show Fz _ _ _ _ _ (.int ((0 + i : Nat) : Int))
  rw [this]
  exact .int _
def zipD (l l' : List D) : List D := (l.zip l').map fun p => .tup [p.1, p.2]
def iZ (fa fe : G → Option (R × G)) : G → Option (List D × G) := fun g => (fa g).bind fun p => (fe p.2).bind fun q => (frzs q.2 [p.1, q.1]).bind fun s => match s.1 with
  | [.lst l, .lst l'] => some (zipD l l', s.2)
  | _ => none
end
end Sm

namespace Sm
open PySem L2
section
variable {X : Cx} {c : C0} {a b e cnd o tg iter elt : Expr} {es : List Expr} {pos : Pos} {ws : List Nat} {gf : D → G → Option G} {fi : G → Option (List D × G)} {fb : G → Option O} {ft : G → Option (Bool × G)} {fe : G → Option (R × G)} {body : List Stmt}
/-! ## for -/
def forL (gf : D → G → Option G) (fb : G → Option O) : List D → G → Option O
  | [], g => some (.nx g)
  | d :: l, g => (gf d g).bind fun g1 => (fb g1).bind fun o => match o with
    | .nx g2 => forL gf fb l g2
    | .ct g2 => forL gf fb l g2
    | .bk g2 => some (.nx g2)
    | .rt r g2 => some (.rt r g2)
    | .xc C x g2 => some (.xc C x g2)
def sFor (fi : G → Option (List D × G)) (gf : D → G → Option G) (fb : G → Option O) : G → Option O := fun g => (fi g).bind fun p => forL gf fb p.1 p.2
theorem ss_for (hp : PassesOwn (model X.prog X.w) X.A X.env X.xe) (hc : X.calm = true) (hi : SI X c tg iter fi) (hg : SGw X c ws tg gf) (hb : SSs X c body fb)
    (hs : ∀ x, foldedSetIterable iter X.env x = pure x := by intro _; rfl) : SS X c (.For tg iter body [] pos) (sFor fi gf fb) := (ps_for hp hc hi hg hb hs).imp fun D σ H q => by
  obtain ⟨m, g, o, A, e, k⟩ := q
  unfold sFor at e
  obtain ⟨⟨l, g1⟩, e1, e2⟩ := Option.bind_eq_some_iff.mp e
  refine ⟨m, g, l, g1, A, e1, fun J m1 H1 A1 S1 jok => ?_⟩
  refine ⟨fun i n σi Hi => n = l.length - i ∧ i ≤ l.length ∧ ∃ mi gi, Abs X.K X.mg c mi gi σi Hi ∧ Stp m1 g1 σ H1 mi gi σi Hi ∧ forL gf fb (l.drop i) gi = some o, ⟨l.length, rfl, Nat.zero_le _, m1, g1, A1, Stp.refl, e2⟩, ?_⟩
  rintro i n σi Hi ⟨rfl, hle, mi, gi, Ai, Si, ei⟩
  obtain ⟨js, jg⟩ := jok mi gi σi Hi Ai Si
  by_cases hlt : i < l.length
  · have hd : l[i]? = some l[i] := List.getElem?_eq_getElem hlt
    obtain ⟨go, hy⟩ := jg i _ hd
    rw [List.drop_eq_getElem_cons hlt] at ei
    simp only [forL] at ei
    obtain ⟨g2, e3, e4⟩ := Option.bind_eq_some_iff.mp ei
    obtain ⟨o1, e5, e6⟩ := Option.bind_eq_some_iff.mp e4
    refine .inr ⟨go, fun σ' H' => ∃ mi gi, Abs X.K X.mg c mi gi σ' H' ∧ Stp m1 g1 σ H1 mi gi σ' H' ∧ forL gf fb (l.drop (i + 1)) gi = some o, fun σ' H' ⟨mj, gj, Aj, Sj, ej⟩ => ⟨l.length - (i + 1), by omega, rfl, hlt, mj, gj, Aj, Sj, ej⟩, fun x H' y => ?_⟩
    obtain ⟨m2, A2, S2, F2⟩ := hy x H' y
    refine ⟨m2, gi, _, g2, A2, F2, e3, fun m3 σ3 H3 A3 S3 _ => ⟨m3, g2, o1, A3, e5, ?_⟩⟩
    cases o1 with
    | nx g4 => exact fun m4 σ4 H4 A4 S4 => ⟨m4, g4, A4, ((Si.trans S2).trans S3).trans S4, e6⟩
    | ct g4 => exact fun m4 σ4 H4 A4 S4 => ⟨m4, g4, A4, ((Si.trans S2).trans S3).trans S4, e6⟩
    | bk g4 =>
      cases e6
      exact fun m4 σ4 H4 A4 S4 => k m4 σ4 H4 A4 (S1.trans (((Si.trans S2).trans S3).trans S4))
    | rt r g4 =>
      cases e6
      exact fun v m4 σ4 H4 A4 V4 => k v m4 σ4 H4 A4 V4
    | xc C x g4 =>
      cases e6
      exact fun cls d m4 σ4 H4 A4 S4 => k cls d m4 σ4 H4 A4 (S1.trans (((Si.trans S2).trans S3).trans S4))
  · have ei' : i = l.length := by omega
    subst ei'
    rw [List.drop_length] at ei
    cases ei
    exact .inl ⟨js, k mi σi Hi Ai (S1.trans Si)⟩

/-! ## while -/
def whL (ft : G → Option (Bool × G)) (fb : G → Option O) : Nat → G → Option O
  | 0, _ => none
  | n + 1, g => (ft g).bind fun p => if p.1 = true then (fb p.2).bind fun o => match o with
    | .nx g2 => whL ft fb n g2
    | .ct g2 => whL ft fb n g2
    | .bk g2 => some (.nx g2)
    | .rt r g2 => some (.rt r g2)
    | .xc C x g2 => some (.xc C x g2) else some (.nx p.2)
open Classical in
noncomputable def sWhile (ft : G → Option (Bool × G)) (fb : G → Option O) : G → Option O := fun g =>
  if h : ∃ n o, whL ft fb n g = some o then whL ft fb (Classical.choose h) g else none
theorem whL_more : ∀ (n k : Nat) (g : G) (o : O), whL ft fb n g = some o → whL ft fb (n + k) g = some o
  | 0, _, _, _, h => nomatch h
  | n + 1, k, g, o, h => by
    rw [Nat.add_right_comm]
    simp only [whL] at h ⊢
    obtain ⟨⟨t, g1⟩, e1, e2⟩ := Option.bind_eq_some_iff.mp h
    rw [e1, Option.bind_some]
    cases t with
    | false => exact e2
    | true =>
      rw [if_pos rfl] at e2 ⊢
      obtain ⟨o1, e3, e4⟩ := Option.bind_eq_some_iff.mp e2
      dsimp only at e3 ⊢
      rw [e3, Option.bind_some]
      cases o1 with
      | nx g2 => exact whL_more n k g2 o e4
      | ct g2 => exact whL_more n k g2 o e4
      | bk g2 => exact e4
      | rt r g2 => exact e4
      | xc C x g2 => exact e4
theorem sWhile_of {n : Nat} {g : G} {o : O} (h : whL ft fb n g = some o) : sWhile ft fb g = some o := by
  have hx : ∃ n o, whL ft fb n g = some o := ⟨n, o, h⟩
  unfold sWhile
  rw [dif_pos hx]
  obtain ⟨o', h'⟩ := Classical.choose_spec hx
  have h1 := whL_more _ n _ _ h'
  have h2 := whL_more _ (Classical.choose hx) _ _ h
  rw [Nat.add_comm] at h1
  rw [h1] at h2
  cases h2
  exact h'
theorem sWhile_inv {g : G} {o : O} (h : sWhile ft fb g = some o) : ∃ n, whL ft fb n g = some o := by
  unfold sWhile at h
  split at h
  · exact ⟨_, h⟩
  · cases h
theorem ss_while (hp : PassesOwn (model X.prog X.w) X.A X.env X.xe) (hc : ST X c cnd ft) (hb : SSs X c body fb) : SS X c (.While cnd body [] pos) (sWhile ft fb) := (ps_while hp hc hb).imp fun D σ H q => by
  obtain ⟨m, g, o, A, e, k⟩ := q
  obtain ⟨n, e⟩ := sWhile_inv e
  refine ⟨fun n σi Hi => ∃ mi gi, Abs X.K X.mg c mi gi σi Hi ∧ Stp m g σ H mi gi σi Hi ∧ whL ft fb n gi = some o, ⟨n, m, g, A, Stp.refl, e⟩, ?_⟩
  rintro n σi Hi ⟨mi, gi, Ai, Si, ei⟩
  cases n with
  | zero => cases ei
  | succ n =>
    simp only [whL] at ei
    obtain ⟨⟨t, g1⟩, e1, e2⟩ := Option.bind_eq_some_iff.mp ei
    refine ⟨mi, gi, t, g1, Ai, e1, fun m1 H1 A1 S1 => ?_⟩
    cases t with
    | false =>
      cases e2
      exact iteF (k m1 σi H1 A1 (Si.trans S1))
    | true =>
      rw [if_pos rfl] at e2
      obtain ⟨o1, e3, e4⟩ := Option.bind_eq_some_iff.mp e2
      refine iteT ⟨fun σ' H' => ∃ mi gi, Abs X.K X.mg c mi gi σ' H' ∧ Stp m g σ H mi gi σ' H' ∧ whL ft fb n gi = some o, fun σ' H' ⟨mj, gj, Aj, Sj, ej⟩ => ⟨n, Nat.lt_succ_self _, mj, gj, Aj, Sj, ej⟩, m1, g1, o1, A1, e3, ?_⟩
      cases o1 with
      | nx g4 => exact fun m4 σ4 H4 A4 S4 => ⟨m4, g4, A4, (Si.trans S1).trans S4, e4⟩
      | ct g4 => exact fun m4 σ4 H4 A4 S4 => ⟨m4, g4, A4, (Si.trans S1).trans S4, e4⟩
      | bk g4 =>
        cases e4
        exact fun m4 σ4 H4 A4 S4 => k m4 σ4 H4 A4 ((Si.trans S1).trans S4)
      | rt r g4 =>
        cases e4
        exact fun v m4 σ4 H4 A4 V4 => k v m4 σ4 H4 A4 V4
      | xc C x g4 =>
        cases e4
        exact fun cls d m4 σ4 H4 A4 S4 => k cls d m4 σ4 H4 A4 ((Si.trans S1).trans S4)

/-! ## comprehensions -/
def wipeG (g : G) : List Nat → G
  | [] => g
  | v :: vs => (wipeG g vs).set v .un
def restG (g g0 : G) : List Nat → G
  | [] => g
  | v :: vs => (restG g g0 vs).set v (g0[v]?.getD .un)
theorem wipeG_len (g : G) : ∀ vs : List Nat, (wipeG g vs).length = g.length
  | [] => rfl
  | v :: vs => by unfold wipeG; rw [List.length_set, wipeG_len g vs]
theorem restG_len (g g0 : G) : ∀ vs : List Nat, (restG g g0 vs).length = g.length
  | [] => rfl
  | v :: vs => by unfold restG; rw [List.length_set, restG_len g g0 vs]
theorem wipeG_out {g : G} {j : Nat} : ∀ {vs : List Nat}, j ∉ vs → (wipeG g vs)[j]? = g[j]?
  | [], _ => rfl
  | v :: vs, h => by
    unfold wipeG
    rw [List.getElem?_set_ne (fun z => h (by rw [z]; exact List.mem_cons_self)), wipeG_out fun z => h (List.mem_cons_of_mem _ z)]
theorem wipeG_in {g : G} {j : Nat} {s : Slot} : ∀ {vs : List Nat}, j ∈ vs → (wipeG g vs)[j]? = some s → s = .un
  | v :: vs, h, e => by
    unfold wipeG at e
    rcases get_set e with ⟨_, e⟩ | ⟨ne, e⟩
    · exact e
    · rcases List.mem_cons.mp h with h | h
      · exact absurd h.symm ne
      · exact wipeG_in h e
theorem restG_out {g g0 : G} {j : Nat} : ∀ {vs : List Nat}, j ∉ vs → (restG g g0 vs)[j]? = g[j]?
  | [], _ => rfl
  | v :: vs, h => by
    unfold restG
    rw [List.getElem?_set_ne (fun z => h (by rw [z]; exact List.mem_cons_self)), restG_out fun z => h (List.mem_cons_of_mem _ z)]
theorem restG_in {g g0 : G} {j : Nat} {s : Slot} : ∀ {vs : List Nat}, j ∈ vs → (restG g g0 vs)[j]? = some s → s = g0[j]?.getD .un
  | v :: vs, h, e => by
    unfold restG at e
    rcases get_set e with ⟨h1, q⟩ | ⟨ne, e⟩
    · subst h1; exact q
    · rcases List.mem_cons.mp h with h | h
      · exact absurd h.symm ne
      · exact restG_in h e
theorem wipe_out' {σ : St} {j : Nat} : ∀ {vs : List Nat}, j ∉ vs → (wipe σ vs)[j]? = σ[j]?
  | [], _ => rfl
  | v :: vs, h => by
    unfold wipe
    rw [List.getElem?_set_ne (fun z => h (by rw [z]; exact List.mem_cons_self)), wipe_out' fun z => h (List.mem_cons_of_mem _ z)]
theorem wipe_in' {σ : St} {j : Nat} : ∀ {vs : List Nat}, j ∈ vs → (wipe σ vs)[j]? = if j < σ.length then some none else none
  | v :: vs, h => by
    unfold wipe
    by_cases e : v = j
    · subst e
      by_cases hl : v < σ.length
      · rw [if_pos hl, List.getElem?_set_self (by rw [wipe_length]; exact hl)]
      · rw [if_neg hl, List.getElem?_eq_none (by rw [List.length_set, wipe_length]; omega)]
    · rw [List.getElem?_set_ne e]
      rcases List.mem_cons.mp h with h | h
      · exact absurd h.symm e
      · exact wipe_in' h
theorem wipe_again {σ σ' : St} {vs : List Nat} (hl : σ'.length = σ.length) (h : ∀ j, j ∉ vs → σ'[j]? = (wipe σ vs)[j]?) : wipe σ' vs = wipe σ vs := by
  apply List.ext_getElem?
  intro j
  by_cases hj : j ∈ vs
  · rw [wipe_in' hj, wipe_in' hj, hl]
  · rw [wipe_out' hj, h j hj]
def notOl (g : G) (vs : List Nat) : Bool := vs.all fun v => match g[v]? with
  | some (.ol _ _) => false
  | some (.ob _ _ _) => false
  | _ => true
theorem notOl_in {g : G} {vs : List Nat} (h : notOl g vs = true) {j : Nat} (hj : j ∈ vs) {b : Bool} {l : List D} (e : g[j]? = some (.ol b l)) : False := by
  unfold notOl at h
  have q := List.all_eq_true.mp h j hj
  rw [e] at q
  cases q
theorem notOl_ob {g : G} {vs : List Nat} (h : notOl g vs = true) {j : Nat} (hj : j ∈ vs) {b : Bool} {k : OK} {cs : List F} (e : g[j]? = some (.ob b k cs)) : False := by
  unfold notOl at h
  have q := List.all_eq_true.mp h j hj
  rw [e] at q
  cases q
theorem notOl_own {g : G} {vs : List Nat} (h : notOl g vs = true) {j : Nat} (hj : j ∈ vs) {s : Slot} {w : Option (Option V)} {a : Addr} (e : g[j]? = some s) (o : SOwn s w a) : False := by
  cases s with
  | ol b l => exact notOl_in h hj e
  | ob b k cs => exact notOl_ob h hj e
  | un => exact o
  | fz d => exact o
  | pin v => exact o
  | xs x => exact o
section
variable {K : PySem.W.Frag} {mg : Str → Option Value} {m m1 m2 : List Addr} {g g1 g2 : G} {σ σ1 σ2 : St} {H H1 H2 : Hp} {v : V} {r : R} {d : D} {vs : List Nat}
theorem own_wipe {a : Addr} (h : Own (wipeG g vs) (wipe σ vs) a) : Own g σ a := by
  obtain ⟨j, s, h1, h2⟩ := h
  by_cases hj : j ∈ vs
  · cases wipeG_in hj h1; exact h2.elim
  · rw [wipeG_out hj] at h1
    rw [wipe_out' hj] at h2
    exact ⟨j, s, h1, h2⟩
theorem pa_no (A : Abs K mg c m g σ H) (hn : notOl g vs = true) : ∀ j ∈ vs, c.pa j = none := fun j hj => by
  cases w : c.pa j with
  | none => rfl
  | some p =>
    rcases (A.pas j p w).2 with ⟨l1, h3⟩ | ⟨k, cs, h3⟩
    · exact (notOl_in hn hj h3).elim
    · exact (notOl_ob hn hj h3).elim
theorem Abs.wipe (A : Abs K mg c m g σ H) (hp : ∀ j ∈ vs, c.pa j = none) : Abs K mg c m (wipeG g vs) (L2.wipe σ vs) H where
  len := by rw [wipeG_len, wipe_length]; exact A.len
  fz := fun i d h => by
    by_cases hj : i ∈ vs
    · cases wipeG_in hj h
    · rw [wipeG_out hj] at h
      rw [wipe_out' hj]
      exact A.fz i d h
  ol := fun i b l h => by
    by_cases hj : i ∈ vs
    · cases wipeG_in hj h
    · rw [wipeG_out hj] at h
      rw [wipe_out' hj]
      exact A.ol i b l h
  nn := fun i j s t p h h' e e' => by
    by_cases hi : i ∈ vs
    · cases wipeG_in hi h; exact e.elim
    · by_cases hj : j ∈ vs
      · cases wipeG_in hj h'; exact e'.elim
      · rw [wipeG_out hi] at h
        rw [wipeG_out hj] at h'
        rw [wipe_out' hi] at e
        rw [wipe_out' hj] at e'
        exact A.nn i j _ _ p h h' e e'
  trk := A.trk
  keep := A.keep
  sub := A.sub
  pas := fun i p h => by
    have h2 := A.pas i p h
    rw [wipeG_out fun z => by rw [hp i z] at h; cases h]
    exact h2
  pin := fun i v h => by
    by_cases hj : i ∈ vs
    · cases wipeG_in hj h
    · rw [wipeG_out hj] at h
      rw [wipe_out' hj]
      exact A.pin i v h
  ob := fun i b k cs h => by
    by_cases hj : i ∈ vs
    · cases wipeG_in hj h
    · rw [wipeG_out hj] at h
      rw [wipe_out' hj]
      exact A.ob i b k cs h
  pqs := A.pqs
  xs := fun i x h => by
    by_cases hj : i ∈ vs
    · cases wipeG_in hj h
    · rw [wipeG_out hj] at h
      rw [wipe_out' hj]
      exact A.xs i x h
theorem Stp.wipe : Stp m g σ H m (wipeG g vs) (L2.wipe σ vs) H := ⟨fun _ z => .inl z, fun _ _ _ z => z, fun _ z _ => .inl z, fun _ z => .inl (own_wipe z), fun _ z => z⟩
theorem own_rest {a : Addr} (hn : notOl g1 vs = true) (h : Own (restG g g1 vs) σ a) : Own g (L2.wipe σ vs) a := by
  obtain ⟨j, s, h1, h2⟩ := h
  by_cases hj : j ∈ vs
  · have q := restG_in hj h1
    cases e : g1[j]? with
    | none =>
      rw [e] at q
      have q : s = .un := q
      subst q
      exact h2.elim
    | some s' =>
      rw [e] at q
      have q : s = s' := q
      subst q
      exact (notOl_own hn hj e h2).elim
  · rw [restG_out hj] at h1
    exact ⟨j, s, h1, by rw [wipe_out' hj]; exact h2⟩
theorem Abs.unwipe (A1 : Abs K mg c m1 g1 σ H1) (hn : notOl g1 vs = true) (A : Abs K mg c m g (L2.wipe σ vs) H) (S : Stp m1 g1 σ H1 m g (L2.wipe σ vs) H) : Abs K mg c m (restG g g1 vs) σ H ∧ Stp m1 g1 σ H1 m (restG g g1 vs) σ H := by
  have hin : ∀ {i : Nat} {s : Slot}, i ∈ vs → (restG g g1 vs)[i]? = some s → s = .un ∨ g1[i]? = some s := fun {i s} hj h => by
    have q := restG_in hj h
    cases e : g1[i]? with
    | none => rw [e] at q; exact .inl q
    | some s' => rw [e] at q; exact .inr (by rw [q]; rfl)
  have out : ∀ {n : Nat} {s : Slot} {w : Option (Option V)} {a : Addr}, (restG g g1 vs)[n]? = some s → SOwn s w a → n ∉ vs := fun {n s w a} h o z => by
    rcases hin z h with q | q
    · subst q; exact o
    · exact notOl_own hn z q o
  refine ⟨⟨by rw [restG_len]; have := A.len; rw [wipe_length] at this; exact this, fun i d h => ?_, fun i b l h => ?_, fun i j s t p h h' e e' => ?_, A.trk, A.keep, A.sub, fun i p h => ?_, fun i v h => by
    by_cases hj : i ∈ vs
    · rcases hin hj h with q | q
      · cases q
      · exact A1.pin i v q
    · rw [restG_out hj] at h
      have := A.pin i v h
      rw [wipe_out' hj] at this
      exact this, fun i b k cs h => ?_, A.pqs, fun i x h => by
    by_cases hj : i ∈ vs
    · rcases hin hj h with q | q
      · cases q
      · obtain ⟨h1, h2, v, h3, h4⟩ := A1.xs i x q
        obtain ⟨h5, h6⟩ := Stp.fzk A1 S _ _ h2 h3
        exact ⟨h1, h5, v, h6, h4.step A1 S⟩
    · rw [restG_out hj] at h
      have := A.xs i x h
      rw [wipe_out' hj] at this
      exact this⟩, ⟨S.fr, S.kp, S.mo, fun a z => S.ow a ?_, S.tk⟩⟩
  · by_cases hj : i ∈ vs
    · rcases hin hj h with q | q
      · cases q
      · obtain ⟨v, h1, h2⟩ := A1.fz i d q
        exact ⟨v, h1, h2.step A1 S⟩
    · rw [restG_out hj] at h
      obtain ⟨v, h1, h2⟩ := A.fz i d h
      rw [wipe_out' hj] at h1
      exact ⟨v, h1, h2⟩
  · by_cases hj : i ∈ vs
    · rcases hin hj h with q | q
      · cases q
      · exact (notOl_in hn hj q).elim
    · rw [restG_out hj] at h
      have := A.ol i b l h
      rw [wipe_out' hj] at this
      exact this
  · have hi := out h e
    have hj := out h' e'
    rw [restG_out hi] at h
    rw [restG_out hj] at h'
    exact A.nn i j _ _ p h h' (by rw [wipe_out' hi]; exact e) (by rw [wipe_out' hj]; exact e')
  · have h2 := A.pas i p h
    have hni : i ∉ vs := fun z => by rw [pa_no A1 hn i z] at h; cases h
    rw [restG_out hni]
    exact h2
  · by_cases hj : i ∈ vs
    · rcases hin hj h with q | q
      · cases q
      · exact (notOl_ob hn hj q).elim
    · rw [restG_out hj] at h
      have := A.ob i b k cs h
      rw [wipe_out' hj] at this
      exact this
  · obtain ⟨j, s, h1, h2⟩ := z
    have hj := out h1 h2
    rw [restG_out hj] at h1
    exact ⟨j, s, h1, by rw [wipe_out' hj]; exact h2⟩
/-- a mutable address that nobody owns is written -/
theorem Abs.poke {p : Addr} {o : HO} (A : Abs K mg c m g σ H) (hm : p ∈ m) (ho : ¬ Own g σ p) (h0 : c.H0 p = none) : Abs K mg c m g σ (upd H p o) where
  len := A.len
  fz := fun i d h => let ⟨v, h1, h2⟩ := A.fz i d h; ⟨v, h1, h2.updM hm⟩
  ol := fun i b l h => by
    obtain ⟨q, vs, h1, h2, h3, h4, h5⟩ := A.ol i b l h
    exact ⟨q, vs, h1, h2, by rw [upd_ne (fun z : q = p => ho (by rw [← z]; exact ⟨i, _, h, h1⟩))]; exact h3, h4.updM hm, h5⟩
  nn := A.nn
  trk := fun a h => by
    by_cases e : a = p
    · subst e; rw [upd_same]; exact fun z => nomatch z
    · rw [upd_ne e]; exact A.trk a h
  keep := fun a o n n' h => by
    rw [upd_ne (fun z : a = p => by rw [z, h0] at h; cases h)]
    exact A.keep a o n n' h
  sub := A.sub
  pas := A.pas
  pin := A.pin
  ob := fun i b k cs h => by
    obtain ⟨q, o, vs, h1, h2, h3, h4, h5, h6, h7⟩ := A.ob i b k cs h
    refine ⟨q, o, vs, h1, h2, by rw [upd_ne (fun z : q = p => ho (by rw [← z]; exact ⟨i, _, h, .inl h1⟩))]; exact h3, h4, h5.map (fun a u n e => ⟨n, by rw [upd_ne (fun z : a = p => n (by rw [z]; exact hm))]; exact e⟩) fun a z => ⟨(h5.mem a z).1, ?_⟩, h6, h7⟩
    rw [upd_ne (fun w : a = p => ho (by rw [← w]; exact ⟨i, _, h, .inr z⟩))]
  pqs := A.pqs
  xs := fun i x h => by
    obtain ⟨h1, h2, v, h3, h4⟩ := A.xs i x h
    exact ⟨h1, h2, v, by rw [upd_ne (fun z => h2 (by rw [z]; exact hm))]; exact h3, h4.updM hm⟩
theorem Stp.poke {p : Addr} {o : HO} (S : Stp m g σ H m1 g1 σ1 H1) (h : H p = none) : Stp m g σ H m1 g1 σ1 (upd H1 p o) := ⟨S.fr, fun a u n e => by
  rw [upd_ne (fun z : a = p => by rw [z, h] at e; cases e)]
  exact S.kp a u n e, S.mo, S.ow, fun a e => by
  by_cases z : a = p
  · subst z; exact absurd h e
  · rw [upd_ne z]; exact S.tk a e⟩
end
def lcL (gf : D → G → Option G) (ft : G → Option (Bool × G)) (fe : G → Option (R × G)) (vs : List Nat) : List D → G → Option (List D × G)
  | [], g => some ([], g)
  | d :: l, g => (gf d g).bind fun g1 => (ft g1).bind fun p => if p.1 = true then (fe p.2).bind fun q => (frz q.2 q.1).bind fun s => (lcL gf ft fe vs l (wipeG s.2 vs)).bind fun t => some (s.1 :: t.1, t.2)
    else lcL gf ft fe vs l (wipeG p.2 vs)
def eLc (fi : G → Option (List D × G)) (gf : D → G → Option G) (ft : G → Option (Bool × G)) (fe : G → Option (R × G)) (vs : List Nat) : G → Option (R × G) := fun g =>
  (fi g).bind fun p => if notOl p.2 vs = true ∧ p.1.length ≤ 100000 then (lcL gf ft fe vs p.1 (wipeG p.2 vs)).bind fun q => some (.nw q.1, restG q.2 p.2 vs) else none
theorem lc_ok {wi : TI} {g0 : TG} {tt : TT} {te : TE} {vs : List Nat} (hi : ∀ σ H Q, tI X.K X.mg c fi σ H Q → wi σ H Q) (hg : ∀ v σ H Q, tGw X.K X.mg c ws gf v σ H Q → g0 v σ H Q) (ht : ∀ σ H Q, tT X.K X.mg c ft σ H Q → tt σ H Q) (he : ∀ σ H Q, tE X.K X.mg c fe σ H Q → te σ H Q)
    (hw : ∀ j ∈ ws, j ∈ vs) {σ : St} {H : Hp} {Q : VK} (q : tE X.K X.mg c (eLc fi gf ft fe vs) σ H Q) : tLc wi g0 tt te vs σ H Q := by
  obtain ⟨m, g, r, g', A, e, k⟩ := q
  unfold eLc at e
  obtain ⟨⟨l, g1⟩, e1, e2⟩ := Option.bind_eq_some_iff.mp e
  dsimp only at e2
  split at e2
  · rename_i hn
    obtain ⟨hn, hz⟩ := hn
    obtain ⟨⟨fin, gE⟩, e3, e4⟩ := Option.bind_eq_some_iff.mp e2
    cases e4
    refine hi _ _ _ ⟨m, g, l, g1, A, e1, fun J m1 H1 A1 S1 jok => fun Da hD => ?_⟩
    have npa : ∀ j ∈ vs, c.pa j = none := pa_no A1 hn
    have D0 : c.H0 Da = none := A1.h0 hD
    have A2 : Abs X.K X.mg c (Da :: m1) g1 σ (upd H1 Da (.lst [])) := A1.more (Ext.new hD) hD (by rw [upd_same]; exact fun z => nomatch z)
    have A2' := A2.wipe npa
    have S2 : Stp m1 g1 σ H1 (Da :: m1) (wipeG g1 vs) (wipe σ vs) (upd H1 Da (.lst [])) := (Stp.more A1 (Ext.new hD) hD).trans Stp.wipe
    have oD : ∀ {m2 : List Addr} {g2 : G} {σ2 : St} {H2 : Hp}, Stp m1 g1 σ H1 m2 g2 σ2 H2 → Own g2 σ2 Da → Own g1 σ Da ∨ True := fun _ _ => .inr trivial
    have nD : ¬ Own g1 σ Da := fun w => A1.trk Da (A1.own_mem w) hD
    refine ⟨fun i n Hi => n = l.length - i ∧ i ≤ l.length ∧ ∃ mi gi acc ds out, Abs X.K X.mg c mi gi (wipe σ vs) Hi ∧ Stp m1 g1 σ H1 mi gi (wipe σ vs) Hi ∧ Da ∈ mi ∧ Hi Da = some (.lst acc) ∧ FzL X.K X.mg mi Hi acc ds ∧ ¬ Own gi (wipe σ vs) Da ∧
      lcL gf ft fe vs (l.drop i) gi = some (out, gE) ∧ ds ++ out = fin ∧ acc.length ≤ i, ⟨l.length, rfl, Nat.zero_le _, Da :: m1, wipeG g1 vs, [], [], fin, A2', S2, List.mem_cons_self, upd_same, .nil, fun w => nD (own_wipe w), e3, rfl, Nat.le_refl _⟩, ?_⟩
    rintro i n Hi ⟨rfl, hle, mi, gi, acc, ds, out, Ai, Si, Dm, Dh, Df, Do, ei, eo, ea⟩
    obtain ⟨js, jg⟩ := jok mi gi _ Hi Ai Si
    by_cases hlt : i < l.length
    · have hd : l[i]? = some l[i] := List.getElem?_eq_getElem hlt
      obtain ⟨go, hy⟩ := jg i _ hd
      rw [List.drop_eq_getElem_cons hlt] at ei
      simp only [lcL] at ei
      obtain ⟨g2, e5, e6⟩ := Option.bind_eq_some_iff.mp ei
      obtain ⟨⟨t, g3⟩, e7, e8⟩ := Option.bind_eq_some_iff.mp e6
      refine .inr ⟨go, fun Hj => ∃ mi gi acc ds out, Abs X.K X.mg c mi gi (wipe σ vs) Hj ∧ Stp m1 g1 σ H1 mi gi (wipe σ vs) Hj ∧ Da ∈ mi ∧ Hj Da = some (.lst acc) ∧ FzL X.K X.mg mi Hj acc ds ∧ ¬ Own gi (wipe σ vs) Da ∧
        lcL gf ft fe vs (l.drop (i + 1)) gi = some (out, gE) ∧ ds ++ out = fin ∧ acc.length ≤ i + 1, fun Hj h => ⟨l.length - (i + 1), by omega, rfl, hlt, h⟩, fun x H' y => ?_⟩
      obtain ⟨m2, A2, S2, F2⟩ := hy x H' y
      have Dh2 : H' Da = some (.lst acc) := S2.kp Da _ Do Dh
      have dt : Hi Da ≠ none := by rw [Dh]; exact fun z => nomatch z
      have Dm2 : Da ∈ m2 := (S2.mo Da Dm dt).resolve_right Do
      refine hg _ _ _ _ ⟨m2, gi, _, g2, A2, F2, e5, fun m3 σ3 H3 A3 S3 W3 => ?_⟩
      have Dh3 : H3 Da = some (.lst acc) := S3.kp Da _ Do Dh2
      have dt2 : H' Da ≠ none := by rw [Dh2]; exact fun z => nomatch z
      have Dm3 : Da ∈ m3 := (S3.mo Da Dm2 dt2).resolve_right Do
      have ownD : ∀ {m4 : List Addr} {g4 : G} {σ4 : St} {H4 : Hp}, Stp mi gi (wipe σ vs) Hi m4 g4 σ4 H4 → ¬ Own g4 σ4 Da := fun S w => by
        rcases S.ow Da w with w | w
        · exact Do w
        · exact dt w
      have S3' : Stp mi gi (wipe σ vs) Hi m3 g2 σ3 H3 := S2.trans S3
      have hl3 : σ3.length = σ.length := by rw [W3.2, wipe_length]
      have hw3 : wipe σ3 vs = wipe σ vs := wipe_again hl3 fun j hj => W3.1 j fun z => hj (hw j z)
      refine ⟨hw3, ht _ _ _ ⟨m3, g2, t, g3, A3, e7, fun m4 H4 A4 S4 => ?_⟩⟩
      have Dh4 : H4 Da = some (.lst acc) := S4.kp Da _ (ownD S3') Dh3
      have Dm4 : Da ∈ m4 := (S4.mo Da Dm3 (by rw [Dh3]; exact fun z => nomatch z)).resolve_right (ownD S3')
      have S4' := S3'.trans S4
      have Df4 : FzL X.K X.mg m4 H4 acc ds := Df.step Ai S4'
      cases t with
      | true =>
        rw [if_pos rfl] at e8
        obtain ⟨⟨r5, g5⟩, e9, e10⟩ := Option.bind_eq_some_iff.mp e8
        obtain ⟨⟨d6, g6⟩, e11, e12⟩ := Option.bind_eq_some_iff.mp e10
        obtain ⟨⟨out2, g7⟩, e13, e14⟩ := Option.bind_eq_some_iff.mp e12
        cases e14
        refine iteT (he _ _ _ ⟨m4, g3, r5, g5, A4, e9, fun v5 m5 H5 A5 S5 V5 N5 => ?_⟩)
        obtain ⟨m6, A6, S6, F6, _⟩ := frz_ok S5 A5 V5.w N5 e11
        have Dh5 : H5 Da = some (.lst acc) := S5.kp Da _ (ownD S4') Dh4
        have Dm6 : Da ∈ m6 := (S6.mo Da Dm4 (by rw [Dh4]; exact fun z => nomatch z)).resolve_right (ownD S4')
        have S6' := S4'.trans S6
        have Df6 := Df.step Ai S6'
        refine ⟨acc, Dh5, Nat.lt_of_le_of_lt (Nat.le_trans ea (Nat.le_trans hle hz)) (by decide), ?_⟩
        have A7 := (A6.wipe npa)
        rw [hw3] at A7
        have S7 : Stp m1 g1 σ H1 m6 (wipeG g6 vs) (wipe σ vs) H5 := by
          have q := (Si.trans S6').trans (Stp.wipe (vs := vs))
          rw [hw3] at q
          exact q
        have o7 : ¬ Own (wipeG g6 vs) (wipe σ vs) Da := fun w => by
          rw [← hw3] at w
          exact ownD S6' (own_wipe w)
        exact ⟨m6, wipeG g6 vs, acc ++ [v5], ds ++ [d6], out2, A7.poke Dm6 o7 D0, S7.poke hD, Dm6, upd_same, (Df6.app (.one F6)).updM Dm6, o7, e13, by rw [List.append_assoc]; exact eo, by rw [List.length_append]; exact Nat.succ_le_succ ea⟩
      | false =>
        rw [if_neg Bool.false_ne_true] at e8
        refine iteF ?_
        have A7 := (A4.wipe npa)
        rw [hw3] at A7
        have S7 : Stp m1 g1 σ H1 m4 (wipeG g3 vs) (wipe σ vs) H4 := by
          have q := (Si.trans S4').trans (Stp.wipe (vs := vs))
          rw [hw3] at q
          exact q
        have o7 : ¬ Own (wipeG g3 vs) (wipe σ vs) Da := fun w => by
          rw [← hw3] at w
          exact ownD S4' (own_wipe w)
        exact ⟨m4, wipeG g3 vs, acc, ds, out, A7, S7, Dm4, Dh4, Df4, o7, e8, eo, Nat.le_succ_of_le ea⟩
    · have ei' : i = l.length := by omega
      subst ei'
      rw [List.drop_length] at ei
      cases ei
      rw [List.append_nil] at eo
      subst eo
      obtain ⟨A9, S9⟩ := Abs.unwipe A1 hn Ai Si
      refine .inl ⟨js, k _ mi Hi A9 (S1.trans S9) ⟨Da, acc, rfl, Dm, Dh, Df, fun w => ?_, D0⟩ fun _ _ p e => ?_⟩
      · exact Do (own_rest hn w)
      · cases e
        exact Classical.byContradiction fun w => S1.tk Da w hD
  · cases e2
end
end Sm

namespace Sm
open PySem L2
section
variable {X : Cx} {c : C0} {a b e cnd o tg iter elt : Expr} {es : List Expr} {pos : Pos} {ws : List Nat} {gf : D → G → Option G} {fi : G → Option (List D × G)} {fb : G → Option O} {ft : G → Option (Bool × G)} {fe : G → Option (R × G)} {body : List Stmt} {fs : G → Option (List R × G)}
def tYesG : G → Option (Bool × G) := fun g => some (true, g)
abbrev STs (X : Cx) (c : C0) (e : List Expr) (f : G → Option (Bool × G)) : Prop := PTs X e (tT X.K X.mg c f)
theorem _root_.L2.PTs.imp {X : Cx} {e : List Expr} {t t' : TT} (h : PTs X e t) (k : ∀ σ H Q, t' σ H Q → t σ H Q) : PTs X e t' := ⟨fun pins s σ H Q I q => h.run pins s σ H Q I (k σ H Q q)⟩
theorem sts_nil : STs X c [] tYesG := pts_nil.imp fun σ H Q q => by
  obtain ⟨m, g, b, g', A, e, k⟩ := q
  cases e
  exact k m H A Stp.refl
theorem se_lc {ifs : List Expr} {scope : Scope} {own : List (Str × Nat)} (hc : X.calm = true) (hN : X.N.Nodup) (hi : SI X c tg iter fi) (ok : BlkOk X.N X.env.scope scope own)
    (hg : ∀ (s : Shared) (H : Hp) (C : Addr) (cl : List (Str × Addr)) (fp : List Addr), SGw (X.blk s H scope (compEnvC scope cl C X.env) fp) c ws tg gf) (ht : ∀ (s : Shared) (H : Hp) (C : Addr) (cl : List (Str × Addr)) (fp : List Addr), STs (X.blk s H scope (compEnvC scope cl C X.env) fp) c ifs ft)
    (he : ∀ (s : Shared) (H : Hp) (C : Addr) (cl : List (Str × Addr)) (fp : List Addr), SE (X.blk s H scope (compEnvC scope cl C X.env) fp) c elt fe) (hw : ∀ j ∈ ws, j ∈ own.map (·.2)) (hs : ∀ x, foldedSetIterable iter X.env x = pure x := by intro _; rfl) :
    SE X c (.ListComp elt [⟨tg, iter, ifs, 0⟩] scope pos) (eLc fi gf ft fe (own.map (·.2))) :=
  (pe_lc hc hN hi ok hg ht he hs).imp fun σ H Q q => lc_ok (fun _ _ _ z => z) (fun _ _ _ _ z => z) (fun _ _ _ z => z) (fun _ _ _ z => z) hw q
end

/-! ## defs -/
section
variable (K : PySem.W.Frag) (mg : Str → Option Value) (m : List Addr)
structure ArgOk (g : G) (vs : List V) (H : Hp) : Prop where
  len : g.length = vs.length
  fz : ∀ (i : Nat) (d : D), g[i]? = some (.fz d) → ∃ v, vs[i]? = some v ∧ Fz K mg m H v d
  ol : ∀ (i : Nat) (b : Bool) (l : List D), g[i]? = some (.ol b l) → b = true ∧ ∃ p ws, vs[i]? = some (.ref p) ∧ p ∈ m ∧ H p = some (.lst ws) ∧ FzL K mg m H ws l
  nn : ∀ (i j : Nat) (s t : Slot) (a : Addr), g[i]? = some s → g[j]? = some t → SOwn s ((vs[i]?).map some) a → SOwn t ((vs[j]?).map some) a → i = j
  trk : ∀ a ∈ m, H a ≠ none
  pin : ∀ (i : Nat) (v : V), g[i]? = some (.pin v) → vs[i]? = some v
  ob : ∀ (i : Nat) (b : Bool) (k : OK) (cs : List F), g[i]? = some (.ob b k cs) → b = true ∧ ∃ p o us, vs[i]? = some (.ref p) ∧ p ∈ m ∧ H p = some o ∧ HasOb mg o us k ∧ CFs K mg m H us cs ∧ (p :: qs cs).Nodup
  nx : ∀ (i : Nat) (x : D), g[i]? ≠ some (.xs x)
/-- the mutable addresses behind the call -/
def mAft (r : R) (v : V) : List Addr := match r, v with
  | .nw _, .ref p => p :: m
  | _, _ => m
structure RetOk (g : G) (vs : List V) (H : Hp) (g' : G) (r : R) (v : V) (H' : Hp) : Prop where
  keep : ∀ a o, (∀ (i : Nat) (s : Slot), g[i]? = some s → ¬ SOwn s ((vs[i]?).map some) a) → H a = some o → H' a = some o
  ol : ∀ (i : Nat) (b : Bool) (l : List D), g[i]? = some (.ol b l) → ∃ l' p ws, g'[i]? = some (.ol true l') ∧ vs[i]? = some (.ref p) ∧ H' p = some (.lst ws) ∧ FzL K mg (mAft m r v) H' ws l'
  ob : ∀ (i : Nat) (b : Bool) (k : OK) (cs : List F), g[i]? = some (.ob b k cs) → ∃ cs' p o us, g'[i]? = some (.ob true k cs') ∧ vs[i]? = some (.ref p) ∧ H' p = some o ∧ HasOb mg o us k ∧ CFs K mg (mAft m r v) H' us cs' ∧ (p :: qs cs').Nodup ∧ ∀ q ∈ qs cs', q ∈ qs cs
  tk : ∀ a ∈ m, H' a ≠ none
  res : ResV K mg m H H' v r
end
def spM (K : PySem.W.Frag) (mg : Str → Option Value) (n : Nat) (F : G → Option (R × G)) : Sp := fun vs H Q _ => vs.length = n ∧ ∃ m g r g', ArgOk K mg m g vs H ∧ F g = some (r, g') ∧ ∀ v H', RetOk K mg m g vs H g' r v H' → Q v H'
/-- how a def that may raise ends -/
inductive RX where
  | ok (r : R) (g : G) | xc (C : Str) (x : D) (g : G)
def spX (K : PySem.W.Frag) (mg : Str → Option Value) (n : Nat) (F : G → Option RX) : Sp := fun vs H Q E => vs.length = n ∧ ∃ m g rx, ArgOk K mg m g vs H ∧ F g = some rx ∧ match rx with
  | .ok r g' => ∀ v H', RetOk K mg m g vs H g' r v H' → Q v H'
  | .xc C x g' => ∀ cls d v H', RetOk K mg m g vs H g' (.d x) v H' → XOk K mg m H' C x cls d → E cls d H'
def uns (n : Nat) : G := List.replicate n .un
def retR (g : G) : R → Option R
  | .d x => some (.d x)
  | .nw l => some (.nw l)
  | .pq _ _ => none
  | .sl i => match g[i]? with
    | some (.ol false l) => some (.nw l)
    | some (.fz d) => some (.d d)
    | _ => none
/-- a def by its body: n parameters, k names in all -/
def fnM (n k : Nat) (f : G → Option O) : G → Option (R × G) := fun g => (f (g ++ uns (k - n))).bind fun o => match o with
  | .rt r g' => (retR g' r).map fun r' => (r', g'.take n)
  | .nx g' => some (.d .non, g'.take n)
  | _ => none
/-- the same, of a def that may raise -/
def fnX (n k : Nat) (f : G → Option O) : G → Option RX := fun g => (f (g ++ uns (k - n))).bind fun o => match o with
  | .rt r g' => (retR g' r).map fun r' => .ok r' (g'.take n)
  | .nx g' => some (.ok (.d .non) (g'.take n))
  | .xc C x g' => some (.xc C x (g'.take n))
  | _ => none
def paOf (g : G) (vs : List V) : Nat → Option Addr := fun i => match g[i]?, vs[i]? with
  | some (.ol _ _), some (.ref p) => some p
  | some (.ob _ _ _), some (.ref p) => some p
  | _, _ => none
def poOf (g : G) : Nat → Option (OK × List Addr) := fun i => match g[i]? with
  | some (.ob _ k cs) => some (k, qs cs)
  | _ => none
theorem paOf_inv {g : G} {vs : List V} {i : Nat} {p : Addr} (h : paOf g vs i = some p) : ((∃ b l, g[i]? = some (.ol b l)) ∨ ∃ b k cs, g[i]? = some (.ob b k cs)) ∧ vs[i]? = some (.ref p) := by
  unfold paOf at h
  split at h
  · cases h
    exact ⟨.inl ⟨_, _, ‹_›⟩, ‹_›⟩
  · cases h
    exact ⟨.inr ⟨_, _, _, ‹_›⟩, ‹_›⟩
  · cases h
theorem paOf_of {g : G} {vs : List V} {i : Nat} {p : Addr} {b : Bool} {l : List D} (h : g[i]? = some (.ol b l)) (h' : vs[i]? = some (.ref p)) : paOf g vs i = some p := by
  unfold paOf
  rw [h, h']
theorem paOf_ob {g : G} {vs : List V} {i : Nat} {p : Addr} {b : Bool} {k : OK} {cs : List F} (h : g[i]? = some (.ob b k cs)) (h' : vs[i]? = some (.ref p)) : paOf g vs i = some p := by
  unfold paOf
  rw [h, h']
theorem poOf_of {g : G} {i : Nat} {b : Bool} {k : OK} {cs : List F} (h : g[i]? = some (.ob b k cs)) : poOf g i = some (k, qs cs) := by
  unfold poOf
  rw [h]
theorem poOf_inv {g : G} {i : Nat} {k : OK} {l : List Addr} (h : poOf g i = some (k, l)) : ∃ b cs, g[i]? = some (.ob b k cs) ∧ l = qs cs := by
  unfold poOf at h
  split at h
  · cases h
    exact ⟨_, _, ‹_›, rfl⟩
  · cases h
def c0Of (m : List Addr) (g : G) (vs : List V) (H : Hp) : C0 := { H0 := H, m0 := m, pa := paOf g vs, po := poOf g }
section
variable {K : PySem.W.Frag} {mg : Str → Option Value} {m : List Addr} {g g' : G} {vs : List V} {H H' : Hp} {N : List Str} {r : R} {v : V}
theorem uns_get {n i : Nat} {s : Slot} (h : (uns n)[i]? = some s) : s = .un := by
  unfold uns at h
  rw [List.getElem?_replicate] at h
  split at h
  · cases h; rfl
  · cases h
theorem app_uns {n i : Nat} {s : Slot} (h : (g ++ uns n)[i]? = some s) : (i < g.length ∧ g[i]? = some s) ∨ s = .un := by
  by_cases hi : i < g.length
  · rw [List.getElem?_append_left hi] at h
    exact .inl ⟨hi, h⟩
  · rw [List.getElem?_append_right (by omega)] at h
    exact .inr (uns_get h)
theorem start_get {i : Nat} (hi : i < vs.length) : (L2.start N vs)[i]? = (vs[i]?).map some := by
  unfold L2.start
  rw [List.getElem?_append_left (by rw [List.length_map]; exact hi), List.getElem?_map]
theorem abs_start (A : ArgOk K mg m g vs H) (hn : vs.length ≤ N.length) : Abs K mg (c0Of m g vs H) m (g ++ uns (N.length - vs.length)) (L2.start N vs) H where
  len := by
    unfold L2.start uns
    rw [List.length_append, List.length_append, List.length_replicate, List.length_replicate, List.length_map, A.len]
  fz := fun i d h => by
    rcases app_uns h with ⟨hi, h⟩ | h
    · obtain ⟨v, h1, h2⟩ := A.fz i d h
      exact ⟨v, by rw [start_get (by rw [← A.len]; exact hi), h1]; rfl, h2⟩
    · cases h
  ol := fun i b l h => by
    rcases app_uns h with ⟨hi, h⟩ | h
    · obtain ⟨hb, p, ws, h1, h2, h3, h4⟩ := A.ol i b l h
      exact ⟨p, ws, by rw [start_get (by rw [← A.len]; exact hi), h1]; rfl, h2, h3, h4, by rw [if_pos hb]; exact ⟨paOf_of h h1, by show poOf g i = none; unfold poOf; rw [h]⟩⟩
    · cases h
  nn := fun i j s t p h h' e e' => by
    rcases app_uns h with ⟨hi, h⟩ | h
    · rcases app_uns h' with ⟨hj, h'⟩ | h'
      · rw [start_get (by rw [← A.len]; exact hi)] at e
        rw [start_get (by rw [← A.len]; exact hj)] at e'
        exact A.nn i j _ _ p h h' e e'
      · subst h'; exact e'.elim
    · subst h; exact e.elim
  trk := A.trk
  keep := fun a o _ _ h => h
  sub := fun a h => ⟨h, A.trk a h⟩
  pas := fun i p h => by
    obtain ⟨h1, h2⟩ := paOf_inv h
    rcases h1 with ⟨b, l, h1⟩ | ⟨b, k, cs, h1⟩
    · obtain ⟨hb, q, ws, h3, h4, _⟩ := A.ol i b l h1
      rw [h2] at h3; cases h3
      subst hb
      exact ⟨h4, .inl ⟨l, by rw [List.getElem?_append_left (lt_of_get h1)]; exact h1⟩⟩
    · obtain ⟨hb, q, o, us, h3, h4, _⟩ := A.ob i b k cs h1
      rw [h2] at h3; cases h3
      subst hb
      exact ⟨h4, .inr ⟨k, cs, by rw [List.getElem?_append_left (lt_of_get h1)]; exact h1⟩⟩
  pin := fun i v h => by
    rcases app_uns h with ⟨hi, h⟩ | h
    · rw [start_get (by rw [← A.len]; exact hi), A.pin i v h]; rfl
    · cases h
  ob := fun i b k cs h => by
    rcases app_uns h with ⟨hi, h⟩ | h
    · obtain ⟨hb, p, o, us, h1, h2, h3, h4, h5, h6⟩ := A.ob i b k cs h
      exact ⟨p, o, us, by rw [start_get (by rw [← A.len]; exact hi), h1]; rfl, h2, h3, h4, h5, h6, by rw [if_pos hb]; exact ⟨paOf_ob h h1, _, poOf_of h, fun _ z => z⟩⟩
    · cases h
  pqs := fun q h => by
    obtain ⟨i, k, l, h1, h2⟩ := h
    obtain ⟨b, cs, h3, rfl⟩ := poOf_inv h1
    obtain ⟨_, p, o, us, _, _, _, _, h5, _⟩ := A.ob i b k cs h3
    exact (h5.mem q h2).1
  xs := fun i x h => by
    rcases app_uns h with ⟨hi, h⟩ | h
    · exact absurd h (A.nx i x)
    · cases h
theorem take_get {α : Type} {l : List α} {n i : Nat} {x : α} (h : l[i]? = some x) (hi : i < n) : (l.take n)[i]? = some x := by
  rw [List.getElem?_take, if_pos hi]
  exact h
theorem ret_ok {m' : List Addr} {g1 : G} {σ : St} {r' : R} (A0 : ArgOk K mg m g vs H) (A : Abs K mg (c0Of m g vs H) m' g1 σ H') (V : VR K mg (c0Of m g vs H) m' g1 σ H' v r) (e : retR g1 r = some r') : RetOk K mg m g vs H (g1.take vs.length) r' v H' := by
  have hs : ∀ a ∈ m, a ∈ m' := fun a h => (A.sub a h).1
  have km : ∀ a o, a ∉ m' → H' a = some o → a ∉ m ∧ H' a = some o := fun a o n q => ⟨fun z => n (hs a z), q⟩
  -- the result, less sharp
  have res : (∃ x, r' = .d x ∧ Fz K mg m' H' v x) ∨ (∃ l p ws, r' = .nw l ∧ v = .ref p ∧ p ∈ m' ∧ H p = none ∧ H' p = some (.lst ws) ∧ FzL K mg m' H' ws l) := by
    cases r with
    | d x => cases e; exact .inl ⟨x, rfl, V⟩
    | pq i q => cases e
    | nw l =>
      cases e
      obtain ⟨p, ws, h1, h2, h3, h4, _, h6⟩ := V
      exact .inr ⟨l, p, ws, rfl, h1, h2, h6, h3, h4⟩
    | sl i =>
      have V : σ[i]? = some (some v) := V
      unfold retR at e
      dsimp only at e
      split at e
      · cases e
        rename_i l hg
        obtain ⟨p, ws, h1, h2, h3, h4, h5⟩ := A.ol i _ l hg
        rw [V] at h1; cases h1
        exact .inr ⟨l, p, ws, rfl, rfl, h2, h5, h3, h4⟩
      · cases e
        rename_i d hg
        obtain ⟨w, h1, h2⟩ := A.fz i d hg
        rw [V] at h1; cases h1
        exact .inl ⟨d, rfl, h2⟩
      · cases e
  have hm : ∀ a ∈ mAft m r' v, a ∈ m' := fun a h => by
    rcases res with ⟨x, rfl, _⟩ | ⟨l, p, ws, rfl, rfl, h2, _⟩
    · exact hs a h
    · rcases List.mem_cons.mp h with h | h
      · rw [h]; exact h2
      · exact hs a h
  have km2 : ∀ a o, a ∉ m' → H' a = some o → a ∉ mAft m r' v ∧ H' a = some o := fun a o n q => ⟨fun z => n (hm a z), q⟩
  refine ⟨fun a o n h => A.keep a o (fun i z => ?_) (fun z => ?_) h, fun i b l h => ?_, fun i b k cs h => ?_, fun a h => A.trk a (hs a h), ?_⟩
  · obtain ⟨h1, h2⟩ := paOf_inv z
    rcases h1 with ⟨b, l, h1⟩ | ⟨b, k, cs, h1⟩
    · exact n i _ h1 (by rw [h2]; rfl)
    · exact n i _ h1 (.inl (by rw [h2]; rfl))
  · obtain ⟨i, k, l, h1, h2⟩ := z
    obtain ⟨b, cs, h3, rfl⟩ := poOf_inv h1
    exact n i _ h3 (.inr h2)
  · obtain ⟨hb, p, ws, h1, _⟩ := A0.ol i b l h
    have hp : (c0Of m g vs H).pa i = some p := paOf_of h h1
    obtain ⟨_, h2⟩ := A.pas i p hp
    rcases h2 with ⟨l', h2⟩ | ⟨k', cs', h2⟩
    · obtain ⟨q, ws', h3, h4, h5, h6, h7⟩ := A.ol i true l' h2
      rw [if_pos rfl, hp] at h7
      obtain ⟨h7, _⟩ := h7
      cases h7
      exact ⟨l', p, ws', take_get h2 (lt_of_get h1), h1, h5, h6.map km2⟩
    · obtain ⟨q, o, us, _, _, _, _, _, _, h7⟩ := A.ob i true k' cs' h2
      rw [if_pos rfl] at h7
      obtain ⟨_, l0, h70, _⟩ := h7
      obtain ⟨b2, cs2, h8, _⟩ := poOf_inv h70
      rw [h] at h8; cases h8
  · obtain ⟨hb, p, o, us, h1, _⟩ := A0.ob i b k cs h
    have hp : (c0Of m g vs H).pa i = some p := paOf_ob h h1
    obtain ⟨_, h2⟩ := A.pas i p hp
    rcases h2 with ⟨l', h2⟩ | ⟨k', cs', h2⟩
    · obtain ⟨q, ws', _, _, _, _, h7⟩ := A.ol i true l' h2
      rw [if_pos rfl] at h7
      have h8 : poOf g i = none := h7.2
      rw [poOf_of h] at h8
      cases h8
    · obtain ⟨q, o', us', h3, h4, h5, h6, h8, h9, h7⟩ := A.ob i true k' cs' h2
      rw [if_pos rfl, hp] at h7
      obtain ⟨h7, l0, h10, hq⟩ := h7
      cases h7
      have h11 : some (k, qs cs) = some (k', l0) := (poOf_of (g := g) h).symm.trans h10
      have hk : k = k' := congrArg Prod.fst (Option.some.inj h11)
      have hq0 : qs cs = l0 := congrArg Prod.snd (Option.some.inj h11)
      subst hk
      rw [← hq0] at hq
      obtain ⟨_, _, _, _, _, _, _, _, h12, _⟩ := A0.ob i b k cs h
      refine ⟨cs', p, o', us', take_get h2 (lt_of_get h1), h1, h5, h6, h8.map km2 fun a z => ⟨?_, rfl⟩, h9, hq⟩
      have h13 := (h12.mem a (hq a z)).1
      rcases res with ⟨x, rfl, _⟩ | ⟨l, p, ws, rfl, rfl, _⟩
      · exact h13
      · exact List.mem_cons_of_mem _ h13
  · rcases res with ⟨x, rfl, h2⟩ | ⟨l, p, ws, rfl, rfl, h2, h3, h4, h5⟩
    · exact h2.map km
    · exact ⟨p, ws, rfl, h3, h4, h5.map fun a o n q => ⟨fun z => by
        rcases List.mem_cons.mp z with z | z
        · exact n (by rw [z]; exact h2)
        · exact n (hs a z), q⟩⟩
end
section
variable {P : Program} {w : World} {K : PySem.W.Frag} {mg : Str → Option Value} {base : Heap}
/-- a def keeps the promise of its mirror -/
theorem fn_ok {x qual : Str} {st : Stmt} {f : Addr} {fd : FuncData} {N ps : List Str} {k : Nat} {B : G → Option O} (F : Fun K x qual st f fd) (S : FnScope N ps (defScope st))
    (body : ∀ (cdv : Value) (A : Around) (outer : List Env) (s : Shared) (H : Hp) (E : XK) (c : C0), Room k (A.deeper (PyProof.Rows.envOfC qual (defScope st) s.heap.objs.size f cdv)) →
      SSs (cxOf CX0 P w K mg base N qual (defScope st) f cdv A outer s H E).nox c (defBody st) B) : FnOk P w K mg base CX0 (k + 1) f fd ps (spM K mg ps.length (fnM ps.length N.length B)) := by
  have hpl : ps.length ≤ N.length := by have := congrArg List.length S.pre; rw [List.length_take] at this; omega
  refine F.ok S (fun vs H Q E h => h.1) (fun cdv A outer s H vs Q E hr h => ?_)
  obtain ⟨hv, m, g, r, g', A0, e, kq⟩ := h
  refine ⟨_, body cdv A outer s H E (c0Of m g vs H) hr, ?_⟩
  unfold fnM at e
  obtain ⟨o, e1, e2⟩ := Option.bind_eq_some_iff.mp e
  have A1 := abs_start (N := N) A0 (by omega)
  rw [hv] at A1
  refine ⟨m, _, o, A1, e1, ?_⟩
  cases o with
  | nx g1 =>
    cases e2
    refine fun m' σ' H' A' S' => kq .non H' ?_
    have := ret_ok (r := .d .non) (v := .non) A0 A' .non rfl
    rw [hv] at this
    exact this
  | rt r1 g1 =>
    obtain ⟨r2, e3, e4⟩ := Option.map_eq_some_iff.mp e2
    cases e4
    refine fun v m' σ' H' A' V' => kq v H' ?_
    have := ret_ok A0 A' V' e3
    rw [hv] at this
    exact this
  | bk g1 => cases e2
  | ct g1 => cases e2
  | xc C x g1 => cases e2
theorem Abs.re {c c' : C0} {m : List Addr} {g : G} {σ : St} {H : Hp} (A : Abs K mg c m g σ H) (h1 : c'.H0 = c.H0) (h2 : c'.m0 = c.m0) (h3 : c'.pa = c.pa) (h4 : c'.po = c.po)
    (h5 : ∀ (i : Nat) (x : D), g[i]? = some (.xs x) → σ[i]? = some (some (.ref c'.ea)) ∧ c'.ed ∉ m ∧ ∃ v, H c'.ed = some (.xd [("value", v)]) ∧ Fz K mg m H v x) : Abs K mg c' m g σ H where
  len := A.len
  fz := A.fz
  ol := by rw [h1, h3, h4]; exact A.ol
  nn := A.nn
  trk := A.trk
  keep := by
    unfold C0.pq
    rw [h1, h3, h4]; exact A.keep
  sub := by rw [h1, h2]; exact A.sub
  pas := by rw [h2, h3]; exact A.pas
  pin := A.pin
  ob := by rw [h1, h3, h4]; exact A.ob
  pqs := by
    unfold C0.pq
    rw [h2, h4]; exact A.pqs
  xs := h5
/-- a def that may raise keeps the promise of its mirror -/
theorem fnX_ok {x qual : Str} {st : Stmt} {f : Addr} {fd : FuncData} {N ps : List Str} {k : Nat} {B : G → Option O} (F : Fun K x qual st f fd) (S : FnScope N ps (defScope st))
    (body : ∀ (cdv : Value) (A : Around) (outer : List Env) (s : Shared) (H : Hp) (E : XK) (c : C0), Room k (A.deeper (PyProof.Rows.envOfC qual (defScope st) s.heap.objs.size f cdv)) → (c.W = fun cls d _ H => E cls d H) →
      SSs (cxOf (L2.CX P w) P w K mg base N qual (defScope st) f cdv A outer s H E) c (defBody st) B) : FnOk P w K mg base (L2.CX P w) (k + 1) f fd ps (spX K mg ps.length (fnX ps.length N.length B)) := by
  have hpl : ps.length ≤ N.length := by have := congrArg List.length S.pre; rw [List.length_take] at this; omega
  refine F.okX S (fun vs H Q E h => h.1) (fun cdv A outer s H vs Q E hr h => ?_)
  obtain ⟨hv, m, g, rx, A0, e, kq⟩ := h
  refine ⟨_, body cdv A outer s H E { c0Of m g vs H with W := fun cls d _ H => E cls d H } hr rfl, ?_⟩
  unfold fnX at e
  obtain ⟨o, e1, e2⟩ := Option.bind_eq_some_iff.mp e
  have A1 := abs_start (N := N) A0 (by omega)
  rw [hv] at A1
  have to : ∀ {m : List Addr} {g1 : G} {σ : St} {H1 : Hp}, Abs K mg (c0Of m g vs H) m g1 σ H1 → Abs K mg { c0Of m g vs H with W := fun cls d _ H => E cls d H } m g1 σ H1 := fun A => A.re rfl rfl rfl rfl A.xs
  have fro : ∀ {m' : List Addr} {g1 : G} {σ : St} {H1 : Hp}, Abs K mg { c0Of m g vs H with W := fun cls d _ H => E cls d H } m' g1 σ H1 → Abs K mg (c0Of m g vs H) m' g1 σ H1 := fun A => A.re rfl rfl rfl rfl A.xs
  refine ⟨m, _, o, A1.re rfl rfl rfl rfl A1.xs, e1, ?_⟩
  cases o with
  | nx g1 =>
    cases e2
    refine fun m' σ' H' A' S' => kq .non H' ?_
    have := ret_ok (r := .d .non) (v := .non) A0 (fro A') .non rfl
    rw [hv] at this
    exact this
  | rt r1 g1 =>
    obtain ⟨r2, e3, e4⟩ := Option.map_eq_some_iff.mp e2
    cases e4
    refine fun v m' σ' H' A' V' => kq v H' ?_
    have V2 : VR K mg (c0Of m g vs H) m' g1 σ' H' v r1 := by
      cases r1 with
      | d x => exact V'
      | sl i => exact V'
      | pq i q => exact V'
      | nw l => exact V'
    have := ret_ok A0 (fro A') V2 e3
    rw [hv] at this
    exact this
  | bk g1 => cases e2
  | ct g1 => cases e2
  | xc C x g1 =>
    cases e2
    refine fun cls d m' σ' H' A' S' X' => ?_
    obtain ⟨Ca, dd, v, h1, h2, h3, h4, h5, h6⟩ := X'
    have hs : ∀ a ∈ m, a ∈ m' := fun a h => (A'.sub a h).1
    have := ret_ok (r := .d x) (v := v) A0 (fro A') h6 rfl
    rw [hv] at this
    exact kq cls d v H' this ⟨Ca, dd, v, h1, h2, h3, fun z => h4 (hs _ z), h5, h6.map fun a o n q => ⟨fun z => n (hs a z), q⟩⟩
end

/-! ## calls -/
/-! no list within -/
mutual
def noL : D → Bool
  | .tup l => noLs l
  | .lst _ => false
  | .sls _ => false
  | .ins _ _ => false
  | .non => true
  | .bl _ => true
  | .int _ => true
  | .str _ => true
def noLs : List D → Bool
  | [] => true
  | d :: l => noL d && noLs l
end
/-- what is certainly no tuple -/
def NT (H : Hp) (a : Addr) : Prop := ∃ o, H a = some o ∧ ((∃ ws, o = .lst ws) ∨ (∃ C dx fs, o = .ins C dx fs) ∨ ∃ kvs, o = .dK kvs)
theorem NT.not {H : Hp} {a : Addr} {vs : List V} (h : NT H a) (r : Rd H a (.tup vs)) : False := by
  obtain ⟨o, h1, h2⟩ := h
  rcases r with r | ⟨o', r⟩
  · rw [h1] at r
    cases r
    rcases h2 with ⟨_, h2⟩ | ⟨_, _, _, h2⟩ | ⟨_, h2⟩ <;> cases h2
  · rw [h1] at r
    cases r
    rcases h2 with ⟨_, h2⟩ | ⟨_, _, _, h2⟩ | ⟨_, h2⟩ <;> cases h2
theorem NT.lst {H : Hp} {a : Addr} {ws : List V} (h : H a = some (.lst ws)) : NT H a := ⟨_, h, .inl ⟨ws, rfl⟩⟩
section
variable {K : PySem.W.Frag} {mg : Str → Option Value} {m m' : List Addr} {H : Hp}
theorem NT.ob {a : Addr} {o : HO} {us : List V} {k : OK} (h : H a = some o) (h' : HasOb mg o us k) : NT H a := by
  cases k with
  | li => exact ⟨_, h, .inl ⟨_, h'⟩⟩
  | di ks => exact ⟨_, h, .inr (.inr ⟨_, h'.2.2⟩)⟩
  | ns C ks => obtain ⟨_, _, Ca, dx, _, h2⟩ := h'; exact ⟨_, h, .inr (.inl ⟨_, _, _, h2⟩)⟩
mutual
theorem Fz.noL (k : ∀ a ∈ m', a ∈ m ∨ NT H a) : ∀ {v : V} {d : D}, Fz K mg m H v d → Sm.noL d = true → Fz K mg m' H v d
  | _, _, .non, _ => .non
  | _, _, .bl b, _ => .bl b
  | _, _, .int i, _ => .int i
  | _, _, .str s, _ => .str s
  | _, _, .tup h t, e => .tup (by
      rcases h with ⟨h1, h2⟩ | h
      · refine .inl ⟨fun z => ?_, h2⟩
        rcases k _ z with q | q
        · exact h1 q
        · exact q.not h2
      · exact .inr h) (FzL.noL k t (by simpa only [Sm.noL] using e))
  | _, _, .lst h e t, q => by simp only [Sm.noL] at q; cases q
  | _, _, .sls h t, q => by simp only [Sm.noL] at q; cases q
  | _, _, .ins h e hc t, q => by simp only [Sm.noL] at q; cases q
theorem FzL.noL (k : ∀ a ∈ m', a ∈ m ∨ NT H a) : ∀ {v : List V} {d : List D}, FzL K mg m H v d → Sm.noLs d = true → FzL K mg m' H v d
  | _, _, .nil, _ => .nil
  | _, _, .cons h t, e => by
    simp only [Sm.noLs, Bool.and_eq_true] at e
    exact .cons (Fz.noL k h e.1) (FzL.noL k t e.2)
end
end
/-- the slots that are lent -/
def lent : List R → List Nat
  | [] => []
  | .sl i :: rs => i :: lent rs
  | .pq i _ :: rs => i :: lent rs
  | .nw _ :: rs => lent rs
  | .d _ :: rs => lent rs
def noRs : R → Bool
  | .d x => noL x
  | .nw l => noLs l
  | .sl _ => false
  | .pq _ _ => false
/-- an argument that is lent to be read -/
def ldC (g : G) : R → Option D
  | .sl i => match g[i]? with
    | some (.ob _ k cs) => obD k cs
    | _ => ld g (.sl i)
  | r => ld g r
def ldsC (g : G) : List R → Option (List D)
  | [] => some []
  | r :: rs => (ldC g r).bind fun d => (ldsC g rs).bind fun ds => some (d :: ds)
/-- the lists lent to be read are owned no more -/
def meltAll (g : G) : List Nat → Option G
  | [] => some g
  | i :: is => (meltAll g is).bind fun g' => match g'[i]? with
    | some (.ol false l) => some (g'.set i (.fz (.lst l)))
    | some (.ol true _) => none
    | some (.ob _ _ _) => none
    | _ => some g'
theorem melt_at {g : G} : ∀ {is : List Nat} {g1 : G}, meltAll g is = some g1 → g1.length = g.length ∧ ∀ j, (j ∉ is → g1[j]? = g[j]?) ∧ (j ∈ is → (∃ l, g[j]? = some (.ol false l) ∧ g1[j]? = some (.fz (.lst l))) ∨ (((∀ b l, g[j]? ≠ some (.ol b l)) ∧ ∀ b k cs, g[j]? ≠ some (.ob b k cs)) ∧ g1[j]? = g[j]?))
  | [], g1, e => by
    cases e
    exact ⟨rfl, fun j => ⟨fun _ => rfl, fun h => nomatch h⟩⟩
  | i :: is, g1, e => by
    unfold meltAll at e
    obtain ⟨g', e1, e2⟩ := Option.bind_eq_some_iff.mp e
    obtain ⟨hl, ih⟩ := melt_at e1
    have old : ∀ {s : Slot}, g'[i]? = some s → (∀ b l, s ≠ .ol b l) → (∀ b k cs, s ≠ .ob b k cs) → (∃ l, g[i]? = some (.ol false l) ∧ g'[i]? = some (.fz (.lst l))) ∨ (((∀ b l, g[i]? ≠ some (.ol b l)) ∧ ∀ b k cs, g[i]? ≠ some (.ob b k cs)) ∧ g'[i]? = g[i]?) := fun {s} h n n2 => by
      by_cases hi : i ∈ is
      · exact (ih i).2 hi
      · have q := (ih i).1 hi
        exact .inr ⟨⟨fun b l z => by rw [← q, h] at z; cases z; exact n b l rfl, fun b k cs z => by rw [← q, h] at z; cases z; exact n2 b k cs rfl⟩, q⟩
    cases hq : g'[i]? with
    | none =>
      rw [hq] at e2
      cases e2
      refine ⟨hl, fun j => ⟨fun h => (ih j).1 fun z => h (List.mem_cons_of_mem _ z), fun h => ?_⟩⟩
      rcases List.mem_cons.mp h with rfl | h
      · have : g[j]? = none := by
          rw [List.getElem?_eq_none_iff] at hq ⊢
          omega
        exact .inr ⟨⟨fun b l z => (by rw [this] at z; cases z), fun b k cs z => (by rw [this] at z; cases z)⟩, by rw [hq, this]⟩
      · exact (ih j).2 h
    | some s =>
      rw [hq] at e2
      cases s with
      | un =>
        cases e2
        refine ⟨hl, fun j => ⟨fun h => (ih j).1 fun z => h (List.mem_cons_of_mem _ z), fun h => ?_⟩⟩
        rcases List.mem_cons.mp h with rfl | h
        · exact old hq (fun _ _ z => nomatch z) fun _ _ _ z => nomatch z
        · exact (ih j).2 h
      | pin v =>
        cases e2
        refine ⟨hl, fun j => ⟨fun h => (ih j).1 fun z => h (List.mem_cons_of_mem _ z), fun h => ?_⟩⟩
        rcases List.mem_cons.mp h with rfl | h
        · exact old hq (fun _ _ z => nomatch z) fun _ _ _ z => nomatch z
        · exact (ih j).2 h
      | xs x =>
        cases e2
        refine ⟨hl, fun j => ⟨fun h => (ih j).1 fun z => h (List.mem_cons_of_mem _ z), fun h => ?_⟩⟩
        rcases List.mem_cons.mp h with rfl | h
        · exact old hq (fun _ _ z => nomatch z) fun _ _ _ z => nomatch z
        · exact (ih j).2 h
      | ob b k cs => cases e2
      | fz d =>
        cases e2
        refine ⟨hl, fun j => ⟨fun h => (ih j).1 fun z => h (List.mem_cons_of_mem _ z), fun h => ?_⟩⟩
        rcases List.mem_cons.mp h with rfl | h
        · exact old hq (fun _ _ z => nomatch z) fun _ _ _ z => nomatch z
        · exact (ih j).2 h
      | ol b l =>
        cases b with
        | true => cases e2
        | false =>
          cases e2
          have gi : g[i]? = some (.ol false l) := by
            by_cases hi : i ∈ is
            · rcases (ih i).2 hi with ⟨l', _, h⟩ | ⟨h, h'⟩
              · rw [hq] at h; cases h
              · rw [← h', hq] at h; exact absurd rfl (h.1 false l)
            · rw [← (ih i).1 hi]; exact hq
          refine ⟨by rw [List.length_set]; exact hl, fun j => ⟨fun h => ?_, fun h => ?_⟩⟩
          · rw [List.getElem?_set_ne fun z => h (by rw [z]; exact List.mem_cons_self)]
            exact (ih j).1 fun z => h (List.mem_cons_of_mem _ z)
          · by_cases hj : i = j
            · subst hj
              exact .inl ⟨l, gi, List.getElem?_set_self (lt_of_get hq)⟩
            · rw [List.getElem?_set_ne hj]
              rcases List.mem_cons.mp h with h | h
              · exact absurd h.symm hj
              · exact (ih j).2 h
/-- the addresses of the lists that slots own -/
def bAd (g : G) (σ : St) (is : List Nat) : List Addr := is.flatMap fun (j : Nat) => match g[j]?, σ[j]? with
  | some (.ol _ _), some (some (.ref p)) => [p]
  | some (.ob _ _ cs), some (some (.ref p)) => p :: qs cs
  | _, _ => []
theorem bAd_of {g : G} {σ : St} {is : List Nat} {p : Addr} (h : p ∈ bAd g σ is) : ∃ (j : Nat) (s : Slot), j ∈ is ∧ g[j]? = some s ∧ SOwn s σ[j]? p := by
  obtain ⟨j, hj, e⟩ := List.mem_flatMap.mp h
  split at e
  · rename_i b l q h1 h2
    rw [List.mem_singleton.mp e]
    exact ⟨j, _, hj, h1, h2⟩
  · rename_i b k cs q h1 h2
    refine ⟨j, .ob b k cs, hj, h1, ?_⟩
    show σ[j]? = some (some (.ref p)) ∨ p ∈ qs cs
    rcases List.mem_cons.mp e with e | e
    · rw [e]
      exact Or.inl h2
    · exact Or.inr e
  · cases e
theorem bAd_ol {g : G} {σ : St} {is : List Nat} {p : Addr} {j : Nat} {b : Bool} {l : List D} (hj : j ∈ is) (h1 : g[j]? = some (.ol b l)) (h2 : σ[j]? = some (some (.ref p))) : p ∈ bAd g σ is :=
  List.mem_flatMap.mpr ⟨j, hj, by rw [h1, h2]; exact List.mem_singleton.mpr rfl⟩
theorem bAd_ob {g : G} {σ : St} {is : List Nat} {p a : Addr} {j : Nat} {b : Bool} {k : OK} {cs : List F} (hj : j ∈ is) (h1 : g[j]? = some (.ob b k cs)) (h2 : σ[j]? = some (some (.ref p))) (h : a = p ∨ a ∈ qs cs) : a ∈ bAd g σ is :=
  List.mem_flatMap.mpr ⟨j, hj, by rw [h1, h2]; exact List.mem_cons.mpr h⟩
def lessL (m : List Addr) (l : List Addr) : List Addr := m.filter fun a => decide (a ∉ l)
theorem mem_lessL {m l : List Addr} {a : Addr} : a ∈ lessL m l ↔ a ∈ m ∧ a ∉ l := by
  unfold lessL
  rw [List.mem_filter, decide_eq_true_eq]
section
variable {K : PySem.W.Frag} {mg : Str → Option Value} {c : C0} {m m1 m2 : List Addr} {g g1 g2 : G} {σ σ1 σ2 : St} {H H1 H2 : Hp} {v : V} {r : R} {d : D}
theorem Fz.lessL {l : List Addr} (h : Fz K mg m H v d) : Fz K mg (Sm.lessL m l) H v d := h.map fun a o n e => ⟨fun q => n (mem_lessL.mp q).1, e⟩
theorem FzL.lessL {l : List Addr} {vs : List V} {ds : List D} (h : FzL K mg m H vs ds) : FzL K mg (Sm.lessL m l) H vs ds := h.map fun a o n e => ⟨fun q => n (mem_lessL.mp q).1, e⟩
theorem CFs.at {q : Addr} : ∀ {vs : List V} {cs : List F}, CFs K mg m H vs cs → q ∈ qs cs → ∃ ws, H q = some (.lst ws)
  | _, _, .nil, h => nomatch h
  | _, _, .cons (f := .fd d) h t, z => CFs.at t z
  | _, _, .cons (f := .fl p l) h t, z => by
    rcases List.mem_cons.mp z with z | z
    · obtain ⟨_, _, ws, h1, _⟩ := h
      rw [z]
      exact ⟨ws, h1⟩
    · exact CFs.at t z
theorem Abs.nt (A : Abs K mg c m g σ H) {i : Nat} {s : Slot} {a : Addr} (h : g[i]? = some s) (o : SOwn s σ[i]? a) : NT H a := by
  cases s with
  | ol b l =>
    obtain ⟨p, ws, h1, _, h2, _⟩ := A.ol i b l h
    have o : σ[i]? = some (some (.ref a)) := o
    rw [o] at h1; cases h1
    exact .lst h2
  | ob b k cs =>
    obtain ⟨p, u, us, h1, _, h2, h3, h4, _⟩ := A.ob i b k cs h
    rcases o with o | o
    · rw [o] at h1; cases h1
      exact .ob h2 h3
    · obtain ⟨ws, h5⟩ := h4.at o
      exact .lst h5
  | un => exact o.elim
  | fz d => exact o.elim
  | pin v => exact o.elim
  | xs x => exact o.elim
theorem Abs.meltAll {is : List Nat} (A : Abs K mg c m g σ H) (e : Sm.meltAll g is = some g1) : Abs K mg c (Sm.lessL m (bAd g σ is)) g1 σ H ∧ Stp m g σ H (Sm.lessL m (bAd g σ is)) g1 σ H := by
  obtain ⟨hl, hx⟩ := melt_at e
  have ob : ∀ {j : Nat} {b : Bool} {l : List D}, g1[j]? = some (.ol b l) → j ∉ is ∧ g[j]? = some (.ol b l) := fun {j b l} h => by
    by_cases hj : j ∈ is
    · rcases (hx j).2 hj with ⟨l', _, h'⟩ | ⟨h1, h2⟩
      · rw [h] at h'; cases h'
      · rw [h2] at h; exact absurd h (h1.1 b l)
    · exact ⟨hj, by rw [← (hx j).1 hj]; exact h⟩
  have nb : ∀ {j : Nat} {b : Bool} {l : List D} {p : Addr}, j ∉ is → g[j]? = some (.ol b l) → σ[j]? = some (some (.ref p)) → p ∉ bAd g σ is := fun {j b l p} hj h h' z => by
    obtain ⟨k, s, hk, h1, h2⟩ := bAd_of z
    exact hj (by rw [A.nn j k _ _ p h h1 h' h2]; exact hk)
  have nt : ∀ {j : Nat} {l : List D}, j ∈ is → g[j]? ≠ some (.ol true l) := fun {j l} hj h => by
    rcases (hx j).2 hj with ⟨l', h', _⟩ | ⟨h1, _⟩
    · rw [h] at h'; cases h'
    · exact h1.1 _ _ h
  have own1 : ∀ {j : Nat} {t : Slot} {a : Addr}, g1[j]? = some t → SOwn t σ[j]? a → g[j]? = some t ∧ a ∉ bAd g σ is := fun {j t a} h o => by
    have hg : g[j]? = some t := by
      by_cases hj : j ∈ is
      · rcases (hx j).2 hj with ⟨l', _, h'⟩ | ⟨_, h2⟩
        · rw [h] at h'; cases h'; exact o.elim
        · rw [← h2]; exact h
      · rw [← (hx j).1 hj]; exact h
    refine ⟨hg, fun z => ?_⟩
    obtain ⟨k, s, hk, h1, h2⟩ := bAd_of z
    have e := A.nn j k _ _ a hg h1 o h2
    subst e
    rw [hg] at h1
    cases h1
    rcases (hx j).2 hk with ⟨l', h3, h4⟩ | ⟨⟨h3, h4⟩, h5⟩
    · rw [h] at h4
      cases h4
      exact o
    · cases t with
      | ol b l => exact h3 b l hg
      | ob b k cs => exact h4 b k cs hg
      | un => exact o
      | fz d => exact o
      | pin v => exact o
      | xs x => exact o
  refine ⟨⟨by rw [hl]; exact A.len, fun i d h => ?_, fun i b l h => ?_, fun i j s t p h h' o o' => A.nn i j _ _ p (own1 h o).1 (own1 h' o').1 o o', fun a h => A.trk a (mem_lessL.mp h).1, A.keep, fun a h => ⟨mem_lessL.mpr ⟨(A.sub a h).1, fun z => ?_⟩, (A.sub a h).2⟩, fun i p h => ?_, fun i v h => by
      by_cases hj : i ∈ is
      · rcases (hx i).2 hj with ⟨l', _, h2⟩ | ⟨_, h2⟩
        · rw [h] at h2; cases h2
        · exact A.pin i v (by rw [← h2]; exact h)
      · exact A.pin i v (by rw [← (hx i).1 hj]; exact h), fun i b k cs h => ?_, A.pqs, fun i x h => by
      have hgi : g[i]? = some (.xs x) := by
        by_cases hj : i ∈ is
        · rcases (hx i).2 hj with ⟨l', _, h2⟩ | ⟨_, h2⟩
          · rw [h] at h2; cases h2
          · rw [← h2]; exact h
        · rw [← (hx i).1 hj]; exact h
      obtain ⟨h1, h2, v, h3, h4⟩ := A.xs i x hgi
      exact ⟨h1, fun z => h2 (mem_lessL.mp z).1, v, h3, h4.lessL⟩⟩,
    ⟨fun a h => .inl (mem_lessL.mp h).1, fun _ _ _ h => h, fun a h _ => ?_, fun a h => .inl ?_, fun _ h => h⟩⟩
  · by_cases hj : i ∈ is
    · rcases (hx i).2 hj with ⟨l', h1, h2⟩ | ⟨_, h2⟩
      · rw [h] at h2; cases h2
        obtain ⟨p, vs, h3, h4, h5, h6, _⟩ := A.ol i _ _ h1
        exact ⟨.ref p, h3, .lst (fun z => (mem_lessL.mp z).2 (bAd_ol hj h1 h3)) h5 h6.lessL⟩
      · rw [h2] at h
        obtain ⟨v, h3, h4⟩ := A.fz i d h
        exact ⟨v, h3, h4.lessL⟩
    · rw [(hx i).1 hj] at h
      obtain ⟨v, h3, h4⟩ := A.fz i d h
      exact ⟨v, h3, h4.lessL⟩
  · obtain ⟨hj, h⟩ := ob h
    obtain ⟨p, vs, h3, h4, h5, h6, h7⟩ := A.ol i _ _ h
    exact ⟨p, vs, h3, mem_lessL.mpr ⟨h4, nb hj h h3⟩, h5, h6.lessL, h7⟩
  · obtain ⟨k, s, hk, h1, h2⟩ := bAd_of z
    rcases (hx k).2 hk with ⟨l', h8, _⟩ | ⟨⟨h8, h9⟩, _⟩
    · rw [h1] at h8; cases h8
      obtain ⟨p, vs, h3, h4, h5, h6, h7⟩ := A.ol k _ _ h1
      have h2 : σ[k]? = some (some (.ref a)) := h2
      rw [h2] at h3; cases h3
      exact (A.sub a h).2 h7
    · cases s with
      | ol b l => exact h8 b l h1
      | ob b k cs => exact h9 b k cs h1
      | un => exact h2
      | fz d => exact h2
      | pin v => exact h2
      | xs x => exact h2
  · obtain ⟨h1, h2⟩ := A.pas i p h
    refine ⟨h1, ?_⟩
    rcases h2 with ⟨l, h2⟩ | ⟨k, cs, h2⟩
    · exact .inl ⟨l, by rw [(hx i).1 fun z => nt z h2]; exact h2⟩
    · refine .inr ⟨k, cs, ?_⟩
      by_cases hj : i ∈ is
      · rcases (hx i).2 hj with ⟨l', h3, _⟩ | ⟨_, h3⟩
        · rw [h2] at h3; cases h3
        · rw [h3]; exact h2
      · rw [(hx i).1 hj]; exact h2
  · have hgi : g[i]? = some (.ob b k cs) := by
      by_cases hj : i ∈ is
      · rcases (hx i).2 hj with ⟨l', _, h'⟩ | ⟨_, h2⟩
        · rw [h] at h'; cases h'
        · rw [← h2]; exact h
      · rw [← (hx i).1 hj]; exact h
    obtain ⟨p, o, us, h1, h2, h3, h4, h5, h6, h7⟩ := A.ob i b k cs hgi
    refine ⟨p, o, us, h1, mem_lessL.mpr ⟨h2, (own1 h (.inl h1)).2⟩, h3, h4, h5.map (fun a o n e => ⟨fun q => n (mem_lessL.mp q).1, e⟩) fun a z => ⟨mem_lessL.mpr ⟨(h5.mem a z).1, (own1 h (.inr z)).2⟩, rfl⟩, h6, h7⟩
  · by_cases z : a ∈ bAd g σ is
    · obtain ⟨k, s, hk, h1, h2⟩ := bAd_of z
      exact .inr ⟨k, _, h1, h2⟩
    · exact .inl (mem_lessL.mpr ⟨h, z⟩)
  · obtain ⟨j, t, h1, h2⟩ := h
    exact ⟨j, t, (own1 h1 h2).1, h2⟩
/-- the fresh lists among results are handed over -/
theorem dropNw : ∀ {vs : List V} {rs : List R} {m1 : List Addr}, Stp m g σ H m1 g1 σ H1 → Abs K mg c m1 g1 σ H1 → VRws K mg c m1 g1 σ H1 vs rs → Nws H vs rs →
    ∃ m2, Abs K mg c m2 g1 σ H1 ∧ Stp m g σ H m2 g1 σ H1 ∧ (∀ a ∈ m2, a ∈ m1) ∧ VRws K mg c m2 g1 σ H1 vs rs ∧ ∀ (j : Nat) (l : List D), rs[j]? = some (.nw l) → ∃ p ws, vs[j]? = some (.ref p) ∧ p ∉ m2 ∧ H1 p = some (.lst ws) ∧ FzL K mg m2 H1 ws l
  | [], [], m1, S, A, _, _ => ⟨m1, A, S, fun _ z => z, trivial, fun j l h => nomatch h⟩
  | v :: vs, .nw l :: rs, m1, S, A, h, n => by
    obtain ⟨p, ws, e, hp, hv, ho, h0⟩ := h.1
    obtain ⟨m2, A2, S2, F2, M2, O2⟩ := frz_ok (r := .nw l) (d := .lst l) (g2 := g1) S A h.1 n.1 rfl
    obtain ⟨m3, A3, S3, M3, V3, W3⟩ := dropNw S2 A2 (h.2.sub M2 O2) n.2
    refine ⟨m3, A3, S3, fun a z => M2 a (M3 a z), ⟨h.1.sub (fun a z => M2 a (M3 a z)) fun _ z => z, V3⟩, fun j l' hj => ?_⟩
    cases j with
    | zero =>
      cases hj
      cases F2 with
      | lst n1 x1 t1 =>
        cases e
        exact ⟨_, _, rfl, fun z => n1 (M3 _ z), x1, t1.map fun a o z w => ⟨fun q => z (M3 a q), w⟩⟩
    | succ j => exact W3 j l' hj
  | v :: vs, .d x :: rs, m1, S, A, h, n => by
    obtain ⟨m3, A3, S3, M3, V3, W3⟩ := dropNw S A h.2 n.2
    refine ⟨m3, A3, S3, M3, ⟨h.1.sub M3 fun _ z => z, V3⟩, fun j l' hj => ?_⟩
    cases j with
    | zero => cases hj
    | succ j => exact W3 j l' hj
  | v :: vs, .sl i :: rs, m1, S, A, h, n => by
    obtain ⟨m3, A3, S3, M3, V3, W3⟩ := dropNw S A h.2 n.2
    refine ⟨m3, A3, S3, M3, ⟨h.1, V3⟩, fun j l' hj => ?_⟩
    cases j with
    | zero => cases hj
    | succ j => exact W3 j l' hj
  | v :: vs, .pq i q :: rs, m1, S, A, h, n => by
    obtain ⟨m3, A3, S3, M3, V3, W3⟩ := dropNw S A h.2 n.2
    refine ⟨m3, A3, S3, M3, ⟨h.1, V3⟩, fun j l' hj => ?_⟩
    cases j with
    | zero => cases hj
    | succ j => exact W3 j l' hj
  | [], _ :: _, _, _, _, h, _ => h.elim
  | _ :: _, [], _, _, _, h, _ => h.elim
/-- the parts of a composite that is lent -/
theorem CFs.fzF {is : List Addr} : ∀ {vs : List V} {cs : List F} (ks : List Str), CFs K mg m H vs cs → (∀ a ∈ qs cs, a ∈ is) → FzF K mg (Sm.lessL m is) H (ks.zip vs) (ks.zip (cs.map fdOf))
  | _, _, [], _, _ => .nil
  | _, _, _ :: _, .nil, _ => .nil
  | _, _, k :: ks, .cons (f := .fd d) h t, hb => .cons (Fz.lessL h) (CFs.fzF ks t fun a z => hb a (by unfold qs; exact z))
  | _, _, k :: ks, .cons (f := .fl q l) h t, hb => by
    obtain ⟨e, _, ws, h1, h2⟩ := h
    subst e
    exact .cons (.lst (fun z => (mem_lessL.mp z).2 (hb q List.mem_cons_self)) h1 h2.lessL) (CFs.fzF ks t fun a z => hb a (List.mem_cons_of_mem _ z))
theorem args_fz (A : Abs K mg c m g σ H) : ∀ {vs : List V} {rs : List R} {ds : List D} {is : List Nat}, VRws K mg c m g σ H vs rs → (∀ i ∈ lent rs, i ∈ is) → (∀ (j : Nat) (l : List D), rs[j]? = some (.nw l) → ∃ p ws, vs[j]? = some (.ref p) ∧ p ∉ m ∧ H p = some (.lst ws) ∧ FzL K mg m H ws l) → ldsC g rs = some ds →
    FzL K mg (Sm.lessL m (bAd g σ is)) H vs ds
  | [], [], _, _, _, _, _, e => by cases e; exact .nil
  | v :: vs, r :: rs, _, is, h, hi, hn, e => by
    unfold ldsC at e
    obtain ⟨d, e1, e2⟩ := Option.bind_eq_some_iff.mp e
    obtain ⟨ds, e3, e4⟩ := Option.bind_eq_some_iff.mp e2
    cases e4
    refine .cons ?_ (args_fz A h.2 (fun i z => hi i (by cases r <;> first | exact z | exact List.mem_cons_of_mem _ z)) (fun j l z => hn (j + 1) l z) e3)
    cases r with
    | d x => cases e1; exact Fz.lessL h.1
    | nw l =>
      cases e1
      obtain ⟨p, ws, h1, h2, h3, h4⟩ := hn 0 l rfl
      cases h1
      exact .lst (fun z => h2 (mem_lessL.mp z).1) h3 h4.lessL
    | sl i =>
      have hs : σ[i]? = some (some v) := h.1
      simp only [ldC, ld] at e1
      cases q : g[i]? with
      | none => rw [q] at e1; cases e1
      | some s =>
        rw [q] at e1
        cases s with
        | un => cases e1
        | pin v => cases e1
        | xs x => cases e1
        | ob b k cs =>
          have e1 : obD k cs = some d := e1
          obtain ⟨p, o, us, h1, h2, h3, h4, h5, _⟩ := A.ob i b k cs q
          rw [hs] at h1; cases h1
          cases k with
          | li => cases e1
          | di ks => cases e1
          | ns C ks =>
            cases e1
            obtain ⟨_, hl, Ca, dx, hC, ho⟩ := h4
            subst ho
            refine .ins (fun z => (mem_lessL.mp z).2 (bAd_ob (hi i List.mem_cons_self) q hs (.inl rfl))) h3 hC ?_
            exact CFs.fzF ks h5 fun a z => bAd_ob (hi i List.mem_cons_self) q hs (.inr z)
        | fz x =>
          cases e1
          obtain ⟨w, h1, h2⟩ := A.fz i _ q
          rw [hs] at h1; cases h1
          exact h2.lessL
        | ol b l =>
          cases e1
          obtain ⟨p, ws, h1, h2, h3, h4, _⟩ := A.ol i b l q
          rw [hs] at h1; cases h1
          exact .lst (fun z => (mem_lessL.mp z).2 (bAd_ol (hi i List.mem_cons_self) q hs)) h3 h4.lessL
    | pq i p =>
      have hs : v = .ref p := h.1
      have e1 : ld g (.pq i p) = some d := e1
      simp only [ld] at e1
      split at e1
      · rename_i b k cs hg
        obtain ⟨l, h1, h2⟩ := Option.map_eq_some_iff.mp e1
        subst h2
        obtain ⟨p0, o, us, h3, _, _, _, h5, _⟩ := A.ob i b k cs hg
        obtain ⟨h6, ws, h7, h8⟩ := ldQ_ok h5 h1
        subst hs
        exact .lst (fun z => (mem_lessL.mp z).2 (bAd_ob (hi i List.mem_cons_self) hg h3 (.inr h6))) h7 h8.lessL
      · cases e1
  | [], _ :: _, _, _, h, _, _, _ => h.elim
  | _ :: _, [], _, _, h, _, _, _ => h.elim
/-- behind a call that changed nothing tracked but, if anything, the list at p that slot i owns -/
theorem afterM (A : Abs K mg c m g σ H) {P : Addr → Prop} (keep : ∀ a o, ¬ P a → H a = some o → H2 a = some o)
    (hg : g2.length = g.length) (hP : ∀ a, P a → Own g σ a)
    (hs : ∀ (j : Nat), (g2[j]? = g[j]? ∧ ∀ (s : Slot) (p : Addr), g[j]? = some s → SOwn s σ[j]? p → ¬ P p) ∨
      (∃ (b : Bool) (l l' : List D) (p : Addr) (ws : List V), g[j]? = some (.ol b l) ∧ σ[j]? = some (some (.ref p)) ∧ g2[j]? = some (.ol b l') ∧ H2 p = some (.lst ws) ∧ FzL K mg (mAft m r v) H2 ws l') ∨
      ∃ (b : Bool) (k : OK) (cs cs' : List F) (p : Addr) (o : HO) (us : List V), g[j]? = some (.ob b k cs) ∧ σ[j]? = some (some (.ref p)) ∧ g2[j]? = some (.ob b k cs') ∧ H2 p = some o ∧ HasOb mg o us k ∧ CFs K mg (mAft m r v) H2 us cs' ∧ (p :: qs cs').Nodup ∧ (∀ q ∈ qs cs', q ∈ qs cs))
    (tkk : ∀ a ∈ m, H2 a ≠ none) (res : ResV K mg m H H2 v r) :
    Abs K mg c (mAft m r v) g2 σ H2 ∧ Stp m g σ H (mAft m r v) g2 σ H2 ∧ VR K mg c (mAft m r v) g2 σ H2 v r ∧ Nw H v r := by
  have nP : ∀ a, a ∉ m → ¬ P a := fun a n z => n (A.own_mem (hP a z))
  have shape : ∀ a ∈ mAft m r v, a ∈ m ∨ (H a = none ∧ H2 a ≠ none) := fun a h => by
    cases r with
    | d x => exact .inl h
    | sl i => exact res.elim
    | pq i q => exact res.elim
    | nw l =>
      obtain ⟨p, ws, rfl, h1, h2, _⟩ := res
      rcases List.mem_cons.mp h with h | h
      · subst h; exact .inr ⟨h1, by rw [h2]; exact fun z => nomatch z⟩
      · exact .inl h
  have inc : ∀ a ∈ m, a ∈ mAft m r v := fun a h => by
    cases r with
    | d x => exact h
    | sl i => exact res.elim
    | pq i q => exact res.elim
    | nw l =>
      obtain ⟨p, ws, rfl, _⟩ := res
      exact List.mem_cons_of_mem _ h
  have up : ∀ a o, a ∉ m → H a = some o → a ∉ mAft m r v ∧ H2 a = some o := fun a o n e => ⟨fun z => (shape a z).elim n fun q => (by
    have q1 := q.1
    rw [e] at q1
    cases q1), keep a o (nP a n) e⟩
  have back : ∀ {j : Nat} {s : Slot} {a : Addr}, g2[j]? = some s → SOwn s σ[j]? a → ∃ t, g[j]? = some t ∧ SOwn t σ[j]? a := fun {j s a} h o => by
    rcases hs j with ⟨h1, _⟩ | ⟨b', l0, l2, p, ws, h1, h2, h3, _⟩ | ⟨b', k, cs, cs', p, o', us, h1, h2, h3, _, _, _, _, h4⟩
    · exact ⟨s, by rw [← h1]; exact h, o⟩
    · rw [h] at h3; cases h3; exact ⟨_, h1, o⟩
    · rw [h] at h3; cases h3
      refine ⟨_, h1, ?_⟩
      rcases o with o | o
      · exact .inl o
      · exact .inr (h4 a o)
  have trk2 : ∀ a, H a ≠ none → H2 a ≠ none := fun a h => by
    by_cases z : P a
    · exact tkk a (A.own_mem (hP a z))
    · cases q : H a with
      | none => exact absurd q h
      | some o => rw [keep a o z q]; exact fun z => nomatch z
  have A2 : Abs K mg c (mAft m r v) g2 σ H2 := by
    refine ⟨by rw [hg]; exact A.len, fun i d h => ?_, fun i b l h => ?_, fun i j s t p h h' o o' => ?_, fun a h => ?_, fun a o n n' h => ?_, fun a h => ⟨inc a (A.sub a h).1, (A.sub a h).2⟩, fun i p h => ?_, fun i v h => ?_, fun i b k cs h => ?_, A.pqs, fun i x h => ?_⟩
    · rcases hs i with ⟨h1, _⟩ | ⟨b', l0, l', p, ws, _, _, h3, _⟩ | ⟨b', k, cs, cs', p, o', us, _, _, h3, _⟩
      · rw [h1] at h
        obtain ⟨w, h2, h3⟩ := A.fz i d h
        exact ⟨w, h2, h3.map up⟩
      · rw [h] at h3; cases h3
      · rw [h] at h3; cases h3
    · rcases hs i with ⟨h1, n⟩ | ⟨b', l0, l', p, ws, h1, h2, h3, h4, h5⟩ | ⟨b', k, cs, cs', p, o', us, _, _, h3, _⟩
      · rw [h1] at h
        obtain ⟨p, ws, h2, h3, h4, h5, h6⟩ := A.ol i b l h
        exact ⟨p, ws, h2, inc p h3, keep p _ (n _ p h h2) h4, h5.map up, h6⟩
      · rw [h] at h3; cases h3
        obtain ⟨q, ws', h6, h7, h8, h9, h10⟩ := A.ol i b _ h1
        rw [h2] at h6; cases h6
        exact ⟨p, ws, h2, inc p h7, h4, h5, h10⟩
      · rw [h] at h3; cases h3
    · obtain ⟨t1, h1, h2⟩ := back h o
      obtain ⟨t2, h3, h4⟩ := back h' o'
      exact A.nn i j _ _ p h1 h3 h2 h4
    · rcases shape a h with q | ⟨_, q⟩
      · exact trk2 a (A.trk a q)
      · exact q
    · refine keep a o (fun z => ?_) (A.keep a o n n' h)
      obtain ⟨j, s, h1, h2⟩ := hP a z
      cases s with
      | ol b l =>
        obtain ⟨q, ws, h3, _, _, _, h4⟩ := A.ol j b l h1
        have h2 : σ[j]? = some (some (.ref a)) := h2
        rw [h2] at h3; cases h3
        cases b with
        | true => exact n j h4.1
        | false => rw [show c.H0 a = none from h4] at h; cases h
      | ob b k cs =>
        obtain ⟨q, o', us, h3, _, _, _, _, _, h4⟩ := A.ob j b k cs h1
        cases b with
        | true =>
          have h4 : c.pa j = some q ∧ po_ (c.po j) k (qs cs) := h4
          rcases h2 with h2 | h2
          · rw [h2] at h3; cases h3
            exact n j h4.1
          · obtain ⟨_, l0, h5, h6⟩ := h4
            exact n' ⟨j, k, _, h5, h6 a h2⟩
        | false =>
          have h4 : c.H0 q = none ∧ ∀ q ∈ qs cs, c.H0 q = none := h4
          rcases h2 with h2 | h2
          · rw [h2] at h3; cases h3
            rw [h4.1] at h; cases h
          · rw [h4.2 a h2] at h; cases h
      | un => exact h2
      | fz d => exact h2
      | pin v => exact h2
      | xs x => exact h2
    · obtain ⟨h1, h2⟩ := A.pas i p h
      refine ⟨h1, ?_⟩
      rcases hs i with ⟨h3, _⟩ | ⟨b', l0, l', q, ws, h3, _, h4, _⟩ | ⟨b', k, cs, cs', q, o', us, h3, _, h4, _⟩
      · rw [h3]; exact h2
      · rw [h3] at h2
        rcases h2 with ⟨l, h2⟩ | ⟨_, _, h2⟩
        · cases h2; exact .inl ⟨l', h4⟩
        · cases h2
      · rw [h3] at h2
        rcases h2 with ⟨l, h2⟩ | ⟨_, _, h2⟩
        · cases h2
        · cases h2; exact .inr ⟨k, cs', h4⟩
    · rcases hs i with ⟨h1, _⟩ | ⟨b', l0, l', p, ws, _, _, h3, _⟩ | ⟨b', k, cs, cs', p, o', us, _, _, h3, _⟩
      · rw [h1] at h
        exact A.pin i v h
      · rw [h] at h3; cases h3
      · rw [h] at h3; cases h3
    · rcases hs i with ⟨h1, n⟩ | ⟨b', l0, l', p, ws, _, _, h3, _⟩ | ⟨b', k', cs0, cs', p, o', us, h1, h2, h3, h4, h5, h6, h7⟩
      · rw [h1] at h
        obtain ⟨p, o, us, h2, h3, h4, h5, h6, h7, h8⟩ := A.ob i b k cs h
        refine ⟨p, o, us, h2, inc p h3, keep p _ (n _ p h (.inl h2)) h4, h5, h6.map up fun q z => ⟨inc q (h6.mem q z).1, ?_⟩, h7, h8⟩
        cases e : H q with
        | none => exact absurd e (h6.mem q z).2
        | some o2 => exact keep q o2 (n _ q h (.inr z)) e
      · rw [h] at h3; cases h3
      · rw [h] at h3; cases h3
        obtain ⟨q, o2, us2, h8, h9, h10, h11, h12, h13, h14⟩ := A.ob i b k _ h1
        rw [h2] at h8; cases h8
        refine ⟨p, o', us, h2, inc p h9, h4, h5, h6, h7.1, ?_⟩
        split
        · rename_i hb
          rw [if_pos hb] at h14
          obtain ⟨h15, l0, h16, h17⟩ := h14
          exact ⟨h15, l0, h16, fun q z => h17 q (h7.2 q z)⟩
        · rename_i hb
          rw [if_neg hb] at h14
          exact ⟨h14.1, fun q z => h14.2 q (h7.2 q z)⟩
    · rcases hs i with ⟨h1, _⟩ | ⟨b', l0, l', p, ws, _, _, h3, _⟩ | ⟨b', k, cs, cs', p, o', us, _, _, h3, _⟩
      · rw [h1] at h
        obtain ⟨h2, h3, v, h4, h5⟩ := A.xs i x h
        obtain ⟨h6, h7⟩ := up _ _ h3 h4
        exact ⟨h2, h6, v, h7, h5.map up⟩
      · rw [h] at h3; cases h3
      · rw [h] at h3; cases h3
  have S2 : Stp m g σ H (mAft m r v) g2 σ H2 := ⟨fun a h => (shape a h).imp id fun z => z.1, fun a o n h => keep a o (fun z => n (hP a z)) h, fun a h _ => .inl (inc a h), fun a h => by
    obtain ⟨j, s, h1, h2⟩ := h
    obtain ⟨t, h3, h4⟩ := back h1 h2
    exact .inl ⟨j, t, h3, h4⟩, trk2⟩
  refine ⟨A2, S2, ?_, fun l e p q => ?_⟩
  · cases r with
    | d x => exact res
    | sl i => exact res.elim
    | pq i q => exact res.elim
    | nw l =>
      obtain ⟨p, ws, rfl, h1, h2, h3⟩ := res
      exact ⟨p, ws, rfl, List.mem_cons_self, h2, h3, fun w => by
        rcases S2.ow p w with w | w
        · exact A.trk p (A.own_mem w) h1
        · obtain ⟨j, s, h4, h5⟩ := ‹Own g2 σ p›
          obtain ⟨t, h6, h7⟩ := back h4 h5
          exact A.trk p (A.own_mem ⟨j, t, h6, h7⟩) h1, A.h0 h1⟩
  · subst e
    subst q
    obtain ⟨p', ws, e, h1, _⟩ := res
    cases e
    exact h1
theorem after (A : Abs K mg c m g σ H) {P : Addr → Prop} (keep : ∀ a o, ¬ P a → H a = some o → H2 a = some o)
    (hg : g2.length = g.length) (hP : ∀ a, P a → Own g σ a)
    (hs : ∀ (j : Nat), (g2[j]? = g[j]? ∧ ∀ (s : Slot) (p : Addr), g[j]? = some s → SOwn s σ[j]? p → ¬ P p) ∨
      (∃ (b : Bool) (l l' : List D) (p : Addr) (ws : List V), g[j]? = some (.ol b l) ∧ σ[j]? = some (some (.ref p)) ∧ g2[j]? = some (.ol b l') ∧ H2 p = some (.lst ws) ∧ FzL K mg (mAft m r v) H2 ws l') ∨
      ∃ (b : Bool) (k : OK) (cs cs' : List F) (p : Addr) (o : HO) (us : List V), g[j]? = some (.ob b k cs) ∧ σ[j]? = some (some (.ref p)) ∧ g2[j]? = some (.ob b k cs') ∧ H2 p = some o ∧ HasOb mg o us k ∧ CFs K mg (mAft m r v) H2 us cs' ∧ (p :: qs cs').Nodup ∧ (∀ q ∈ qs cs', q ∈ qs cs))
    (tkk : ∀ a ∈ m, H2 a ≠ none) (res : ResV K mg m H H2 v r) :
    ∃ m2, Abs K mg c m2 g2 σ H2 ∧ Stp m g σ H m2 g2 σ H2 ∧ VR K mg c m2 g2 σ H2 v r ∧ Nw H v r := ⟨_, afterM A keep hg hP hs tkk res⟩
end
end Sm

namespace Sm
open PySem L2
section
variable {K : PySem.W.Frag} {mg : Str → Option Value} {c : C0} {m m1 m2 : List Addr} {g g1 g2 : G} {σ σ1 σ2 : St} {H H1 H2 : Hp} {v : V} {r : R} {d : D}
theorem fzs_get {ds : List D} {i : Nat} {s : Slot} (h : (ds.map Slot.fz)[i]? = some s) : ∃ d, ds[i]? = some d ∧ s = .fz d := by
  rw [List.getElem?_map] at h
  obtain ⟨d, h1, h2⟩ := Option.map_eq_some_iff.mp h
  exact ⟨d, h1, h2.symm⟩
theorem arg0 {vs : List V} {ds : List D} (t : FzL K mg m H vs ds) (ht : ∀ a ∈ m, H a ≠ none) : ArgOk K mg m (ds.map .fz) vs H where
  len := by rw [List.length_map, t.length]
  fz := fun i d h => by
    obtain ⟨d', h1, h2⟩ := fzs_get h
    cases h2
    exact t.get h1
  ol := fun i b l h => by obtain ⟨d', h1, h2⟩ := fzs_get h; cases h2
  nn := fun i j s t p h h' e => by obtain ⟨d', h1, h2⟩ := fzs_get h; cases h2; exact e.elim
  trk := ht
  pin := fun i v h => by obtain ⟨d', h1, h2⟩ := fzs_get h; cases h2
  ob := fun i b k cs h => by obtain ⟨d', h1, h2⟩ := fzs_get h; cases h2
  nx := fun i x h => by obtain ⟨d', h1, h2⟩ := fzs_get h; cases h2
theorem arg1 {p : Addr} {ws : List V} {l : List D} {vs : List V} {ds : List D} (hm : p ∈ m) (hp : H p = some (.lst ws)) (hw : FzL K mg m H ws l) (t : FzL K mg m H vs ds) (ht : ∀ a ∈ m, H a ≠ none) : ArgOk K mg m (.ol true l :: ds.map .fz) (.ref p :: vs) H where
  len := by rw [List.length_cons, List.length_cons, List.length_map, t.length]
  fz := fun i d h => by
    cases i with
    | zero => cases h
    | succ i =>
      obtain ⟨d', h1, h2⟩ := fzs_get h
      cases h2
      exact t.get h1
  ol := fun i b l h => by
    cases i with
    | zero => cases h; exact ⟨rfl, p, ws, rfl, hm, hp, hw⟩
    | succ i => obtain ⟨d', h1, h2⟩ := fzs_get h; cases h2
  nn := fun i j s t p h h' e e' => by
    cases i with
    | zero =>
      cases j with
      | zero => rfl
      | succ j => obtain ⟨d', h1, h2⟩ := fzs_get h'; cases h2; exact e'.elim
    | succ i => obtain ⟨d', h1, h2⟩ := fzs_get h; cases h2; exact e.elim
  trk := ht
  pin := fun i v h => by
    cases i with
    | zero => cases h
    | succ i => obtain ⟨d', h1, h2⟩ := fzs_get h; cases h2
  ob := fun i b k cs h => by
    cases i with
    | zero => cases h
    | succ i => obtain ⟨d', h1, h2⟩ := fzs_get h; cases h2
  nx := fun i x h => by
    cases i with
    | zero => cases h
    | succ i => obtain ⟨d', h1, h2⟩ := fzs_get h; cases h2
theorem arg1o {p : Addr} {o : HO} {us : List V} {kk : OK} {cs : List F} {vs : List V} {ds : List D} (hm : p ∈ m) (hp : H p = some o) (ho : HasOb mg o us kk) (hw : CFs K mg m H us cs) (hd : (p :: qs cs).Nodup) (t : FzL K mg m H vs ds) (ht : ∀ a ∈ m, H a ≠ none) : ArgOk K mg m (.ob true kk cs :: ds.map .fz) (.ref p :: vs) H where
  len := by rw [List.length_cons, List.length_cons, List.length_map, t.length]
  fz := fun i d h => by
    cases i with
    | zero => cases h
    | succ i =>
      obtain ⟨d', h1, h2⟩ := fzs_get h
      cases h2
      exact t.get h1
  ol := fun i b l h => by
    cases i with
    | zero => cases h
    | succ i => obtain ⟨d', h1, h2⟩ := fzs_get h; cases h2
  nn := fun i j s t p h h' e e' => by
    cases i with
    | zero =>
      cases j with
      | zero => rfl
      | succ j => obtain ⟨d', h1, h2⟩ := fzs_get h'; cases h2; exact e'.elim
    | succ i => obtain ⟨d', h1, h2⟩ := fzs_get h; cases h2; exact e.elim
  trk := ht
  pin := fun i v h => by
    cases i with
    | zero => cases h
    | succ i => obtain ⟨d', h1, h2⟩ := fzs_get h; cases h2
  ob := fun i b k cs h => by
    cases i with
    | zero => cases h; exact ⟨rfl, p, o, us, rfl, hm, hp, ho, hw, hd⟩
    | succ i => obtain ⟨d', h1, h2⟩ := fzs_get h; cases h2
  nx := fun i x h => by
    cases i with
    | zero => cases h
    | succ i => obtain ⟨d', h1, h2⟩ := fzs_get h; cases h2
def noF : F → Bool
  | .fd d => noL d
  | .fl _ l => noLs l
def noFs (cs : List F) : Bool := cs.all noF
theorem CFs.noL {m' : List Addr} (k : ∀ a ∈ m', a ∈ m ∨ NT H a) (s : ∀ a ∈ m, a ∈ m') : ∀ {vs : List V} {cs : List F}, CFs K mg m H vs cs → noFs cs = true → CFs K mg m' H vs cs
  | _, _, .nil, _ => .nil
  | _, _, .cons (f := .fd d) h t, e => by
    unfold noFs at e
    rw [List.all_cons, Bool.and_eq_true] at e
    exact .cons (Fz.noL k h e.1) (CFs.noL k s t e.2)
  | _, _, .cons (f := .fl q l) h t, e => by
    unfold noFs at e
    rw [List.all_cons, Bool.and_eq_true] at e
    obtain ⟨h1, h2, ws, h3, h4⟩ := h
    exact .cons ⟨h1, s _ h2, ws, h3, FzL.noL k h4 e.1⟩ (CFs.noL k s t e.2)
theorem less_aft {l : List Addr} : ∀ a ∈ mAft (lessL m l) r v, a ∈ mAft m r v := fun a h => by
  cases r with
  | d x => exact (mem_lessL.mp h).1
  | sl i => exact (mem_lessL.mp h).1
  | pq i q => exact (mem_lessL.mp h).1
  | nw l =>
    cases v with
    | ref p =>
      rcases List.mem_cons.mp h with h | h
      · exact List.mem_cons.mpr (.inl h)
      · exact List.mem_cons_of_mem _ (mem_lessL.mp h).1
    | _ => exact (mem_lessL.mp h).1
/-- what comes back of a call that had less to take care of -/
theorem noL_up {B : List Addr} (hB : ∀ a ∈ B, NT H2 a) : ∀ a ∈ mAft m r v, a ∈ mAft (lessL m B) r v ∨ NT H2 a := fun a h => by
  have base : a ∈ m → a ∈ lessL m B ∨ NT H2 a := fun h => by
    by_cases z : a ∈ B
    · exact .inr (hB a z)
    · exact .inl (mem_lessL.mpr ⟨h, z⟩)
  cases r with
  | d x => exact base h
  | sl i => exact base h
  | pq i q => exact base h
  | nw l =>
    cases v with
    | ref p =>
      rcases List.mem_cons.mp h with h | h
      · exact .inl (List.mem_cons.mpr (.inl h))
      · exact (base h).imp (List.mem_cons_of_mem _) id
    | _ => exact base h
theorem res_up {B : List Addr} (hB : ∀ a ∈ B, NT H2 a) (hn : noRs r = true) (h : ResV K mg (lessL m B) H H2 v r) : ResV K mg m H H2 v r := by
  cases r with
  | d x => exact Fz.noL (noL_up (r := .d x) (v := v) hB) h hn
  | sl i => exact h
  | pq i q => exact h
  | nw l =>
    obtain ⟨p, ws, rfl, h1, h2, h3⟩ := h
    exact ⟨p, ws, rfl, h1, h2, FzL.noL (noL_up (r := .nw l) (v := .ref p) hB) h3 hn⟩
end
section
variable {X : Cx} {c : C0} {a b e : Expr} {es : List Expr} {pos : Pos} {fe : G → Option (R × G)} {fs : G → Option (List R × G)}
def eCall0 (F : G → Option (R × G)) (fs : G → Option (List R × G)) : G → Option (R × G) := fun g => (fs g).bind fun p => (ldsC p.2 p.1).bind fun ds => (F (ds.map .fz)).bind fun q =>
  (if noRs q.1 = true then some p.2 else meltAll p.2 (lent p.1)).bind fun g1 => some (q.1, g1)
def eCall1 (F : G → Option (R × G)) (fs : G → Option (List R × G)) : G → Option (R × G) := fun g => (fs g).bind fun p => match p.1 with
  | .sl i :: rs => if i ∈ lent rs then none else match p.2[i]? with
    | some (.ol b l) => (ldsC p.2 rs).bind fun ds => (F (.ol true l :: ds.map .fz)).bind fun q => match List.head? q.2 with
      | some (.ol true l') => (if noRs q.1 = true ∧ noLs l' = true then some p.2 else meltAll p.2 (lent rs)).bind fun g1 => some (q.1, g1.set i (.ol b l'))
      | _ => none
    | some (.ob b k cs) => (ldsC p.2 rs).bind fun ds => (F (.ob true k cs :: ds.map .fz)).bind fun q => match List.head? q.2 with
      | some (.ob true _ cs') => (if noRs q.1 = true ∧ noFs cs' = true then some p.2 else meltAll p.2 (lent rs)).bind fun g1 => some (q.1, g1.set i (.ob b k cs'))
      | _ => none
    | _ => none
  | _ => none
theorem VRs.len {K : PySem.W.Frag} {mg : Str → Option Value} {m : List Addr} {g : G} {σ : St} {H : Hp} : ∀ {vs : List V} {rs : List R}, VRs K mg c m g σ H vs rs → vs.length = rs.length
  | [], [], _ => rfl
  | _ :: _, _ :: _, h => congrArg Nat.succ (VRs.len h.2)
  | [], _ :: _, h => h.elim
  | _ :: _, [], h => h.elim
theorem call0_ok {F : G → Option (R × G)} {n : Nat} {σ : St} {H : Hp} {Q : VK} (hn : ∀ g r g', F g = some (r, g') → g.length = n) (q : tE X.K X.mg c (eCall0 F fs) σ H Q) : tA X.K X.mg c fs σ H fun vs H1 => spM X.K X.mg n F (vs ++ []) H1 Q E0 := by
  obtain ⟨m, g, r, g', A, e, k⟩ := q
  unfold eCall0 at e
  obtain ⟨⟨rs, g1⟩, e1, e2⟩ := Option.bind_eq_some_iff.mp e
  obtain ⟨ds, e3, e4⟩ := Option.bind_eq_some_iff.mp e2
  obtain ⟨⟨r', gc⟩, e5, e6⟩ := Option.bind_eq_some_iff.mp e4
  obtain ⟨g2, e7, e8⟩ := Option.bind_eq_some_iff.mp e6
  cases e8
  refine ⟨m, g, rs, g1, A, e1, fun vs m1 H1 A1 S1 V1 N1 => ?_⟩
  show spM X.K X.mg n F (vs ++ []) H1 Q E0
  rw [List.append_nil]
  obtain ⟨m2, A2, S2, M2, V2, W2⟩ := dropNw S1 A1 V1.w N1
  have F2 := args_fz A2 (is := lent rs) V2 (fun _ z => z) W2 e3
  have hl : vs.length = n := by
    have := hn _ _ _ e5
    rw [List.length_map, ← F2.length] at this
    exact this
  refine ⟨hl, _, _, r', gc, arg0 F2 (fun a h => A2.trk a (mem_lessL.mp h).1), e5, fun v H2 ret => ?_⟩
  have keep : ∀ a o, ¬ (fun _ : Addr => False) a → H1 a = some o → H2 a = some o := fun a o _ h => ret.keep a o (fun i s z w => by obtain ⟨d', _, h2⟩ := fzs_get z; cases h2; exact w) h
  have hB : ∀ a ∈ bAd g1 σ (lent rs), NT H2 a := fun a h => by
    obtain ⟨j, s, _, h1, h2⟩ := bAd_of h
    obtain ⟨o, h3, h4⟩ := A2.nt h1 h2
    exact ⟨o, keep a _ id h3, h4⟩
  have tk0 : ∀ {m3 : List Addr} {g3 : G}, Abs X.K X.mg c m3 g3 σ H1 → ∀ a ∈ m3, H2 a ≠ none := fun {m3 g3} A3 a h => by
    cases w : H1 a with
    | none => exact absurd w (A3.trk a h)
    | some o => rw [keep a o id w]; exact fun z => nomatch z
  dsimp only at e7
  split at e7
  · rename_i hnr
    cases e7
    obtain ⟨m3, A3, S3, V3, N3⟩ := after (r := r') (v := v) A2 keep rfl (fun _ z => z.elim) (fun j => .inl ⟨rfl, fun _ _ _ _ z => z⟩) (tk0 A2) (res_up hB hnr ret.res)
    exact k v m3 H2 A3 (S2.trans S3) V3 (N3.back S2)
  · obtain ⟨A4, S4⟩ := A2.meltAll e7
    obtain ⟨m3, A3, S3, V3, N3⟩ := after (r := r') (v := v) A4 keep rfl (fun _ z => z.elim) (fun j => .inl ⟨rfl, fun _ _ _ _ z => z⟩) (tk0 A4) ret.res
    exact k v m3 H2 A3 ((S2.trans S4).trans S3) V3 (N3.back (S2.trans S4))
theorem call1_ok {F : G → Option (R × G)} {n : Nat} {σ : St} {H : Hp} {Q : VK} (hn : ∀ g r g', F g = some (r, g') → g.length = n) (q : tE X.K X.mg c (eCall1 F fs) σ H Q) : tA X.K X.mg c fs σ H fun vs H1 => spM X.K X.mg n F (vs ++ []) H1 Q E0 := by
  obtain ⟨m, g, r, g', A, e, k⟩ := q
  unfold eCall1 at e
  obtain ⟨⟨rs0, g1⟩, e1, e2⟩ := Option.bind_eq_some_iff.mp e
  clear e
  dsimp only at e2
  split at e2
  · rename_i i rs
    split at e2
    · cases e2
    · rename_i hi
      split at e2
      · rename_i b l hg
        obtain ⟨ds, e3, e4⟩ := Option.bind_eq_some_iff.mp e2
        obtain ⟨⟨r', gc⟩, e5, e6⟩ := Option.bind_eq_some_iff.mp e4
        clear e2 e4
        dsimp only at e6
        split at e6
        · rename_i l' hgc
          obtain ⟨g2, e7, e8⟩ := Option.bind_eq_some_iff.mp e6
          clear e6
          cases e8
          refine ⟨m, g, _, g1, A, e1, fun vs0 m1 H1 A1 S1 V1 N1 => ?_⟩
          show spM X.K X.mg n F (vs0 ++ []) H1 Q E0
          rw [List.append_nil]
          match vs0, V1, N1 with
          | v0 :: vs, V1, N1 =>
          obtain ⟨m2, A2, S2, M2, V2, W2⟩ := dropNw (vs := vs) (rs := rs) S1 A1 (VRs.w V1.2) N1.2
          have F2 := args_fz A2 (is := lent rs) V2 (fun _ z => z) W2 e3
          have hv0 : σ[i]? = some (some v0) := V1.1
          obtain ⟨p, ws, h1, h2, h3, h4, h5⟩ := A2.ol i b l hg
          rw [hv0] at h1; cases h1
          have pB : p ∉ bAd g1 σ (lent rs) := fun z => by
            obtain ⟨j, s, hj, h6, h7⟩ := bAd_of z
            exact hi (by rw [A2.nn i j _ _ p hg h6 hv0 h7]; exact hj)
          have hl : (V.ref p :: vs).length = n := by
            have := hn _ _ _ e5
            rw [List.length_cons, List.length_map, ← F2.length] at this
            exact this
          refine ⟨hl, _, _, r, gc, arg1 (mem_lessL.mpr ⟨h2, pB⟩) h3 h4.lessL F2 (fun a h => A2.trk a (mem_lessL.mp h).1), e5, fun v H2 ret => ?_⟩
          have keep : ∀ a o, ¬ (fun a : Addr => a = p) a → H1 a = some o → H2 a = some o := fun a o n h => ret.keep a o (fun j s z w => by
            cases j with
            | zero => cases z; cases w; exact n rfl
            | succ j => obtain ⟨d', _, h2⟩ := fzs_get z; cases h2; exact w) h
          obtain ⟨l2, p2, ws2, h6, h7, h8, h9⟩ := ret.ol 0 true l rfl
          cases h7
          rw [List.head?_eq_getElem?] at hgc
          rw [hgc] at h6; cases h6
          have hB : ∀ a ∈ bAd g1 σ (lent rs), NT H2 a := fun a h => by
            obtain ⟨j, s, _, h1, h2⟩ := bAd_of h
            obtain ⟨o, h3, h4⟩ := A2.nt h1 h2
            exact ⟨o, keep a _ (fun z : a = p => pB (by rw [← z]; exact h)) h3, h4⟩
          have tk1 : ∀ a ∈ m2, H2 a ≠ none := fun a h => by
            by_cases z : a = p
            · rw [z, h8]; exact fun z => nomatch z
            · cases w : H1 a with
              | none => exact absurd w (A2.trk a h)
              | some o => rw [keep a o z w]; exact fun z => nomatch z
          have ownP : ∀ {g : G}, g[i]? = some (.ol b l) → ∀ a, (fun a : Addr => a = p) a → Own g σ a := fun {g} hg a z => by
            have z : a = p := z
            subst z
            exact ⟨i, _, hg, hv0⟩
          have slots : ∀ {m3 : List Addr} {g3 : G}, Abs X.K X.mg c m3 g3 σ H1 → g3[i]? = some (.ol b l) → FzL X.K X.mg (mAft m3 r v) H2 ws2 l' → ∀ (j : Nat), ((g3.set i (.ol b l'))[j]? = g3[j]? ∧ ∀ (s : Slot) (q : Addr), g3[j]? = some s → SOwn s σ[j]? q → ¬ (fun a : Addr => a = p) q) ∨
              (∃ (b' : Bool) (l1 l2 : List D) (q : Addr) (ws : List V), g3[j]? = some (.ol b' l1) ∧ σ[j]? = some (some (.ref q)) ∧ (g3.set i (.ol b l'))[j]? = some (.ol b' l2) ∧ H2 q = some (.lst ws) ∧ FzL X.K X.mg (mAft m3 r v) H2 ws l2) ∨
              ∃ (b' : Bool) (k : OK) (cs cs' : List Sm.F) (q : Addr) (o : HO) (us : List V), g3[j]? = some (.ob b' k cs) ∧ σ[j]? = some (some (.ref q)) ∧ (g3.set i (.ol b l'))[j]? = some (.ob b' k cs') ∧ H2 q = some o ∧ HasOb X.mg o us k ∧ CFs X.K X.mg (mAft m3 r v) H2 us cs' ∧ (q :: qs cs').Nodup ∧ (∀ a ∈ qs cs', a ∈ qs cs) := fun {m3 g3} A3 h t j => by
            by_cases hj : i = j
            · subst hj
              exact .inr (.inl ⟨b, l, l', p, ws2, h, hv0, List.getElem?_set_self (lt_of_get h), h8, t⟩)
            · refine .inl ⟨List.getElem?_set_ne hj, fun s q w w' z => hj ?_⟩
              have z : q = p := z
              subst z
              exact A3.nn i j _ _ q h w hv0 w'
          split at e7
          · rename_i hnr
            cases e7
            have h9' : FzL X.K X.mg (mAft m2 r v) H2 ws2 l' := FzL.noL (noL_up hB) h9 hnr.2
            obtain ⟨m3, A3, S3, V3, N3⟩ := after (r := r) (v := v) A2 keep List.length_set (ownP hg) (slots A2 hg h9') tk1 (res_up hB hnr.1 ret.res)
            exact k v m3 H2 A3 (S2.trans S3) V3 (N3.back S2)
          · obtain ⟨A4, S4⟩ := A2.meltAll e7
            have hg4 : g2[i]? = some (.ol b l) := by rw [((melt_at e7).2 i).1 hi]; exact hg
            obtain ⟨m3, A3, S3, V3, N3⟩ := after (r := r) (v := v) A4 keep List.length_set (ownP hg4) (slots A4 hg4 h9) (fun a z => tk1 a (mem_lessL.mp z).1) ret.res
            exact k v m3 H2 A3 ((S2.trans S4).trans S3) V3 (N3.back (S2.trans S4))
        · cases e6
      · rename_i b kk cs hg
        obtain ⟨ds, e3, e4⟩ := Option.bind_eq_some_iff.mp e2
        obtain ⟨⟨r', gc⟩, e5, e6⟩ := Option.bind_eq_some_iff.mp e4
        clear e2 e4
        dsimp only at e6
        split at e6
        · rename_i kk' cs' hgc
          obtain ⟨g2, e7, e8⟩ := Option.bind_eq_some_iff.mp e6
          clear e6
          cases e8
          refine ⟨m, g, _, g1, A, e1, fun vs0 m1 H1 A1 S1 V1 N1 => ?_⟩
          show spM X.K X.mg n F (vs0 ++ []) H1 Q E0
          rw [List.append_nil]
          match vs0, V1, N1 with
          | v0 :: vs, V1, N1 =>
          obtain ⟨m2, A2, S2, M2, V2, W2⟩ := dropNw (vs := vs) (rs := rs) S1 A1 (VRs.w V1.2) N1.2
          have F2 := args_fz A2 (is := lent rs) V2 (fun _ z => z) W2 e3
          have hv0 : σ[i]? = some (some v0) := V1.1
          obtain ⟨p, o, us, h1, h2, h3, h4, h5, hnd, h6⟩ := A2.ob i b kk cs hg
          rw [hv0] at h1; cases h1
          have pB : ∀ q, q = p ∨ q ∈ qs cs → q ∉ bAd g1 σ (lent rs) := fun q hq z => by
            obtain ⟨j, s, hj, h6, h7⟩ := bAd_of z
            refine hi ?_
            rw [A2.nn i j _ _ q hg h6 (by
              rcases hq with hq | hq
              · subst hq; exact .inl hv0
              · exact .inr hq) h7]
            exact hj
          have hl : (V.ref p :: vs).length = n := by
            have := hn _ _ _ e5
            rw [List.length_cons, List.length_map, ← F2.length] at this
            exact this
          have h5' : CFs X.K X.mg (lessL m2 (bAd g1 σ (lent rs))) H1 us cs := h5.map (fun a o n e => ⟨fun q => n (mem_lessL.mp q).1, e⟩) fun q z => ⟨mem_lessL.mpr ⟨(h5.mem q z).1, pB q (.inr z)⟩, rfl⟩
          refine ⟨hl, _, _, r, gc, arg1o (mem_lessL.mpr ⟨h2, pB p (.inl rfl)⟩) h3 h4 h5' hnd F2 (fun a h => A2.trk a (mem_lessL.mp h).1), e5, fun v H2 ret => ?_⟩
          have keep : ∀ a o, ¬ (fun a : Addr => a = p ∨ a ∈ qs cs) a → H1 a = some o → H2 a = some o := fun a o n h => ret.keep a o (fun j s z w => by
            cases j with
            | zero =>
              cases z
              rcases w with w | w
              · cases w; exact n (.inl rfl)
              · exact n (.inr w)
            | succ j => obtain ⟨d', _, h2⟩ := fzs_get z; cases h2; exact w) h
          obtain ⟨cs2, p2, o2, us2, h7, h8, h9, h10, h11, hnd2, h12⟩ := ret.ob 0 true kk cs rfl
          cases h8
          rw [List.head?_eq_getElem?] at hgc
          rw [hgc] at h7; cases h7
          have hB : ∀ a ∈ bAd g1 σ (lent rs), NT H2 a := fun a h => by
            obtain ⟨j, s, _, h1, h2⟩ := bAd_of h
            obtain ⟨o, h3, h4⟩ := A2.nt h1 h2
            exact ⟨o, keep a _ (fun z => pB a z h) h3, h4⟩
          have tk1 : ∀ a ∈ m2, H2 a ≠ none := fun a h => by
            by_cases z : a = p ∨ a ∈ qs cs
            · refine ret.tk a (mem_lessL.mpr ⟨h, pB a z⟩)
            · cases w : H1 a with
              | none => exact absurd w (A2.trk a h)
              | some o => rw [keep a o z w]; exact fun z => nomatch z
          have ownP : ∀ {g : G}, g[i]? = some (.ob b kk cs) → ∀ a, (fun a : Addr => a = p ∨ a ∈ qs cs) a → Own g σ a := fun {g} hg a z => by
            rcases z with z | z
            · subst z
              exact ⟨i, _, hg, .inl hv0⟩
            · exact ⟨i, _, hg, .inr z⟩
          have slots : ∀ {m3 : List Addr} {g3 : G}, Abs X.K X.mg c m3 g3 σ H1 → g3[i]? = some (.ob b kk cs) → CFs X.K X.mg (mAft m3 r v) H2 us2 cs' → ∀ (j : Nat), ((g3.set i (.ob b kk cs'))[j]? = g3[j]? ∧ ∀ (s : Slot) (q : Addr), g3[j]? = some s → SOwn s σ[j]? q → ¬ (fun a : Addr => a = p ∨ a ∈ qs cs) q) ∨
              (∃ (b' : Bool) (l1 l2 : List D) (q : Addr) (ws : List V), g3[j]? = some (.ol b' l1) ∧ σ[j]? = some (some (.ref q)) ∧ (g3.set i (.ob b kk cs'))[j]? = some (.ol b' l2) ∧ H2 q = some (.lst ws) ∧ FzL X.K X.mg (mAft m3 r v) H2 ws l2) ∨
              ∃ (b' : Bool) (k : OK) (cs1 cs2 : List Sm.F) (q : Addr) (o : HO) (us : List V), g3[j]? = some (.ob b' k cs1) ∧ σ[j]? = some (some (.ref q)) ∧ (g3.set i (.ob b kk cs'))[j]? = some (.ob b' k cs2) ∧ H2 q = some o ∧ HasOb X.mg o us k ∧ CFs X.K X.mg (mAft m3 r v) H2 us cs2 ∧ (q :: qs cs2).Nodup ∧ (∀ a ∈ qs cs2, a ∈ qs cs1) := fun {m3 g3} A3 h t j => by
            by_cases hj : i = j
            · subst hj
              exact .inr (.inr ⟨b, kk, cs, cs', p, o2, us2, h, hv0, List.getElem?_set_self (lt_of_get h), h9, h10, t, hnd2, h12⟩)
            · refine .inl ⟨List.getElem?_set_ne hj, fun s q w w' z => hj ?_⟩
              exact A3.nn i j _ _ q h w (by
                rcases z with z | z
                · subst z; exact .inl hv0
                · exact .inr z) w'
          split at e7
          · rename_i hnr
            cases e7
            have h9' : CFs X.K X.mg (mAft m2 r v) H2 us2 cs' := CFs.noL (noL_up hB) less_aft h11 hnr.2
            obtain ⟨m3, A3, S3, V3, N3⟩ := after (r := r) (v := v) A2 keep List.length_set (ownP hg) (slots A2 hg h9') tk1 (res_up hB hnr.1 ret.res)
            exact k v m3 H2 A3 (S2.trans S3) V3 (N3.back S2)
          · obtain ⟨A4, S4⟩ := A2.meltAll e7
            have hg4 : g2[i]? = some (.ob b kk cs) := by rw [((melt_at e7).2 i).1 hi]; exact hg
            obtain ⟨m3, A3, S3, V3, N3⟩ := after (r := r) (v := v) A4 keep List.length_set (ownP hg4) (slots A4 hg4 h11) (fun a z => tk1 a (mem_lessL.mp z).1) ret.res
            exact k v m3 H2 A3 ((S2.trans S4).trans S3) V3 (N3.back (S2.trans S4))
        · cases e6
      · cases e2
  · cases e2
/-- the number of the arguments that a mirror takes -/
theorem fnM_len {n k : Nat} {B : G → Option O} (F : G → Option (R × G)) (hF : F = fun g => if g.length = n then fnM n k B g else none) : ∀ g r g', F g = some (r, g') → g.length = n := fun g r g' h => by
  subst hF
  dsimp only at h
  split at h
  · assumption
  · cases h
/-- a def's mirror -/
def dM (n k : Nat) (B : G → Option O) : G → Option (R × G) := fun g => if g.length = n then fnM n k B g else none
theorem dM_len {n k : Nat} {B : G → Option O} : ∀ g r g', dM n k B g = some (r, g') → g.length = n := fnM_len _ rfl
theorem spM_imp {K : PySem.W.Frag} {mg : Str → Option Value} {n k : Nat} {B : G → Option O} (vs : List V) (H : Hp) (Q : VK) (E : XK) (h : spM K mg n (dM n k B) vs H Q E) : spM K mg n (fnM n k B) vs H Q E := by
  obtain ⟨h1, m, g, r, g', A, e, kq⟩ := h
  refine ⟨h1, m, g, r, g', A, ?_, kq⟩
  unfold dM at e
  split at e
  · exact e
  · cases e
variable {k : Nat} {f : Addr} {fd : FuncData} {ps : List Str} {x : Str} {p : Pos} {n nn : Nat} {B : G → Option O}
theorem se_call0 (F : FnOk X.prog X.w X.K X.mg X.base CX0 k f fd ps (spM X.K X.mg n (dM n nn B))) (hr : Room k X.A) (hg : Gl X x) (hm : X.mg x = some (.ref f)) (hk : PySem.W.keepIn X.K (.ref f) = true) (hb : Binds X.K fd ps [])
    (ha : SA X c (e :: es) fs) (hdb : (x == ("__debug__" : Str)) = false := by decide) (he : starEach (e :: es) X.env = (false, eval e X.env) :: starEach es X.env := by rfl) (hpl : (backTo pos (starEach es X.env)).any (·.1) = false := by rfl) :
    SE X c (.Call (.Name x p) (e :: es) [] pos) (eCall0 (dM n nn B) fs) := (pe_call F hr hg hm hk hb .nil pass0 ha hdb he hpl).imp fun σ H Q q => call0_ok dM_len q
theorem se_call1 (F : FnOk X.prog X.w X.K X.mg X.base CX0 k f fd ps (spM X.K X.mg n (dM n nn B))) (hr : Room k X.A) (hg : Gl X x) (hm : X.mg x = some (.ref f)) (hk : PySem.W.keepIn X.K (.ref f) = true) (hb : Binds X.K fd ps [])
    (ha : SA X c (e :: es) fs) (hdb : (x == ("__debug__" : Str)) = false := by decide) (he : starEach (e :: es) X.env = (false, eval e X.env) :: starEach es X.env := by rfl) (hpl : (backTo pos (starEach es X.env)).any (·.1) = false := by rfl) :
    SE X c (.Call (.Name x p) (e :: es) [] pos) (eCall1 (dM n nn B) fs) := (pe_call F hr hg hm hk hb .nil pass0 ha hdb he hpl).imp fun σ H Q q => call1_ok dM_len q
end
section
variable {P : Program} {w : World} {K : PySem.W.Frag} {mg : Str → Option Value} {base : Heap}
/-- a def keeps the promise of its mirror -/
theorem def_ok {x qual : Str} {st : Stmt} {f : Addr} {fd : FuncData} {N ps : List Str} {k : Nat} {B : G → Option O} (F : Fun K x qual st f fd) (S : FnScope N ps (defScope st))
    (body : ∀ (cdv : Value) (A : Around) (outer : List Env) (s : Shared) (H : Hp) (E : XK) (c : C0), Room k (A.deeper (PyProof.Rows.envOfC qual (defScope st) s.heap.objs.size f cdv)) →
      SSs (cxOf CX0 P w K mg base N qual (defScope st) f cdv A outer s H E).nox c (defBody st) B) : FnOk P w K mg base CX0 (k + 1) f fd ps (spM K mg ps.length (dM ps.length N.length B)) :=
  (fn_ok F S body).imp spM_imp
/-- the law's own promise, from its mirror -/
theorem law_sp {n : Nat} {B : G → Option O} {a : Addr} {ns : List Int} {H : Hp} (hS : SqL K H a (ns.map V.int)) (hO : Only H) (h : ∃ g', dM 1 n B [.fz (.sls (ns.map D.int))] = some (.d (.bl true), g')) : spM K mg 1 (dM 1 n B) [.ref a] H (fun v _ => v = .bl true) fun _ _ _ => False := by
  obtain ⟨g', h⟩ := h
  refine ⟨rfl, [], _, _, g', ⟨rfl, fun i d hi => ?_, fun i b l hi => ?_, fun i j s t p hi hj e e' => ?_, (fun _ z => nomatch z), fun i v hi => (by cases i <;> cases hi), fun i b k cs hi => (by cases i <;> cases hi), fun i x hi => (by cases i <;> cases hi)⟩, h, fun v H' ret => fz_bl ret.res⟩
  · cases i with
    | zero =>
      cases hi
      refine ⟨.ref a, rfl, .sls ?_ (fz_ints ns)⟩
      rcases hS with (hS | ⟨o, hS⟩) | hS
      · rcases hO a with z | ⟨o, xs, z⟩
        · rw [hS] at z; cases z
        · rw [hS] at z; cases z
      · exact .inl ⟨(fun z => nomatch z), o, hS⟩
      · exact .inr (.inr hS)
    | succ i => cases hi
  · cases i with
    | zero => cases hi
    | succ i => cases hi
  · cases i with
    | zero => cases hi; exact e.elim
    | succ i => cases hi
end
end Sm

namespace Sm
open PySem L2
section
variable {X : Cx} {c : C0} {tg e : Expr} {fe : G → Option (R × G)}
theorem _root_.L2.PI.or {X : Cx} {tg e : Expr} {t t' : TI} (h : PI X tg e t) (h' : PI X tg e t') : PI X tg e (fun σ H Q => t σ H Q ∨ t' σ H Q) := ⟨fun pins s σ H Q I q => q.elim (h.run pins s σ H Q I) (h'.run pins s σ H Q I)⟩
/-- a list, a tuple, a text -/
def iA (fe : G → Option (R × G)) : G → Option (List D × G) := fun g => match fe g with
  | some (.d (.tup l), g') => some (l, g')
  | some (.d (.str s), g') => some (s.cps.toList.map fun x => .str ⟨#[x]⟩, g')
  | _ => iL fe g
theorem si_any (h : SE X c e fe) : SI X c tg e (iA fe) := ((si_list h).or ((si_tup h).or (si_str h))).imp fun σ H Q q => by
  obtain ⟨m, g, l, g', A, e, k⟩ := q
  unfold iA at e
  split at e
  · cases e
    rename_i h
    exact .inr (.inl ⟨m, g, l, g', A, by unfold iT; rw [h]; rfl, k⟩)
  · cases e
    rename_i h
    exact .inr (.inr ⟨m, g, _, g', A, by unfold iS; rw [h]; rfl, k⟩)
  · exact .inl ⟨m, g, l, g', A, e, k⟩
end
/-! ## the law -/
def LawHolds (M : G → Option (R × G)) : Prop := ∀ ns : List Int, ns.length ≤ 63 → ∃ g', M [.fz (.sls (ns.map D.int))] = some (.d (.bl true), g')
theorem _root_.L2.Fun.one {K : PySem.W.Frag} {x qual : Str} {st : Stmt} {f : Addr} {fd : FuncData} (F : Fun K x qual st f fd)
    (h : ∀ (kV doc pm : Value) (an : Option Addr) (cdv ct v : Value), bindArgs (PySem.W.fnOf x qual (defArgs st) (defBody st) (defScope st) .none kV doc pm an cdv ct) ⟨[v], []⟩ = pure [(("script" : Str), v)] := by intros; rfl) (s : Shared) (v : Value) : BindsTo s fd ⟨[v], []⟩ [("script", v)] := by
  obtain ⟨oc, od, kV, doc, pm, an, cdv, ct, osl, rfl, lk, hcd⟩ := F.ex
  exact .of_eq (h kV doc pm an cdv ct v)
end Sm

/-! ## the mirrors, evaluated: each combinator hands its part's value to a named step -/
namespace Sm
open PySem L2
section
variable {g g1 g2 g' : G} {r r1 r2 : R} {d d1 d2 x y : D} {b : Bool} {l l' : List D} {i j n k : Nat} {fa fb fe fo : G → Option (R × G)} {ft fu : G → Option (Bool × G)} {f f' fB : G → Option O} {fs : G → Option (List R × G)} {fi : G → Option (List D × G)} {gf : D → G → Option G} {h h' : D → D → Option R} {rs : List R} {ds : List D}
theorem v_c : eC d g = some (.d d, g) := rfl
def varK (i : Nat) (g : G) : Option Slot → Option (R × G)
  | some (.fz d) => some (.d d, g)
  | some (.ol _ _) => some (.sl i, g)
  | some (.ob _ _ _) => some (.sl i, g)
  | _ => none
theorem v_var : eVar i g = varK i g g[i]? := rfl
theorem varK_fz : varK i g (some (.fz d)) = some (.d d, g) := rfl
theorem varK_ol : varK i g (some (.ol b l)) = some (.sl i, g) := rfl
def binK (h : D → D → Option R) (fb : G → Option (R × G)) : Option (R × G) → Option (R × G)
  | some (r1, g1) => (fb g1).bind fun q => (ld q.2 r1).bind fun x => (ld q.2 q.1).bind fun y => (h x y).bind fun r => some (r, q.2)
  | none => none
def binK2 (h : D → D → Option R) (r1 : R) : Option (R × G) → Option (R × G)
  | some (r2, g2) => (ld g2 r1).bind fun x => (ld g2 r2).bind fun y => (h x y).bind fun r => some (r, g2)
  | none => none
def binK3 (h : D → D → Option R) (g2 : G) : Option D → Option D → Option (R × G)
  | some x, some y => (h x y).bind fun r => some (r, g2)
  | _, _ => none
def valK (g2 : G) : Option R → Option (R × G)
  | some r => some (r, g2)
  | none => none
theorem v_bin : eBin h fa fb g = binK h fb (fa g) := by unfold eBin binK; cases fa g <;> rfl
theorem binK_some : binK h fb (some (r1, g1)) = binK2 h r1 (fb g1) := by unfold binK binK2; dsimp only; cases fb g1 <;> rfl
theorem binK2_some : binK2 h r1 (some (r2, g2)) = binK3 h g2 (ld g2 r1) (ld g2 r2) := by
  unfold binK2 binK3; dsimp only
  cases ld g2 r1 <;> cases ld g2 r2 <;> rfl
theorem binK3_some : binK3 h g2 (some x) (some y) = valK g2 (h x y) := by unfold binK3 valK; dsimp only; cases h x y <;> rfl
theorem valK_some : valK g2 (some r) = some (r, g2) := rfl
def ldK : Option Slot → Option D
  | some (.ol _ l) => some (.lst l)
  | some (.fz d) => some d
  | _ => none
theorem v_ldd : ld g (.d x) = some x := rfl
theorem v_ldn : ld g (.nw l) = some (.lst l) := rfl
theorem v_lds : ld g (.sl i) = ldK g[i]? := by
  unfold ldK; simp only [ld]
  all_goals cases g[i]? with
  | none => rfl
  | some s => cases s <;> rfl
theorem ldK_ol : ldK (some (.ol b l)) = some (.lst l) := rfl
theorem ldK_fz : ldK (some (.fz d)) = some d := rfl
def frzK (g : G) (i : Nat) : Option Slot → Option (D × G)
  | some (.ol false l) => some (.lst l, g.set i (.fz (.lst l)))
  | some (.fz d) => some (d, g)
  | _ => none
theorem v_frzd : frz g (.d x) = some (x, g) := rfl
theorem v_frzn : frz g (.nw l) = some (.lst l, g) := rfl
theorem v_frzs : frz g (.sl i) = frzK g i g[i]? := by
  unfold frzK; simp only [frz]
  all_goals cases g[i]? with
  | none => rfl
  | some s => cases s with
    | ol b l => cases b <;> rfl
    | _ => rfl
theorem frzK_ol : frzK g i (some (.ol false l)) = some (.lst l, g.set i (.fz (.lst l))) := rfl
theorem frzK_fz : frzK g i (some (.fz d)) = some (d, g) := rfl
def frzsK (rs : List R) : Option (D × G) → Option (List D × G)
  | some (d, g) => (frzs g rs).bind fun q => some (d :: q.1, q.2)
  | none => none
def frzsK2 (d : D) : Option (List D × G) → Option (List D × G)
  | some (ds, g) => some (d :: ds, g)
  | none => none
theorem v_frzs0 : frzs g [] = some ([], g) := rfl
theorem v_frzs1 : frzs g (r :: rs) = frzsK rs (frz g r) := by unfold frzs frzsK; cases frz g r <;> rfl
theorem frzsK_some : frzsK rs (some (d, g)) = frzsK2 d (frzs g rs) := by unfold frzsK frzsK2; dsimp only; cases frzs g rs <;> rfl
theorem frzsK2_some : frzsK2 d (some (ds, g)) = some (d :: ds, g) := rfl
def ldsK (g : G) (rs : List R) : Option D → Option (List D)
  | some d => (lds g rs).bind fun ds => some (d :: ds)
  | none => none
def ldsK2 (d : D) : Option (List D) → Option (List D)
  | some ds => some (d :: ds)
  | none => none
theorem v_lds0 : lds g [] = some [] := rfl
theorem v_lds1 : lds g (r :: rs) = ldsK g rs (ld g r) := by unfold lds ldsK; cases ld g r <;> rfl
theorem ldsK_some : ldsK g rs (some d) = ldsK2 d (lds g rs) := by unfold ldsK ldsK2; dsimp only; cases lds g rs <;> rfl
theorem ldsK2_some : ldsK2 d (some ds) = some (d :: ds) := rfl
/-! arguments, displays -/
theorem v_anil : aNil g = some ([], g) := rfl
def aConsK (fs : G → Option (List R × G)) : Option (R × G) → Option (List R × G)
  | some (r, g) => (fs g).bind fun q => some (r :: q.1, q.2)
  | none => none
def aConsK2 (r : R) : Option (List R × G) → Option (List R × G)
  | some (rs, g) => some (r :: rs, g)
  | none => none
theorem v_acons : aCons fe fs g = aConsK fs (fe g) := by unfold aCons aConsK; cases fe g <;> rfl
theorem aConsK_some : aConsK fs (some (r, g)) = aConsK2 r (fs g) := by unfold aConsK aConsK2; dsimp only; cases fs g <;> rfl
theorem aConsK2_some : aConsK2 r (some (rs, g)) = some (r :: rs, g) := rfl
def tupK : Option (List R × G) → Option (R × G)
  | some (rs, g) => (frzs g rs).bind fun q => if q.1.length ≤ 1000 then some (.d (.tup q.1), q.2) else none
  | none => none
def tupK2 : Option (List D × G) → Option (R × G)
  | some (ds, g) => if ds.length ≤ 1000 then some (.d (.tup ds), g) else none
  | none => none
def lstK : Option (List R × G) → Option (R × G)
  | some (rs, g) => (frzs g rs).bind fun q => if q.1.length ≤ 1000 then some (.nw q.1, q.2) else none
  | none => none
def lstK2 : Option (List D × G) → Option (R × G)
  | some (ds, g) => if ds.length ≤ 1000 then some (.nw ds, g) else none
  | none => none
theorem v_tup : eTup fs g = tupK (fs g) := by unfold eTup tupK; cases fs g <;> rfl
theorem tupK_some : tupK (some (rs, g)) = tupK2 (frzs g rs) := by unfold tupK tupK2; dsimp only; cases frzs g rs <;> rfl
theorem tupK2_some : tupK2 (some (ds, g)) = if ds.length ≤ 1000 then some (.d (.tup ds), g) else none := (rfl)
theorem v_lst : eLst fs g = lstK (fs g) := by unfold eLst lstK; cases fs g <;> rfl
theorem lstK_some : lstK (some (rs, g)) = lstK2 (frzs g rs) := by unfold lstK lstK2; dsimp only; cases frzs g rs <;> rfl
theorem lstK2_some : lstK2 (some (ds, g)) = if ds.length ≤ 1000 then some (.nw ds, g) else none := (rfl)
/-! one operand, choices -/
def negK : Option (R × G) → Option (R × G)
  | some (.d (.int i), g) => some (.d (.int (-i)), g)
  | _ => none
theorem v_neg : eNeg fa g = negK (fa g) := by
  unfold eNeg negK
  cases fa g with
  | none => rfl
  | some p =>
    obtain ⟨r, g⟩ := p
    cases r with
    | d x => cases x <;> rfl
    | _ => rfl
theorem negK_some {i : Int} : negK (some (.d (.int i), g)) = some (.d (.int (-i)), g) := rfl
def ifK (fa fb : G → Option (R × G)) : Option (Bool × G) → Option (R × G)
  | some (true, g) => fa g
  | some (false, g) => fb g
  | none => none
theorem v_if : eIf ft fa fb g = ifK fa fb (ft g) := by
  unfold eIf ifK
  cases ft g with
  | none => rfl
  | some p => obtain ⟨b, g⟩ := p; cases b <;> rfl
theorem ifK_t : ifK fa fb (some (true, g)) = fa g := rfl
theorem ifK_f : ifK fa fb (some (false, g)) = fb g := rfl
def tstK : Option (R × G) → Option (Bool × G)
  | some (.d (.bl b), g) => some (b, g)
  | _ => none
theorem v_tst : tst fa g = tstK (fa g) := by
  unfold tst tstK
  cases fa g with
  | none => rfl
  | some p =>
    obtain ⟨r, g⟩ := p
    cases r with
    | d x => cases x <;> rfl
    | _ => rfl
theorem tstK_some : tstK (some (.d (.bl b), g)) = some (b, g) := rfl
def andK (fu : G → Option (Bool × G)) : Option (Bool × G) → Option (Bool × G)
  | some (true, g) => fu g
  | some (false, g) => some (false, g)
  | none => none
def orK (fu : G → Option (Bool × G)) : Option (Bool × G) → Option (Bool × G)
  | some (true, g) => some (true, g)
  | some (false, g) => fu g
  | none => none
def notK : Option (Bool × G) → Option (Bool × G)
  | some (b, g) => some (!b, g)
  | none => none
theorem v_band : bAnd ft fu g = andK fu (ft g) := by
  unfold bAnd andK
  cases ft g with
  | none => rfl
  | some p => obtain ⟨b, g⟩ := p; cases b <;> rfl
theorem v_bor : bOr ft fu g = orK fu (ft g) := by
  unfold bOr orK
  cases ft g with
  | none => rfl
  | some p => obtain ⟨b, g⟩ := p; cases b <;> rfl
theorem v_bnot : bNot ft g = notK (ft g) := by unfold bNot notK; cases ft g <;> rfl
theorem andK_t : andK fu (some (true, g)) = fu g := rfl
theorem andK_f : andK fu (some (false, g)) = some (false, g) := rfl
theorem orK_t : orK fu (some (true, g)) = some (true, g) := rfl
theorem orK_f : orK fu (some (false, g)) = fu g := rfl
theorem notK_some : notK (some (b, g)) = some (!b, g) := rfl
def andVK (fb : G → Option (R × G)) : Option (Bool × G) → Option (R × G)
  | some (true, g) => fb g
  | some (false, g) => some (.d (.bl false), g)
  | none => none
def orVK (fb : G → Option (R × G)) : Option (Bool × G) → Option (R × G)
  | some (true, g) => some (.d (.bl true), g)
  | some (false, g) => fb g
  | none => none
def notVK : Option (Bool × G) → Option (R × G)
  | some (b, g) => some (.d (.bl !b), g)
  | none => none
theorem v_and : eAnd fa fb g = andVK fb (tst fa g) := by
  unfold eAnd andVK
  cases tst fa g with
  | none => rfl
  | some p => obtain ⟨b, g⟩ := p; cases b <;> rfl
theorem v_or : eOr fa fb g = orVK fb (tst fa g) := by
  unfold eOr orVK
  cases tst fa g with
  | none => rfl
  | some p => obtain ⟨b, g⟩ := p; cases b <;> rfl
theorem v_not : eNot fa g = notVK (tst fa g) := by unfold eNot notVK; cases tst fa g <;> rfl
theorem andVK_t : andVK fb (some (true, g)) = fb g := rfl
theorem andVK_f : andVK fb (some (false, g)) = some (.d (.bl false), g) := rfl
theorem orVK_t : orVK fb (some (true, g)) = some (.d (.bl true), g) := rfl
theorem orVK_f : orVK fb (some (false, g)) = fb g := rfl
theorem notVK_some : notVK (some (b, g)) = some (.d (.bl !b), g) := rfl
/-! chains -/
def chK1 (h h' : D → D → Option R) (fb fe : G → Option (R × G)) : Option (R × G) → Option (R × G)
  | some (r1, g1) => (fb g1).bind fun q => (ld q.2 r1).bind fun x => (ld q.2 q.1).bind fun y => (h x y).bind fun r => match r with
    | .d (.bl true) => (fe q.2).bind fun s => (ld s.2 q.1).bind fun y' => (ld s.2 s.1).bind fun z => (h' y' z).bind fun r => some (r, s.2)
    | .d (.bl false) => some (.d (.bl false), q.2)
    | _ => none
  | none => none
def chK2 (h h' : D → D → Option R) (fe : G → Option (R × G)) (r1 : R) : Option (R × G) → Option (R × G)
  | some (r2, g2) => (ld g2 r1).bind fun x => (ld g2 r2).bind fun y => (h x y).bind fun r => match r with
    | .d (.bl true) => (fe g2).bind fun s => (ld s.2 r2).bind fun y' => (ld s.2 s.1).bind fun z => (h' y' z).bind fun r => some (r, s.2)
    | .d (.bl false) => some (.d (.bl false), g2)
    | _ => none
  | none => none
def chK3 (h h' : D → D → Option R) (fe : G → Option (R × G)) (r2 : R) (g2 : G) : Option D → Option D → Option (R × G)
  | some x, some y => (h x y).bind fun r => match r with
    | .d (.bl true) => (fe g2).bind fun s => (ld s.2 r2).bind fun y' => (ld s.2 s.1).bind fun z => (h' y' z).bind fun r => some (r, s.2)
    | .d (.bl false) => some (.d (.bl false), g2)
    | _ => none
  | _, _ => none
def chK4 (h' : D → D → Option R) (fe : G → Option (R × G)) (r2 : R) (g2 : G) : Option R → Option (R × G)
  | some (.d (.bl true)) => binK2 h' r2 (fe g2)
  | some (.d (.bl false)) => some (.d (.bl false), g2)
  | _ => none
theorem v_chain : eChain h h' fa fb fe g = chK1 h h' fb fe (fa g) := by unfold eChain chK1; cases fa g <;> rfl
theorem chK1_some : chK1 h h' fb fe (some (r1, g1)) = chK2 h h' fe r1 (fb g1) := by unfold chK1 chK2; dsimp only; cases fb g1 <;> rfl
theorem chK2_some : chK2 h h' fe r1 (some (r2, g2)) = chK3 h h' fe r2 g2 (ld g2 r1) (ld g2 r2) := by
  unfold chK2 chK3; dsimp only
  cases ld g2 r1 <;> cases ld g2 r2 <;> rfl
theorem chK3_some : chK3 h h' fe r2 g2 (some x) (some y) = chK4 h' fe r2 g2 (h x y) := by
  unfold chK3 chK4 binK2; dsimp only
  cases h x y with
  | none => rfl
  | some r =>
    cases r with
    | d z =>
      cases z with
      | bl b =>
        cases b with
        | true => cases fe g2 <;> rfl
        | false => rfl
      | _ => rfl
    | _ => rfl
theorem chK4_t : chK4 h' fe r2 g2 (some (.d (.bl true))) = binK2 h' r2 (fe g2) := rfl
theorem chK4_f : chK4 h' fe r2 g2 (some (.d (.bl false))) = some (.d (.bl false), g2) := rfl
/-! slices, calls of built-ins, methods -/
def partK : Option (R × G) → Option (Option Int × G)
  | some (.d (.int i), g) => some (some i, g)
  | _ => none
theorem v_onone : oNone g = some (none, g) := rfl
theorem v_osome : oSome fe g = partK (fe g) := by
  unfold oSome partK
  cases fe g with
  | none => rfl
  | some p =>
    obtain ⟨r, g⟩ := p
    cases r with
    | d x => cases x <;> rfl
    | _ => rfl
theorem partK_some {i : Int} : partK (some (.d (.int i), g)) = some (some i, g) := rfl
variable {fl fh : G → Option (Option Int × G)} {o o' : Option Int}
def slK1 (fl fh : G → Option (Option Int × G)) : Option (R × G) → Option (R × G)
  | some (r, g) => (fl g).bind fun q => (fh q.2).bind fun s => (ld s.2 r).bind fun x => (slD x q.1 s.1).bind fun r => some (r, s.2)
  | none => none
def slK2 (fh : G → Option (Option Int × G)) (r : R) : Option (Option Int × G) → Option (R × G)
  | some (o, g) => (fh g).bind fun s => (ld s.2 r).bind fun x => (slD x o s.1).bind fun r => some (r, s.2)
  | none => none
def slK3 (r : R) (o : Option Int) : Option (Option Int × G) → Option (R × G)
  | some (o', g) => (ld g r).bind fun x => (slD x o o').bind fun r => some (r, g)
  | none => none
def slK4 (o o' : Option Int) (g : G) : Option D → Option (R × G)
  | some x => (slD x o o').bind fun r => some (r, g)
  | none => none
theorem v_sl : eSl fa fl fh g = slK1 fl fh (fa g) := by unfold eSl slK1; cases fa g <;> rfl
theorem slK1_some : slK1 fl fh (some (r, g)) = slK2 fh r (fl g) := by unfold slK1 slK2; dsimp only; cases fl g <;> rfl
theorem slK2_some : slK2 fh r (some (o, g)) = slK3 r o (fh g) := by unfold slK2 slK3; dsimp only; cases fh g <;> rfl
theorem slK3_some : slK3 r o (some (o', g)) = slK4 o o' g (ld g r) := by unfold slK3 slK4; dsimp only; cases ld g r <;> rfl
theorem slK4_some : slK4 o o' g (some x) = valK g (slD x o o') := by unfold slK4 valK; dsimp only; cases slD x o o' <;> rfl
theorem v_slL : slD (.lst l) o o' = some (.nw (cutD l o o')) := rfl
theorem v_slS : slD (.sls l) o o' = some (.nw (cutD l o o')) := rfl
theorem v_slT : slD (.tup l) o o' = some (.d (.tup (cutD l o o'))) := rfl
theorem v_slStr {s : Str} : slD (.str s) o o' = if s.length ≤ sizeLine then some (.d (.str (cutS s o o'))) else none := (rfl)
def revK : Option (R × G) → Option (R × G)
  | some (r, g) => match ld g r with
    | some (.lst l) => some (.nw l.reverse, g)
    | some (.sls l) => some (.nw l.reverse, g)
    | _ => none
  | none => none
def revK2 (g : G) : Option D → Option (R × G)
  | some (.lst l) => some (.nw l.reverse, g)
  | some (.sls l) => some (.nw l.reverse, g)
  | _ => none
theorem v_rev : eRev fa g = revK (fa g) := by unfold eRev revK; cases fa g <;> rfl
theorem revK_some : revK (some (r, g)) = revK2 g (ld g r) := rfl
theorem revK2_l : revK2 g (some (.lst l)) = some (.nw l.reverse, g) := rfl
variable {hb : List D → Option R} {hm : Str → D → Option R} {F : G → Option (R × G)} {s t : Str}
def cbK (hb : List D → Option R) : Option (List R × G) → Option (R × G)
  | some (rs, g) => (lds g rs).bind fun ds => (hb ds).bind fun r => some (r, g)
  | none => none
def cbK2 (hb : List D → Option R) (g : G) : Option (List D) → Option (R × G)
  | some ds => (hb ds).bind fun r => some (r, g)
  | none => none
theorem v_cb : eCB hb fs g = cbK hb (fs g) := by unfold eCB cbK; cases fs g <;> rfl
theorem cbK_some : cbK hb (some (rs, g)) = cbK2 hb g (lds g rs) := by unfold cbK cbK2; dsimp only; cases lds g rs <;> rfl
theorem cbK2_some : cbK2 hb g (some ds) = valK g (hb ds) := by unfold cbK2 valK; dsimp only; cases hb ds <;> rfl
def m1K (hm : Str → D → Option R) (fe : G → Option (R × G)) : Option (R × G) → Option (R × G)
  | some (.d (.str s), g) => (fe g).bind fun q => (ld q.2 q.1).bind fun y => (hm s y).bind fun r => some (r, q.2)
  | _ => none
def m1K2 (hm : Str → D → Option R) (s : Str) : Option (R × G) → Option (R × G)
  | some (r, g) => (ld g r).bind fun y => (hm s y).bind fun r => some (r, g)
  | none => none
def m1K3 (hm : Str → D → Option R) (s : Str) (g : G) : Option D → Option (R × G)
  | some y => (hm s y).bind fun r => some (r, g)
  | none => none
theorem v_m1 : eM1 hm fo fe g = m1K hm fe (fo g) := by
  unfold eM1 m1K
  cases fo g with
  | none => rfl
  | some p =>
    obtain ⟨r, g⟩ := p
    cases r with
    | d x => cases x <;> rfl
    | _ => rfl
theorem m1K_some : m1K hm fe (some (.d (.str s), g)) = m1K2 hm s (fe g) := by unfold m1K m1K2; dsimp only; cases fe g <;> rfl
theorem m1K2_some : m1K2 hm s (some (r, g)) = m1K3 hm s g (ld g r) := by unfold m1K2 m1K3; dsimp only; cases ld g r <;> rfl
theorem m1K3_some : m1K3 hm s g (some y) = valK g (hm s y) := by unfold m1K3 valK; dsimp only; cases hm s y <;> rfl
/-! lists of a slot -/
def appK (i : Nat) (fe : G → Option (R × G)) (g : G) : Option Slot → Option (R × G)
  | some (.ol _ _) => (fe g).bind fun p => (frz p.2 p.1).bind fun q => match q.2[i]? with
    | some (.ol b l) => if l.length ≤ 100000 then some (.d .non, q.2.set i (.ol b (l ++ [q.1]))) else none
    | _ => none
  | _ => none
def appK2 (i : Nat) : Option (R × G) → Option (R × G)
  | some (r, g) => (frz g r).bind fun q => match q.2[i]? with
    | some (.ol b l) => if l.length ≤ 100000 then some (.d .non, q.2.set i (.ol b (l ++ [q.1]))) else none
    | _ => none
  | none => none
def appK3 (i : Nat) : Option (D × G) → Option (R × G)
  | some (d, g) => match g[i]? with
    | some (.ol b l) => if l.length ≤ 100000 then some (.d .non, g.set i (.ol b (l ++ [d]))) else none
    | _ => none
  | none => none
def appK4 (i : Nat) (d : D) (g : G) : Option Slot → Option (R × G)
  | some (.ol b l) => if l.length ≤ 100000 then some (.d .non, g.set i (.ol b (l ++ [d]))) else none
  | _ => none
theorem v_app : eApp i fe g = appK i fe g g[i]? := by
  unfold eApp appK
  cases g[i]? with
  | none => rfl
  | some s => cases s <;> rfl
theorem appK_ol : appK i fe g (some (.ol b l)) = appK2 i (fe g) := by unfold appK appK2; dsimp only; cases fe g <;> rfl
theorem appK2_some : appK2 i (some (r, g)) = appK3 i (frz g r) := by unfold appK2 appK3; dsimp only; cases frz g r <;> rfl
theorem appK3_some : appK3 i (some (d, g)) = appK4 i d g g[i]? := rfl
theorem appK4_ol : appK4 i d g (some (.ol b l)) = if l.length ≤ 100000 then some (.d .non, g.set i (.ol b (l ++ [d]))) else none := (rfl)
def popK (i : Nat) (g : G) : Option Slot → Option (R × G)
  | some (.ol b l) => match l[l.length - 1]? with
    | some d => some (.d d, g.set i (.ol b l.dropLast))
    | none => none
  | _ => none
theorem v_pop : ePop i g = popK i g g[i]? := by
  unfold ePop popK
  cases g[i]? with
  | none => rfl
  | some s => cases s <;> rfl
theorem popK_ol {d : D} : popK i g (some (.ol b (l ++ [d]))) = some (.d d, g.set i (.ol b l)) := by
  unfold popK
  dsimp only
  have h : (l ++ [d])[(l ++ [d]).length - 1]? = some d := by simp
  rw [h]
  simp
def popAtK (i : Nat) (fe : G → Option (R × G)) (g : G) : Option Slot → Option (R × G)
  | some (.ol _ _) => (fe g).bind fun p => match p.1, p.2[i]? with
    | .d (.int n), some (.ol b l) => if 0 ≤ n ∧ n < 100000 then match l[n.toNat]? with
      | some d => some (.d d, p.2.set i (.ol b (l.eraseIdx n.toNat)))
      | none => none else none
    | _, _ => none
  | _ => none
def popAtK2 (i : Nat) : Option (R × G) → Option (R × G)
  | some (r, g) => match r, g[i]? with
    | .d (.int n), some (.ol b l) => if 0 ≤ n ∧ n < 100000 then match l[n.toNat]? with
      | some d => some (.d d, g.set i (.ol b (l.eraseIdx n.toNat)))
      | none => none else none
    | _, _ => none
  | none => none
def popAtK3 (i : Nat) (g : G) (n : Int) : Option Slot → Option (R × G)
  | some (.ol b l) => if 0 ≤ n ∧ n < 100000 then match l[n.toNat]? with
      | some d => some (.d d, g.set i (.ol b (l.eraseIdx n.toNat)))
      | none => none else none
  | _ => none
theorem v_popAt : ePopAt i fe g = popAtK i fe g g[i]? := by
  unfold ePopAt popAtK
  cases g[i]? with
  | none => rfl
  | some s => cases s <;> rfl
theorem popAtK_ol : popAtK i fe g (some (.ol b l)) = popAtK2 i (fe g) := by unfold popAtK popAtK2; dsimp only; cases fe g <;> rfl
theorem popAtK2_some {n : Int} : popAtK2 i (some (.d (.int n), g)) = popAtK3 i g n g[i]? := by
  unfold popAtK2 popAtK3; dsimp only
  cases g[i]? with
  | none => rfl
  | some s => cases s <;> rfl
/-! calls of defs -/
/-! what is lent in calls -/
def ldCK : Option Slot → Option D
  | some (.ol _ l) => some (.lst l)
  | some (.fz d) => some d
  | some (.ob _ k cs) => obD k cs
  | _ => none
theorem v_ldCd : ldC g (.d x) = some x := rfl
theorem v_ldCn : ldC g (.nw l) = some (.lst l) := rfl
theorem v_ldCs : ldC g (.sl i) = ldCK g[i]? := by
  unfold ldCK; simp only [ldC, ld] <;> (cases g[i]? with
    | none => rfl
    | some s => cases s <;> rfl)
theorem ldCK_ol : ldCK (some (.ol b l)) = some (.lst l) := rfl
theorem ldCK_fz : ldCK (some (.fz d)) = some d := rfl
def pqK (q : Addr) : Option Slot → Option D
  | some (.ob _ _ cs) => (ldQ cs q).map .lst
  | _ => none
theorem v_ldp {q : Addr} : ld g (.pq i q) = pqK q g[i]? := by
  unfold pqK; simp only [ld] <;> (cases g[i]? with
    | none => rfl
    | some s => cases s <;> rfl)
theorem pqK_ob {q : Addr} {k : OK} {cs : List Sm.F} : pqK q (some (.ob b k cs)) = (ldQ cs q).map .lst := rfl
theorem ldQ_hit {q : Addr} {cs : List Sm.F} : ldQ (.fl q l :: cs) q = some l := by unfold ldQ; rw [if_pos rfl]
def ldsCK (g : G) (rs : List R) : Option D → Option (List D)
  | some d => (ldsC g rs).bind fun ds => some (d :: ds)
  | none => none
def ldsCK2 (d : D) : Option (List D) → Option (List D)
  | some ds => some (d :: ds)
  | none => none
theorem v_ldsC0 : ldsC g [] = some [] := rfl
theorem v_ldsC1 : ldsC g (r :: rs) = ldsCK g rs (ldC g r) := by unfold ldsC ldsCK; cases ldC g r <;> rfl
theorem ldsCK_some : ldsCK g rs (some d) = ldsCK2 d (ldsC g rs) := by unfold ldsCK ldsCK2; dsimp only; cases ldsC g rs <;> rfl
theorem ldsCK2_some : ldsCK2 d (some ds) = some (d :: ds) := rfl
def c0K (F : G → Option (R × G)) : Option (List R × G) → Option (R × G)
  | some (rs, g) => (ldsC g rs).bind fun ds => (F (ds.map .fz)).bind fun q => (if noRs q.1 = true then some g else meltAll g (lent rs)).bind fun g1 => some (q.1, g1)
  | none => none
def c0K2 (F : G → Option (R × G)) (rs : List R) (g : G) : Option (List D) → Option (R × G)
  | some ds => (F (ds.map .fz)).bind fun q => (if noRs q.1 = true then some g else meltAll g (lent rs)).bind fun g1 => some (q.1, g1)
  | none => none
def c0K3 (rs : List R) (g : G) : Option (R × G) → Option (R × G)
  | some (r, _) => (if noRs r = true then some g else meltAll g (lent rs)).bind fun g1 => some (r, g1)
  | none => none
def c0K4 (r : R) : Option G → Option (R × G)
  | some g => some (r, g)
  | none => none
theorem v_c0 : eCall0 F fs g = c0K F (fs g) := by unfold eCall0 c0K; cases fs g <;> rfl
theorem c0K_some : c0K F (some (rs, g)) = c0K2 F rs g (ldsC g rs) := by unfold c0K c0K2; dsimp only; cases ldsC g rs <;> rfl
theorem c0K2_some : c0K2 F rs g (some ds) = c0K3 rs g (F (ds.map .fz)) := by unfold c0K2 c0K3; dsimp only; cases F (ds.map .fz) <;> rfl
theorem c0K3_some : c0K3 rs g (some (r, g')) = c0K4 r (if noRs r = true then some g else meltAll g (lent rs)) := by unfold c0K3 c0K4; dsimp only; cases (if noRs r = true then some g else meltAll g (lent rs)) <;> rfl
theorem c0K4_some : c0K4 r (some g) = some (r, g) := rfl
theorem melt0 : meltAll g [] = some g := rfl
def meltK (i : Nat) : Option G → Option G
  | some g => match g[i]? with
    | some (.ol false l) => some (g.set i (.fz (.lst l)))
    | some (.ol true _) => none
    | some (.ob _ _ _) => none
    | _ => some g
  | none => none
def meltK2 (i : Nat) (g : G) : Option Slot → Option G
  | some (.ol false l) => some (g.set i (.fz (.lst l)))
  | some (.ol true _) => none
  | some (.ob _ _ _) => none
  | _ => some g
theorem melt1 {is : List Nat} : meltAll g (i :: is) = meltK i (meltAll g is) := by rw [meltAll]; unfold meltK; cases meltAll g is <;> rfl
theorem meltK_some : meltK i (some g) = meltK2 i g g[i]? := rfl
theorem meltK2_ol : meltK2 i g (some (.ol false l)) = some (g.set i (.fz (.lst l))) := rfl
theorem meltK2_fz : meltK2 i g (some (.fz d)) = some g := rfl
def c1K (F : G → Option (R × G)) : Option (List R × G) → Option (R × G)
  | some (.sl i :: rs, g) => if i ∈ lent rs then none else match g[i]? with
    | some (.ol b l) => (ldsC g rs).bind fun ds => (F (.ol true l :: ds.map .fz)).bind fun q => match List.head? q.2 with
      | some (.ol true l') => (if noRs q.1 = true ∧ noLs l' = true then some g else meltAll g (lent rs)).bind fun g1 => some (q.1, g1.set i (.ol b l'))
      | _ => none
    | some (.ob b k cs) => (ldsC g rs).bind fun ds => (F (.ob true k cs :: ds.map .fz)).bind fun q => match List.head? q.2 with
      | some (.ob true _ cs') => (if noRs q.1 = true ∧ noFs cs' = true then some g else meltAll g (lent rs)).bind fun g1 => some (q.1, g1.set i (.ob b k cs'))
      | _ => none
    | _ => none
  | _ => none
def c1K2 (F : G → Option (R × G)) (i : Nat) (rs : List R) (g : G) : Option Slot → Option (R × G)
  | some (.ol b l) => (ldsC g rs).bind fun ds => (F (.ol true l :: ds.map .fz)).bind fun q => match List.head? q.2 with
      | some (.ol true l') => (if noRs q.1 = true ∧ noLs l' = true then some g else meltAll g (lent rs)).bind fun g1 => some (q.1, g1.set i (.ol b l'))
      | _ => none
  | some (.ob b k cs) => (ldsC g rs).bind fun ds => (F (.ob true k cs :: ds.map .fz)).bind fun q => match List.head? q.2 with
      | some (.ob true _ cs') => (if noRs q.1 = true ∧ noFs cs' = true then some g else meltAll g (lent rs)).bind fun g1 => some (q.1, g1.set i (.ob b k cs'))
      | _ => none
  | _ => none
def c1K3 (F : G → Option (R × G)) (i : Nat) (rs : List R) (g : G) (b : Bool) (l : List D) : Option (List D) → Option (R × G)
  | some ds => (F (.ol true l :: ds.map .fz)).bind fun q => match List.head? q.2 with
      | some (.ol true l') => (if noRs q.1 = true ∧ noLs l' = true then some g else meltAll g (lent rs)).bind fun g1 => some (q.1, g1.set i (.ol b l'))
      | _ => none
  | none => none
def c1K4 (i : Nat) (rs : List R) (g : G) (b : Bool) : Option (R × G) → Option (R × G)
  | some (r, .ol true l' :: _) => (if noRs r = true ∧ noLs l' = true then some g else meltAll g (lent rs)).bind fun g1 => some (r, g1.set i (.ol b l'))
  | _ => none
def c1K5 (r : R) (i : Nat) (b : Bool) (l' : List D) : Option G → Option (R × G)
  | some g1 => some (r, g1.set i (.ol b l'))
  | none => none
theorem v_c1 : eCall1 F fs g = c1K F (fs g) := by
  unfold eCall1 c1K
  cases fs g with
  | none => rfl
  | some p =>
    obtain ⟨rs, g⟩ := p
    cases rs with
    | nil => rfl
    | cons r rs => cases r <;> rfl
theorem c1K_some (hi : i ∉ lent rs) : c1K F (some (.sl i :: rs, g)) = c1K2 F i rs g g[i]? := by
  unfold c1K c1K2
  exact if_neg hi
theorem c1K2_ol : c1K2 F i rs g (some (.ol b l)) = c1K3 F i rs g b l (ldsC g rs) := by unfold c1K2 c1K3; dsimp only; cases ldsC g rs <;> rfl
theorem c1K3_some : c1K3 F i rs g b l (some ds) = c1K4 i rs g b (F (.ol true l :: ds.map .fz)) := by
  unfold c1K3 c1K4; dsimp only
  cases F (.ol true l :: ds.map .fz) with
  | none => rfl
  | some p =>
    obtain ⟨r, gc⟩ := p
    cases gc with
    | nil => rfl
    | cons s gc => cases s with
      | ol b l => cases b <;> rfl
      | _ => rfl
theorem c1K4_some : c1K4 i rs g b (some (r, .ol true l' :: g')) = c1K5 r i b l' (if noRs r = true ∧ noLs l' = true then some g else meltAll g (lent rs)) := by
  unfold c1K4 c1K5; dsimp only
  cases (if noRs r = true ∧ noLs l' = true then some g else meltAll g (lent rs)) <;> rfl
theorem c1K5_some : c1K5 r i b l' (some g) = some (r, g.set i (.ol b l')) := rfl
/-! statements -/
def seqK (f' : G → Option O) : Option O → Option O
  | some (.nx g) => f' g
  | some o => some o
  | none => none
theorem v_seq : sSeq f f' g = seqK f' (f g) := by
  unfold sSeq seqK
  cases f g with
  | none => rfl
  | some o => cases o <;> rfl
theorem seqK_nx : seqK f' (some (.nx g)) = f' g := rfl
theorem seqK_rt : seqK f' (some (.rt r g)) = some (.rt r g) := rfl
theorem seqK_ct : seqK f' (some (.ct g)) = some (.ct g) := rfl
theorem v_next : sNext g = some (.nx g) := rfl
theorem v_cont : sCont g = some (.ct g) := rfl
def exprK : Option (R × G) → Option O
  | some (_, g) => some (.nx g)
  | none => none
theorem v_expr : sExpr fe g = exprK (fe g) := by unfold sExpr exprK; cases fe g <;> rfl
theorem exprK_some : exprK (some (r, g)) = some (.nx g) := rfl
def retK : Option (R × G) → Option O
  | some (r, g) => some (.rt r g)
  | none => none
theorem v_ret : sRet fe g = retK (fe g) := by unfold sRet retK; cases fe g <;> rfl
theorem retK_some : retK (some (r, g)) = some (.rt r g) := rfl
theorem v_retN : sRetN g = some (.rt (.d .non) g) := rfl
def asgK (i : Nat) : Option (R × G) → Option O
  | some (r, g) => (stS i r g).bind fun g' => some (.nx g')
  | none => none
def nxK : Option G → Option O
  | some g => some (.nx g)
  | none => none
theorem v_asg : sAsg i fe g = asgK i (fe g) := by unfold sAsg asgK; cases fe g <;> rfl
theorem asgK_some : asgK i (some (r, g)) = nxK (stS i r g) := by unfold asgK nxK; dsimp only; cases stS i r g <;> rfl
theorem nxK_some : nxK (some g) = some (.nx g) := rfl
theorem v_stN : stS i (.nw l) g = if notT g i = true then some (g.set i (.ol false l)) else none := (rfl)
def stK (i : Nat) : Option (D × G) → Option G
  | some (d, g) => if notT g i = true then some (g.set i (.fz d)) else none
  | none => none
theorem v_stD : stS i (.d x) g = if notT g i = true then some (g.set i (.fz x)) else none := (rfl)
theorem v_stS : stS i (.sl j) g = stK i (frz g (.sl j)) := by unfold stK; simp only [stS]; cases frz g (.sl j) <;> rfl
theorem stK_some : stK i (some (d, g)) = if notT g i = true then some (g.set i (.fz d)) else none := (rfl)
def notTK : Option Slot → Bool
  | some (.ol true _) => false
  | some (.ob true _ _) => false
  | some _ => true
  | none => false
theorem v_notT : notT g i = notTK g[i]? := rfl
theorem notTK_fz : notTK (some (.fz d)) = true := rfl
theorem notTK_un : notTK (some .un) = true := rfl
theorem notTK_ol : notTK (some (.ol false l)) = true := rfl
def sifK (f f' : G → Option O) : Option (Bool × G) → Option O
  | some (true, g) => f g
  | some (false, g) => f' g
  | none => none
theorem v_sif : sIf ft f f' g = sifK f f' (ft g) := by
  unfold sIf sifK
  cases ft g with
  | none => rfl
  | some p => obtain ⟨b, g⟩ := p; cases b <;> rfl
theorem sifK_t : sifK f f' (some (true, g)) = f g := rfl
theorem sifK_f : sifK f f' (some (false, g)) = f' g := rfl
def asgTK (gf : D → G → Option G) : Option (R × G) → Option O
  | some (r, g) => (frz g r).bind fun q => (gf q.1 q.2).bind fun g' => some (.nx g')
  | none => none
def asgTK2 (gf : D → G → Option G) : Option (D × G) → Option O
  | some (d, g) => (gf d g).bind fun g' => some (.nx g')
  | none => none
theorem v_asgT : sAsgT gf fe g = asgTK gf (fe g) := by unfold sAsgT asgTK; cases fe g <;> rfl
theorem asgTK_some : asgTK gf (some (r, g)) = asgTK2 gf (frz g r) := by unfold asgTK asgTK2; dsimp only; cases frz g r <;> rfl
theorem asgTK2_some : asgTK2 gf (some (d, g)) = nxK (gf d g) := by unfold asgTK2 nxK; dsimp only; cases gf d g <;> rfl
theorem v_gN : gN i d g = if notT g i = true then some (g.set i (.fz d)) else none := (rfl)
variable {gs : List D → G → Option G}
theorem v_gT : gT n gs (.tup ds) g = if ds.length = n then gs ds g else none := (rfl)
theorem v_gNil : gNil' [] g = some g := rfl
def gConsK (gs : List D → G → Option G) (ds : List D) : Option G → Option G
  | some g => gs ds g
  | none => none
theorem v_gCons : gCons' gf gs (d :: ds) g = gConsK gs ds (gf d g) := by simp only [gCons']; unfold gConsK; cases gf d g <;> rfl
theorem gConsK_some : gConsK gs ds (some g) = gs ds g := rfl
def parK (i j : Nat) : Option (List R × G) → Option O
  | some ([r1, r2], g) => (frz g r1).bind fun q1 => (frz q1.2 r2).bind fun q2 => if notT q2.2 i = true ∧ notT q2.2 j = true then some (.nx ((q2.2.set i (.fz q1.1)).set j (.fz q2.1))) else none
  | _ => none
def parK2 (i j : Nat) : Option (List D × G) → Option O
  | some ([d1, d2], g) => if notT g i = true ∧ notT g j = true then some (.nx ((g.set i (.fz d1)).set j (.fz d2))) else none
  | _ => none
theorem v_par : sPar i j fs g = parK i j (fs g) := by
  unfold sPar parK
  cases fs g with
  | none => rfl
  | some p =>
    obtain ⟨rs, g⟩ := p
    match rs with
    | [] => rfl
    | [_] => rfl
    | [_, _] => rfl
    | _ :: _ :: _ :: _ => rfl
theorem parK_some : parK i j (some ([r1, r2], g)) = parK2 i j (frzs g [r1, r2]) := by
  unfold parK parK2
  simp only [frzs]
  cases frz g r1 with
  | none => rfl
  | some p =>
    obtain ⟨d1, g1⟩ := p
    simp only [Option.bind_some]
    cases frz g1 r2 with
    | none => rfl
    | some q => obtain ⟨d2, g2⟩ := q; rfl
theorem parK2_some : parK2 i j (some ([d1, d2], g)) = if notT g i = true ∧ notT g j = true then some (.nx ((g.set i (.fz d1)).set j (.fz d2))) else none := (rfl)
def augK (h : D → D → Option R) (fe : G → Option (R × G)) (i : Nat) (g : G) : Option Slot → Option O
  | some (.fz (.int n)) => (fe g).bind fun p => (ld p.2 p.1).bind fun d => match h (.int n) d with
    | some (.d x) => if notT p.2 i = true then some (.nx (p.2.set i (.fz x))) else none
    | _ => none
  | _ => none
def augK2 (h : D → D → Option R) (i : Nat) (n : Int) : Option (R × G) → Option O
  | some (r, g) => (ld g r).bind fun d => match h (.int n) d with
    | some (.d x) => if notT g i = true then some (.nx (g.set i (.fz x))) else none
    | _ => none
  | none => none
def augK3 (h : D → D → Option R) (i : Nat) (n : Int) (g : G) : Option D → Option O
  | some d => match h (.int n) d with
    | some (.d x) => if notT g i = true then some (.nx (g.set i (.fz x))) else none
    | _ => none
  | none => none
def augK4 (i : Nat) (g : G) : Option R → Option O
  | some (.d x) => if notT g i = true then some (.nx (g.set i (.fz x))) else none
  | _ => none
theorem v_aug : sAug i h fe g = augK h fe i g g[i]? := by
  unfold sAug augK
  cases g[i]? with
  | none => rfl
  | some s => cases s with
    | fz d => cases d <;> rfl
    | _ => rfl
theorem augK_fz {n : Int} : augK h fe i g (some (.fz (.int n))) = augK2 h i n (fe g) := by unfold augK augK2; dsimp only; cases fe g <;> rfl
theorem augK2_some {n : Int} : augK2 h i n (some (r, g)) = augK3 h i n g (ld g r) := by unfold augK2 augK3; dsimp only; cases ld g r <;> rfl
theorem augK3_some {n : Int} : augK3 h i n g (some d) = augK4 i g (h (.int n) d) := rfl
theorem augK4_some : augK4 i g (some (.d x)) = if notT g i = true then some (.nx (g.set i (.fz x))) else none := (rfl)
variable {fx : G → Option (R × G)}
def sixK (i : Nat) (fx : G → Option (R × G)) : Option (R × G) → Option O
  | some (r, g) => (frz g r).bind fun q => match q.2[i]? with
    | some (.ol _ _) => (fx q.2).bind fun s => match s.1, s.2[i]? with
      | .d (.int n), some (.ol b l) => match ixN l.length n with
        | some j => some (.nx (s.2.set i (.ol b (l.set j q.1))))
        | none => none
      | _, _ => none
    | _ => none
  | none => none
def sixK2 (i : Nat) (fx : G → Option (R × G)) : Option (D × G) → Option O
  | some (d, g) => match g[i]? with
    | some (.ol _ _) => (fx g).bind fun s => match s.1, s.2[i]? with
      | .d (.int n), some (.ol b l) => match ixN l.length n with
        | some j => some (.nx (s.2.set i (.ol b (l.set j d))))
        | none => none
      | _, _ => none
    | _ => none
  | none => none
def sixK3 (i : Nat) (fx : G → Option (R × G)) (d : D) (g : G) : Option Slot → Option O
  | some (.ol _ _) => (fx g).bind fun s => match s.1, s.2[i]? with
      | .d (.int n), some (.ol b l) => match ixN l.length n with
        | some j => some (.nx (s.2.set i (.ol b (l.set j d))))
        | none => none
      | _, _ => none
  | _ => none
def sixK4 (i : Nat) (d : D) : Option (R × G) → Option O
  | some (r, g) => match r, g[i]? with
      | .d (.int n), some (.ol b l) => match ixN l.length n with
        | some j => some (.nx (g.set i (.ol b (l.set j d))))
        | none => none
      | _, _ => none
  | none => none
def sixK5 (i : Nat) (d : D) (n : Int) (g : G) : Option Slot → Option O
  | some (.ol b l) => match ixN l.length n with
        | some j => some (.nx (g.set i (.ol b (l.set j d))))
        | none => none
  | _ => none
def sixK6 (i : Nat) (d : D) (g : G) (b : Bool) (l : List D) : Option Nat → Option O
  | some j => some (.nx (g.set i (.ol b (l.set j d))))
  | none => none
theorem v_six : sSetIx i fx fe g = sixK i fx (fe g) := by unfold sSetIx sixK; cases fe g <;> rfl
theorem sixK_some : sixK i fx (some (r, g)) = sixK2 i fx (frz g r) := by unfold sixK sixK2; dsimp only; cases frz g r <;> rfl
theorem sixK2_some : sixK2 i fx (some (d, g)) = sixK3 i fx d g g[i]? := rfl
theorem sixK3_ol : sixK3 i fx d g (some (.ol b l)) = sixK4 i d (fx g) := by unfold sixK3 sixK4; dsimp only; cases fx g <;> rfl
theorem sixK4_some {n : Int} : sixK4 i d (some (.d (.int n), g)) = sixK5 i d n g g[i]? := by
  unfold sixK4 sixK5; dsimp only
  cases g[i]? with
  | none => rfl
  | some s => cases s <;> rfl
theorem sixK5_ol {n : Int} : sixK5 i d n g (some (.ol b l)) = sixK6 i d g b l (ixN l.length n) := rfl
theorem sixK6_some : sixK6 i d g b l (some j) = some (.nx (g.set i (.ol b (l.set j d)))) := rfl
/-! loops, comprehensions: up to the loop itself -/
def forK (gf : D → G → Option G) (fB : G → Option O) : Option (List D × G) → Option O
  | some (l, g) => forL gf fB l g
  | none => none
theorem v_for : sFor fi gf fB g = forK gf fB (fi g) := by unfold sFor forK; cases fi g <;> rfl
theorem forK_some : forK gf fB (some (l, g)) = forL gf fB l g := rfl
def turnK (fB : G → Option O) (gf : D → G → Option G) (l : List D) : Option G → Option O
  | some g1 => (fB g1).bind fun o => match o with
    | .nx g2 => forL gf fB l g2
    | .ct g2 => forL gf fB l g2
    | .bk g2 => some (.nx g2)
    | .rt r g2 => some (.rt r g2)
    | .xc C x g2 => some (.xc C x g2)
  | none => none
def turnK2 (gf : D → G → Option G) (fB : G → Option O) (l : List D) : Option O → Option O
  | some (.nx g2) => forL gf fB l g2
  | some (.ct g2) => forL gf fB l g2
  | some (.bk g2) => some (.nx g2)
  | some (.rt r g2) => some (.rt r g2)
  | some (.xc C x g2) => some (.xc C x g2)
  | none => none
theorem forL_nil : forL gf fB [] g = some (.nx g) := rfl
theorem forL_cons : forL gf fB (d :: l) g = turnK fB gf l (gf d g) := by simp only [forL]; unfold turnK; cases gf d g <;> rfl
theorem turnK_some : turnK fB gf l (some g) = turnK2 gf fB l (fB g) := by
  unfold turnK turnK2; dsimp only
  cases fB g with
  | none => rfl
  | some o => cases o <;> rfl
theorem turnK2_nx : turnK2 gf fB l (some (.nx g)) = forL gf fB l g := rfl
theorem turnK2_ct : turnK2 gf fB l (some (.ct g)) = forL gf fB l g := rfl
theorem turnK2_rt : turnK2 gf fB l (some (.rt r g)) = some (.rt r g) := rfl
variable {vs : List Nat} {fm : G → Option (Bool × G)}
def lcK (gf : D → G → Option G) (ft : G → Option (Bool × G)) (fe : G → Option (R × G)) (vs : List Nat) : Option (List D × G) → Option (R × G)
  | some (l, g) => if notOl g vs = true ∧ l.length ≤ 100000 then (lcL gf ft fe vs l (wipeG g vs)).bind fun q => some (.nw q.1, restG q.2 g vs) else none
  | none => none
def lcK2 (g : G) (vs : List Nat) : Option (List D × G) → Option (R × G)
  | some (l, g') => some (.nw l, restG g' g vs)
  | none => none
theorem v_lc : eLc fi gf ft fe vs g = lcK gf ft fe vs (fi g) := by unfold eLc lcK; cases fi g <;> rfl
theorem lcK2_some : lcK2 g vs (some (l, g')) = some (.nw l, restG g' g vs) := rfl
theorem lcL_nil : lcL gf ft fe vs [] g = some ([], g) := rfl
def lcT1 (gf : D → G → Option G) (ft : G → Option (Bool × G)) (fe : G → Option (R × G)) (vs : List Nat) (l : List D) : Option G → Option (List D × G)
  | some g1 => (ft g1).bind fun p => if p.1 = true then (fe p.2).bind fun q => (frz q.2 q.1).bind fun s => (lcL gf ft fe vs l (wipeG s.2 vs)).bind fun t => some (s.1 :: t.1, t.2)
    else lcL gf ft fe vs l (wipeG p.2 vs)
  | none => none
def lcT2 (gf : D → G → Option G) (ft : G → Option (Bool × G)) (fe : G → Option (R × G)) (vs : List Nat) (l : List D) : Option (Bool × G) → Option (List D × G)
  | some (true, g) => (fe g).bind fun q => (frz q.2 q.1).bind fun s => (lcL gf ft fe vs l (wipeG s.2 vs)).bind fun t => some (s.1 :: t.1, t.2)
  | some (false, g) => lcL gf ft fe vs l (wipeG g vs)
  | none => none
def lcT3 (gf : D → G → Option G) (ft : G → Option (Bool × G)) (fe : G → Option (R × G)) (vs : List Nat) (l : List D) : Option (R × G) → Option (List D × G)
  | some (r, g) => (frz g r).bind fun s => (lcL gf ft fe vs l (wipeG s.2 vs)).bind fun t => some (s.1 :: t.1, t.2)
  | none => none
def lcT4 (gf : D → G → Option G) (ft : G → Option (Bool × G)) (fe : G → Option (R × G)) (vs : List Nat) (l : List D) : Option (D × G) → Option (List D × G)
  | some (d, g) => (lcL gf ft fe vs l (wipeG g vs)).bind fun t => some (d :: t.1, t.2)
  | none => none
def lcT5 (d : D) : Option (List D × G) → Option (List D × G)
  | some (l, g) => some (d :: l, g)
  | none => none
theorem lcL_cons : lcL gf ft fe vs (d :: l) g = lcT1 gf ft fe vs l (gf d g) := by simp only [lcL]; unfold lcT1; cases gf d g <;> rfl
theorem lcT1_some : lcT1 gf ft fe vs l (some g) = lcT2 gf ft fe vs l (ft g) := by
  unfold lcT1 lcT2; dsimp only
  cases ft g with
  | none => rfl
  | some p => obtain ⟨b, g⟩ := p; cases b <;> rfl
theorem lcT2_t : lcT2 gf ft fe vs l (some (true, g)) = lcT3 gf ft fe vs l (fe g) := by unfold lcT2 lcT3; dsimp only; cases fe g <;> rfl
theorem lcT2_f : lcT2 gf ft fe vs l (some (false, g)) = lcL gf ft fe vs l (wipeG g vs) := rfl
theorem lcT3_some : lcT3 gf ft fe vs l (some (r, g)) = lcT4 gf ft fe vs l (frz g r) := by unfold lcT3 lcT4; dsimp only; cases frz g r <;> rfl
theorem lcT4_some : lcT4 gf ft fe vs l (some (d, g)) = lcT5 d (lcL gf ft fe vs l (wipeG g vs)) := by unfold lcT4 lcT5; dsimp only; cases lcL gf ft fe vs l (wipeG g vs) <;> rfl
theorem lcT5_some : lcT5 d (some (l, g)) = some (d :: l, g) := rfl
theorem v_yes : tYesG g = some (true, g) := rfl
/-! what is walked -/
def iLK : Option (R × G) → Option (List D × G)
  | some (r, g) => (frz g r).bind fun q => match q.1 with
    | .lst l => some (l, q.2)
    | .sls l => some (l, q.2)
    | _ => none
  | none => none
def iAK : Option (R × G) → Option (List D × G)
  | some (.d (.tup l), g') => some (l, g')
  | some (.d (.str s), g') => some (s.cps.toList.map fun x => .str ⟨#[x]⟩, g')
  | q => iLK q
def iLK2 : Option (D × G) → Option (List D × G)
  | some (.lst l, g) => some (l, g)
  | some (.sls l, g) => some (l, g)
  | _ => none
theorem v_iL : iL fe g = iLK (fe g) := by unfold iL iLK; cases fe g <;> rfl
theorem v_iA : iA fe g = iAK (fe g) := by
  unfold iA iAK
  rw [v_iL]
  cases fe g with
  | none => rfl
  | some p =>
    obtain ⟨r, g⟩ := p
    cases r with
    | d x => cases x <;> rfl
    | _ => rfl
theorem iLK_some : iLK (some (r, g)) = iLK2 (frz g r) := by
  unfold iLK iLK2; dsimp only
  cases frz g r with
  | none => rfl
  | some p => obtain ⟨d, g⟩ := p; cases d <;> rfl
theorem iAK_t : iAK (some (.d (.tup l), g)) = some (l, g) := rfl
theorem iAK_s : iAK (some (.d (.str s), g)) = some (s.cps.toList.map fun x => .str ⟨#[x]⟩, g) := rfl
theorem iAK_l : iAK (some (.d (.lst l), g)) = some (l, g) := rfl
theorem iAK_sls : iAK (some (.d (.sls l), g)) = some (l, g) := rfl
theorem iAK_sl : iAK (some (.sl i, g)) = iLK2 (frz g (.sl i)) := by unfold iAK; exact iLK_some
theorem iAK_n : iAK (some (.nw l, g)) = some (l, g) := rfl
theorem iLK2_l : iLK2 (some (.lst l, g)) = some (l, g) := rfl
theorem iLK2_s : iLK2 (some (.sls l, g)) = some (l, g) := rfl
def r1K : Option (R × G) → Option (List D × G)
  | some (.d (.int n), g) => if -(2 ^ 62) ≤ n ∧ n < 2 ^ 62 then some (rangeD 0 n.toNat, g) else none
  | _ => none
theorem v_iR1 : iR1 fe g = r1K (fe g) := by
  unfold iR1 r1K
  cases fe g with
  | none => rfl
  | some p =>
    obtain ⟨r, g⟩ := p
    cases r with
    | d x => cases x <;> rfl
    | _ => rfl
def r2K (fb : G → Option (R × G)) : Option (R × G) → Option (List D × G)
  | some (r, g) => (fb g).bind fun q => match r, q.1 with
    | .d (.int i), .d (.int n) => if -(2 ^ 62) ≤ n ∧ n < 2 ^ 62 ∧ -(2 ^ 62) ≤ i ∧ i < 2 ^ 62 then some (rangeD i (n - i).toNat, q.2) else none
    | _, _ => none
  | none => none
def r2K2 (r : R) : Option (R × G) → Option (List D × G)
  | some (r', g) => match r, r' with
    | .d (.int i), .d (.int n) => if -(2 ^ 62) ≤ n ∧ n < 2 ^ 62 ∧ -(2 ^ 62) ≤ i ∧ i < 2 ^ 62 then some (rangeD i (n - i).toNat, g) else none
    | _, _ => none
  | none => none
theorem v_iR2 : iR2 fa fb g = r2K fb (fa g) := by unfold iR2 r2K; cases fa g <;> rfl
theorem r2K_some : r2K fb (some (r, g)) = r2K2 r (fb g) := by unfold r2K r2K2; dsimp only; cases fb g <;> rfl
def enK : Option (List D × G) → Option (List D × G)
  | some (l, g) => some (enumD l, g)
  | none => none
theorem v_iEn : iEn fe g = enK (iL fe g) := by unfold iEn enK; cases iL fe g <;> rfl
theorem enK_some : enK (some (l, g)) = some (enumD l, g) := rfl
/-! a def -/
def outK (n : Nat) : Option O → Option (R × G)
  | some (.rt r g) => (retR g r).map fun r' => (r', g.take n)
  | some (.nx g) => some (.d .non, g.take n)
  | _ => none
def outK2 (n : Nat) (g : G) : Option R → Option (R × G)
  | some r => some (r, g.take n)
  | none => none
theorem dM_run (h : g.length = n) : dM n k f g = outK n (f (g ++ uns (k - n))) := by
  unfold dM
  rw [if_pos h]
  unfold fnM outK
  cases f (g ++ uns (k - n)) with
  | none => rfl
  | some o => cases o <;> rfl
theorem outK_rt : outK n (some (.rt r g)) = outK2 n g (retR g r) := by unfold outK outK2; dsimp only; cases retR g r <;> rfl
theorem outK_nx : outK n (some (.nx g)) = some (.d .non, g.take n) := rfl
theorem outK2_some : outK2 n g (some r) = some (r, g.take n) := rfl
theorem v_rd : retR g (.d x) = some (.d x) := rfl
theorem v_rn : retR g (.nw l) = some (.nw l) := rfl
def retRK : Option Slot → Option R
  | some (.ol false l) => some (.nw l)
  | some (.fz d) => some (.d d)
  | _ => none
theorem v_rs : retR g (.sl i) = retRK g[i]? := by
  unfold retRK; simp only [retR]
  all_goals cases g[i]? with
  | none => rfl
  | some s => cases s with
    | ol b l => cases b <;> rfl
    | _ => rfl
theorem retRK_ol : retRK (some (.ol false l)) = some (.nw l) := rfl
theorem retRK_fz : retRK (some (.fz d)) = some (.d d) := rfl
/-! leaves -/
variable {p q : Int} {z : Str}
theorem add_i : addD (.int p) (.int q) = some (.d (.int (p + q))) := rfl
theorem add_s : addD (.str s) (.str t) = if s.length + t.length ≤ sizeLine then some (.d (.str (s ++ t))) else none := (rfl)
theorem add_l : addD (.lst l) (.lst l') = if l.length + l'.length ≤ sizeLine then some (.nw (l ++ l')) else none := (rfl)
theorem sub_i : subD (.int p) (.int q) = some (.d (.int (p - q))) := rfl
theorem mul_i : mulD (.int p) (.int q) = if p.natAbs.log2 + q.natAbs.log2 < 1000000 then some (.d (.int (p * q))) else none := (rfl)
theorem mod_i : modD (.int p) (.int q) = if 0 < q then some (.d (.int (p % q))) else none := (rfl)
theorem div_i : divD (.int p) (.int q) = if 0 < q ∧ q.natAbs.log2 < 9000 then some (.d (.int (p / q))) else none := (rfl)
theorem pow_i : powD (.int p) (.int q) = if 0 ≤ q ∧ ((p.natAbs.log2 + 1 : Nat) : Int) * q ≤ 1000000 then some (.d (.int (p ^ q.toNat))) else none := (rfl)
theorem lt_i : cI (fun i j => decide (i < j)) (.int p) (.int q) = some (.d (.bl (decide (p < q)))) := rfl
theorem le_i : cI (fun i j => decide (i ≤ j)) (.int p) (.int q) = some (.d (.bl (decide (p ≤ q)))) := rfl
theorem gt_i : cI (fun i j => decide (j < i)) (.int p) (.int q) = some (.d (.bl (decide (q < p)))) := rfl
theorem ge_i : cI (fun i j => decide (j ≤ i)) (.int p) (.int q) = some (.d (.bl (decide (q ≤ p)))) := rfl
theorem eq_i : cEq (.int p) (.int q) = some (.d (.bl (decide (p = q)))) := rfl
theorem ne_i : cNe (.int p) (.int q) = some (.d (.bl (!decide (p = q)))) := rfl
theorem eq_s : cEq (.str s) (.str t) = some (.d (.bl (decide (s = t)))) := rfl
theorem ne_s : cNe (.str s) (.str t) = some (.d (.bl (!decide (s = t)))) := rfl
theorem is_n : cIs .non .non = some (.d (.bl true)) := rfl
theorem isN_n : cIsN .non .non = some (.d (.bl false)) := rfl
theorem ix_l : ixD (.lst l) (.int p) = (atI l p).map .d := rfl
theorem ix_t : ixD (.tup l) (.int p) = (atI l p).map .d := rfl
theorem ix_s : ixD (.sls l) (.int p) = (atI l p).map .d := rfl
theorem len_l : lenD [.lst l] = some (.d (.int (l.length : Int))) := rfl
theorem len_s : lenD [.sls l] = some (.d (.int (l.length : Int))) := rfl
theorem len_t : lenD [.tup l] = some (.d (.int (l.length : Int))) := rfl
theorem len_str : lenD [.str s] = if s.length ≤ sizeLine then some (.d (.int (s.length : Int))) else none := (rfl)
theorem abs_i : absD [.int p] = some (.d (.int (if p < 0 then -p else p))) := rfl
theorem max_i : maxD [.int p, .int q] = some (.d (.int (if q > p then q else p))) := rfl
theorem min_i : minD [.int p, .int q] = some (.d (.int (if q < p then q else p))) := rfl
theorem int_i : intD [.int p] = some (.d (.int p)) := rfl
theorem int_b : intD [.bl b] = some (.d (.int (if b then 1 else 0))) := rfl
theorem list_l : listD [.lst l] = some (.nw l) := rfl
theorem list_s : listD [.sls l] = some (.nw l) := rfl
theorem str_i : strD [.int p] = if p.natAbs.log2 < 1920 then some (.d (.str (toString p))) else none := (rfl)
theorem str_s : strD [.str s] = some (.d (.str s)) := rfl
theorem atI_of {i : Nat} (h : l[i]? = some d) : atI l (i : Int) = some d := by
  have hl := lt_of_get h
  unfold atI ixN
  rw [if_pos (by omega), if_pos (by omega)]
  simpa using h
end
end Sm

/-! ## plain laws: data, texts, loops -/
namespace Sp
open PySem L2 TL Sm
theorem at0 {d : D} {l : List D} : atI (d :: l) 0 = some d := atI_of (i := 0) rfl
theorem at1 {a d : D} {l : List D} : atI (a :: d :: l) 1 = some d := atI_of (i := 1) rfl
theorem at2 {a b d : D} {l : List D} : atI (a :: b :: d :: l) 2 = some d := atI_of (i := 2) rfl
theorem ixn_of {n i : Nat} (h : i < n) : ixN n (i : Int) = some i := by
  unfold ixN
  rw [if_pos (by omega), if_pos (by omega)]
  simp
theorem ixn0 {n : Nat} : ixN (n + 1) 0 = some 0 := ixn_of (i := 0) (by omega)
theorem ixn1 {n : Nat} : ixN (n + 2) 1 = some 1 := ixn_of (i := 1) (by omega)
theorem ixn2 {n : Nat} : ixN (n + 3) 2 = some 2 := ixn_of (i := 2) (by omega)
theorem ixn03 : ixN 3 0 = some 0 := by decide
theorem ixn13 : ixN 3 1 = some 1 := by decide
theorem ixn23 : ixN 3 2 = some 2 := by decide
theorem log2_lt {n k : Nat} (hk : 0 < k) (h : n < 2 ^ k) : n.log2 < k := by
  by_cases h0 : n = 0
  · subst h0; simpa using hk
  · exact (Nat.log2_lt h0).mpr h
/-! ### data -/
def Shp (n : Nat) (d : D) : Prop := ∃ p, pyOf d = some p ∧ p.canLay0 = true ∧ p.depth ≤ n
def ShpL (n : Nat) (l : List D) : Prop := ∃ p, pyAll l = some p ∧ PyData.canLayAll0 p = true ∧ PyData.depthAll p ≤ n
theorem shp_str {s : Str} (n : Nat) (h : PyData.strOk s = true) : Shp n (.str s) := ⟨_, rfl, h, by simp [PyData.depth]⟩
theorem shpL_nil (n : Nat) : ShpL n [] := ⟨_, rfl, rfl, by simp [PyData.depthAll]⟩
theorem shpL_cons {n : Nat} {d : D} {l : List D} (h : Shp n d) (t : ShpL n l) : ShpL n (d :: l) := by
  obtain ⟨p, h1, h2, h3⟩ := h
  obtain ⟨q, h4, h5, h6⟩ := t
  refine ⟨p :: q, by simp [pyAll, h1, h4], by simp [PyData.canLayAll0, h2, h5], by simp [PyData.depthAll]; omega⟩
theorem shpL_of {n : Nat} : ∀ {l : List D}, (∀ d ∈ l, Shp n d) → ShpL n l
  | [], _ => shpL_nil n
  | d :: l, h => shpL_cons (h d (List.mem_cons_self ..)) (shpL_of fun x hx => h x (List.mem_cons_of_mem _ hx))
theorem shp_lst {n : Nat} {l : List D} (h : ShpL n l) : Shp (n + 1) (.lst l) := by
  obtain ⟨q, h4, h5, h6⟩ := h
  exact ⟨.list q, by simp [pyOf, h4], by simpa [PyData.canLay0] using h5, by simp [PyData.depth]; omega⟩
theorem shp_ok {n : Nat} (hn : n ≤ 64) {d : D} {p : PyData} (h : pyOf d = some p) (hp : p.canLay0 = true) (hd : p.depth ≤ n) : SeqAt.shaped p = true := by
  unfold SeqAt.shaped
  rw [hp]
  simp
  omega
theorem eq_self {n : Nat} (hn : n ≤ 64) {d : D} (h : Shp n d) : eqD d d = some true := by
  obtain ⟨p, h1, h2, h3⟩ := h
  have hs := shp_ok hn h1 h2 h3
  have e : eqDt d d = some true := by
    unfold eqDt
    rw [h1]
    dsimp only
    rw [if_pos ⟨hs, hs⟩, SeqAt.eqv_refl p h2]
  unfold eqD
  cases hx : eqSc d d with
  | none => exact e
  | some x =>
    dsimp only
    cases d <;> simp [eqSc] at hx <;> simp [← hx]
/-! ### loops -/
section
variable {gf : D → G → Option G} {ft : G → Option (Bool × G)} {fe : G → Option (R × G)} {vs : List Nat} {fB : G → Option O}
/-- a filter, then a value -/
theorem lc_fil {α : Type} {ι φ : α → D} {ψ : α → Bool} {g : G} : ∀ {l : List α}, (∀ a ∈ l, ∃ g1 g1', gf (ι a) g = some g1 ∧ ft g1 = some (ψ a, g1') ∧ (ψ a = false → wipeG g1' vs = g) ∧ (ψ a = true → ∃ r g2 g3, fe g1' = some (r, g2) ∧ frz g2 r = some (φ a, g3) ∧ wipeG g3 vs = g)) →
    lcL gf ft fe vs (l.map ι) g = some ((l.filter ψ).map φ, g)
  | [], _ => rfl
  | d :: l, h => by
    obtain ⟨g1, g1', h1, h2, h3, h4⟩ := h d (List.mem_cons_self ..)
    have t := lc_fil (φ := φ) (ψ := ψ) (g := g) (l := l) fun x hx => h x (List.mem_cons_of_mem _ hx)
    rw [List.map_cons]
    unfold lcL
    simp only [h1, Option.bind_some, h2]
    cases hb : ψ d with
    | true =>
      obtain ⟨r, g2, g3, h5, h6, h7⟩ := h4 hb
      simp only [if_true, h5, h6, h7, Option.bind_some, t, List.filter_cons, hb, List.map_cons]
    | false =>
      simp only [h3 hb, t, List.filter_cons, hb, Bool.false_eq_true, if_false]
end
/-! ### texts -/
theorem strOk_of {s : Str} (h : ∀ c ∈ tl s, c < 0x110000) : PyData.strOk s = true := by
  unfold PyData.strOk
  rw [← Array.all_toList]
  rw [List.all_eq_true]
  intro c hc
  exact decide_eq_true (h c hc)
end Sp

namespace Lw
open PySem L2 Sm
end Lw
namespace Sp
open PySem L2 TL Sm Lw
local macro_rules | `(tactic| walk_at "ev") => `(tactic| simp only [*, v_c, Sp.at0, Sp.at1, Sp.at2, Sp.ixn0, Sp.ixn1, Sp.ixn2, Sp.ixn03, Sp.ixn13, Sp.ixn23, List.drop_succ_cons, List.drop_zero,  v_var, varK_fz, varK_ol, v_bin, binK_some, binK2_some, binK3_some, valK_some, v_ldd, v_ldn, v_lds, ldK_ol, ldK_fz, v_frzd, v_frzn, v_frzs, frzK_ol, frzK_fz, v_frzs0, v_frzs1, frzsK_some, frzsK2_some, v_lds0, v_lds1, ldsK_some, ldsK2_some, v_ldCd, v_ldCn, v_ldCs, ldCK_ol, ldCK_fz, v_ldsC0, v_ldsC1, ldsCK_some, ldsCK2_some, v_anil, v_acons, aConsK_some, aConsK2_some, v_tup, tupK_some, tupK2_some, v_lst, lstK_some, lstK2_some,
  v_neg, negK_some, v_if, ifK_t, ifK_f, v_tst, tstK_some, v_band, v_bor, v_bnot, andK_t, andK_f, orK_t, orK_f, notK_some, v_and, v_or, v_not, andVK_t, andVK_f, orVK_t, orVK_f, notVK_some, v_chain, chK1_some, chK2_some, chK3_some, chK4_t, chK4_f, v_onone, v_osome, partK_some, v_sl, slK1_some, slK2_some, slK3_some, slK4_some, v_slL, v_slS, v_slT, v_slStr, v_rev, revK_some, revK2_l, v_cb, cbK_some, cbK2_some, v_m1, m1K_some, m1K2_some, m1K3_some,
  v_app, appK_ol, appK2_some, appK3_some, appK4_ol, v_pop, popK_ol, v_popAt, popAtK_ol, popAtK2_some, v_c0, c0K_some, c0K2_some, c0K3_some, c0K4_some, melt0, melt1, meltK_some, meltK2_ol, meltK2_fz, v_c1, c1K_some, c1K2_ol, c1K3_some, c1K4_some, c1K5_some, v_seq, seqK_nx, seqK_rt, seqK_ct, v_next, v_cont, v_expr, exprK_some, v_ret, retK_some, v_retN, v_asg, asgK_some, nxK_some, v_stN, v_stD, v_stS, stK_some, v_notT, notTK_fz, notTK_un, notTK_ol, v_sif, sifK_t, sifK_f,
  v_asgT, asgTK_some, asgTK2_some, v_gN, v_gT, v_gNil, v_gCons, gConsK_some, v_par, parK_some, parK2_some, v_aug, augK_fz, augK2_some, augK3_some, augK4_some, v_six, sixK_some, sixK2_some, sixK3_ol, sixK4_some, sixK5_ol, sixK6_some, v_for, forK_some, v_lc, v_yes, v_iL, v_iA, iLK_some, iAK_t, iAK_s, iAK_l, iAK_sls, iAK_sl, iAK_n, iLK2_l, iLK2_s, v_iR1, v_iR2, r2K_some, v_iEn, enK_some, outK_rt, outK_nx, outK2_some, v_rd, v_rn, v_rs, retRK_ol, retRK_fz,
  add_i, add_s, add_l, sub_i, mul_i, mod_i, div_i, pow_i, lt_i, le_i, gt_i, ge_i, eq_i, ne_i, eq_s, ne_s, is_n, isN_n, ix_l, ix_t, ix_s, len_l, len_s, len_t, len_str, abs_i, max_i, min_i, int_i, int_b, list_l, list_s, str_i, str_s, lent, noRs, noL, noLs, lcK2_some, wipeG, restG,
  uns, List.replicate_succ, List.replicate_zero, List.getElem?_cons_zero, List.getElem?_cons_succ, List.getElem?_nil, List.set_cons_zero, List.set_cons_succ, List.set_nil, List.length_cons, List.length_nil, List.map_cons, List.map_nil, List.cons_append, List.nil_append, List.append_nil, List.take_succ_cons, List.take_zero, List.take_nil, Option.map_some, Option.map_none, Option.getD_some, Option.getD_none, List.not_mem_nil, not_false_eq_true, List.mem_cons, or_false, false_or,
  Nat.reduceAdd, Nat.reduceSub, Nat.reduceLT, Nat.reduceLeDiff, Int.reduceLT, Int.reduceLE, Int.reduceAdd, Int.reduceSub, Int.reduceMul, Int.reducePow, Int.reduceToNat, Int.reduceNeg, Int.reduceEq, Nat.reduceMul, Nat.reducePow, Nat.zero_add, Nat.add_zero, Nat.reduceEqDiff, decide_true, decide_false, Bool.and_true, Bool.and_false, Bool.true_and, Bool.false_and, Bool.or_true, Bool.or_false, Bool.not_true, Bool.not_false, if_true, if_false, reduceIte, Bool.false_eq_true, and_true, true_and, and_false, false_and, and_self, reduceCtorEq, Bool.and_self, decide_eq_true_eq])

/-- the state of the draws -/
def Rg (N : Nat) (l : List D) : Prop := ∃ d s c : Int, l = [.int d, .int s, .int c] ∧ 0 ≤ d ∧ 0 ≤ s ∧ s < 2 ^ 61 ∧ 0 ≤ c ∧ c ≤ N
theorem Rg.mono {N M : Nat} {l : List D} (h : Rg N l) (hm : N ≤ M) : Rg M l := by
  obtain ⟨d, s, c, h1, h2, h3, h4, h5, h6⟩ := h
  exact ⟨d, s, c, h1, h2, h3, h4, h5, by omega⟩
theorem Rg.noL {N : Nat} {l : List D} (h : Rg N l) : noLs l = true := by
  obtain ⟨d, s, c, rfl, _⟩ := h
  rfl
theorem mulS {p q : Int} (hp : p.natAbs < 2 ^ 1000) (hq : q.natAbs < 2 ^ 1000) : mulD (.int p) (.int q) = some (.d (.int (p * q))) := by
  rw [mul_i, if_pos]
  have h1 := log2_lt (by decide) hp
  have h2 := log2_lt (by decide) hq
  omega
theorem cut_upto {l : List D} {n : Nat} : cutD l none (some (n : Int)) = l.take n := by
  unfold cutD
  rw [HT.sIx_nat, HT.sIx_none, List.drop_zero, Nat.sub_zero]
  by_cases h : n ≤ l.length
  · rw [Nat.min_eq_left h]
  · rw [Nat.min_eq_right (by omega), List.take_of_length_le (Nat.le_refl _), List.take_of_length_le (by omega)]
end Sp

/-! ## commands: their texts, and how a law draws them -/
namespace Sp
open PySem L2 TL Sm Lw
local macro_rules | `(tactic| walk_at "ev") => `(tactic| simp only [*, v_c, at0, at1, at2, ixn0, ixn1, ixn2, ixn03, ixn13, ixn23, List.drop_succ_cons, List.drop_zero,  v_var, varK_fz, varK_ol, v_bin, binK_some, binK2_some, binK3_some, valK_some, v_ldd, v_ldn, v_lds, ldK_ol, ldK_fz, v_frzd, v_frzn, v_frzs, frzK_ol, frzK_fz, v_frzs0, v_frzs1, frzsK_some, frzsK2_some, v_lds0, v_lds1, ldsK_some, ldsK2_some, v_ldCd, v_ldCn, v_ldCs, ldCK_ol, ldCK_fz, v_ldsC0, v_ldsC1, ldsCK_some, ldsCK2_some, v_anil, v_acons, aConsK_some, aConsK2_some, v_tup, tupK_some, tupK2_some, v_lst, lstK_some, lstK2_some,
  v_neg, negK_some, v_if, ifK_t, ifK_f, v_tst, tstK_some, v_band, v_bor, v_bnot, andK_t, andK_f, orK_t, orK_f, notK_some, v_and, v_or, v_not, andVK_t, andVK_f, orVK_t, orVK_f, notVK_some, v_chain, chK1_some, chK2_some, chK3_some, chK4_t, chK4_f, v_onone, v_osome, partK_some, v_sl, slK1_some, slK2_some, slK3_some, slK4_some, v_slL, v_slS, v_slT, v_slStr, v_rev, revK_some, revK2_l, v_cb, cbK_some, cbK2_some, v_m1, m1K_some, m1K2_some, m1K3_some,
  v_app, appK_ol, appK2_some, appK3_some, appK4_ol, v_pop, popK_ol, v_popAt, popAtK_ol, popAtK2_some, v_c0, c0K_some, c0K2_some, c0K3_some, c0K4_some, melt0, melt1, meltK_some, meltK2_ol, meltK2_fz, v_c1, c1K_some, c1K2_ol, c1K3_some, c1K4_some, c1K5_some, v_seq, seqK_nx, seqK_rt, seqK_ct, v_next, v_cont, v_expr, exprK_some, v_ret, retK_some, v_retN, v_asg, asgK_some, nxK_some, v_stN, v_stD, v_stS, stK_some, v_notT, notTK_fz, notTK_un, notTK_ol, v_sif, sifK_t, sifK_f,
  v_asgT, asgTK_some, asgTK2_some, v_gN, v_gT, v_gNil, v_gCons, gConsK_some, v_par, parK_some, parK2_some, v_aug, augK_fz, augK2_some, augK3_some, augK4_some, v_six, sixK_some, sixK2_some, sixK3_ol, sixK4_some, sixK5_ol, sixK6_some, v_for, forK_some, v_lc, v_yes, v_iL, v_iA, iLK_some, iAK_t, iAK_s, iAK_l, iAK_sls, iAK_sl, iAK_n, iLK2_l, iLK2_s, v_iR1, v_iR2, r2K_some, v_iEn, enK_some, outK_rt, outK_nx, outK2_some, v_rd, v_rn, v_rs, retRK_ol, retRK_fz,
  add_i, add_s, add_l, sub_i, mul_i, mod_i, div_i, pow_i, lt_i, le_i, gt_i, ge_i, eq_i, ne_i, eq_s, ne_s, is_n, isN_n, ix_l, ix_t, ix_s, len_l, len_s, len_t, len_str, abs_i, max_i, min_i, int_i, int_b, list_l, list_s, str_i, str_s, lent, noRs, noL, noLs, lcK2_some, wipeG, restG,
  uns, List.replicate_succ, List.replicate_zero, List.getElem?_cons_zero, List.getElem?_cons_succ, List.getElem?_nil, List.set_cons_zero, List.set_cons_succ, List.set_nil, List.length_cons, List.length_nil, List.map_cons, List.map_nil, List.cons_append, List.nil_append, List.append_nil, List.take_succ_cons, List.take_zero, List.take_nil, Option.map_some, Option.map_none, Option.getD_some, Option.getD_none, List.not_mem_nil, not_false_eq_true, List.mem_cons, or_false, false_or,
  Nat.reduceAdd, Nat.reduceSub, Nat.reduceLT, Nat.reduceLeDiff, Int.reduceLT, Int.reduceLE, Int.reduceAdd, Int.reduceSub, Int.reduceMul, Int.reducePow, Int.reduceToNat, Int.reduceNeg, Int.reduceEq, Nat.reduceMul, Nat.reducePow, Nat.zero_add, Nat.add_zero, Nat.reduceEqDiff, decide_true, decide_false, Bool.and_true, Bool.and_false, Bool.true_and, Bool.false_and, Bool.or_true, Bool.or_false, Bool.not_true, Bool.not_false, if_true, if_false, reduceIte, Bool.false_eq_true, and_true, true_and, and_false, false_and, and_self, reduceCtorEq, Bool.and_self, decide_eq_true_eq])

inductive Nm | head | tail | skip | chop
  deriving DecidableEq
inductive Pl | reverse | uniq | sort
  deriving DecidableEq
inductive Cmd | num (a : Nm) (n : Nat) | pl (a : Pl)
  deriving DecidableEq
def Nm.str : Nm → Str
  | .head => ("head" : String) | .tail => ("tail" : String) | .skip => ("skip" : String) | .chop => ("chop" : String)
def Pl.str : Pl → Str
  | .reverse => ("reverse" : String) | .uniq => ("uniq" : String) | .sort => ("sort" : String)
def Cmd.enc : Cmd → D
  | .num a n => .tup [.str a.str, .int (n : Nat)]
  | .pl a => .tup [.str a.str]
def Cmd.ok : Cmd → Prop
  | .num _ n => n < 10 ^ 30
  | .pl _ => True
abbrev NUMT : D := .tup [.str (("head" : String) : Str), .str (("tail" : String) : Str), .str (("skip" : String) : Str), .str (("chop" : String) : Str)]
abbrev PLT : D := .tup [.str (("reverse" : String) : Str), .str (("uniq" : String) : Str), .str (("sort" : String) : Str)]
theorem nm_in (a : Nm) : cIn (.str a.str) NUMT = some (.d (.bl true)) := by cases a <;> rfl
theorem nm_in' (a : Nm) : cIn (.str a.str) PLT = some (.d (.bl false)) := by cases a <;> rfl
theorem pl_in (a : Pl) : cIn (.str a.str) PLT = some (.d (.bl true)) := by cases a <;> rfl
end Sp

namespace Lw
open PySem L2 Sm
end Lw
namespace Sp
open PySem L2 TL Sm Lw
local macro_rules | `(tactic| walk_at "ev") => `(tactic| simp only [*, v_c, at0, at1, at2, ixn0, ixn1, ixn2, ixn03, ixn13, ixn23, List.drop_succ_cons, List.drop_zero,  v_var, varK_fz, varK_ol, v_bin, binK_some, binK2_some, binK3_some, valK_some, v_ldd, v_ldn, v_lds, ldK_ol, ldK_fz, v_frzd, v_frzn, v_frzs, frzK_ol, frzK_fz, v_frzs0, v_frzs1, frzsK_some, frzsK2_some, v_lds0, v_lds1, ldsK_some, ldsK2_some, v_ldCd, v_ldCn, v_ldCs, ldCK_ol, ldCK_fz, v_ldsC0, v_ldsC1, ldsCK_some, ldsCK2_some, v_anil, v_acons, aConsK_some, aConsK2_some, v_tup, tupK_some, tupK2_some, v_lst, lstK_some, lstK2_some,
  v_neg, negK_some, v_if, ifK_t, ifK_f, v_tst, tstK_some, v_band, v_bor, v_bnot, andK_t, andK_f, orK_t, orK_f, notK_some, v_and, v_or, v_not, andVK_t, andVK_f, orVK_t, orVK_f, notVK_some, v_chain, chK1_some, chK2_some, chK3_some, chK4_t, chK4_f, v_onone, v_osome, partK_some, v_sl, slK1_some, slK2_some, slK3_some, slK4_some, v_slL, v_slS, v_slT, v_slStr, v_rev, revK_some, revK2_l, v_cb, cbK_some, cbK2_some, v_m1, m1K_some, m1K2_some, m1K3_some,
  v_app, appK_ol, appK2_some, appK3_some, appK4_ol, v_pop, popK_ol, v_popAt, popAtK_ol, popAtK2_some, v_c0, c0K_some, c0K2_some, c0K3_some, c0K4_some, melt0, melt1, meltK_some, meltK2_ol, meltK2_fz, v_c1, c1K_some, c1K2_ol, c1K3_some, c1K4_some, c1K5_some, v_seq, seqK_nx, seqK_rt, seqK_ct, v_next, v_cont, v_expr, exprK_some, v_ret, retK_some, v_retN, v_asg, asgK_some, nxK_some, v_stN, v_stD, v_stS, stK_some, v_notT, notTK_fz, notTK_un, notTK_ol, v_sif, sifK_t, sifK_f,
  v_asgT, asgTK_some, asgTK2_some, v_gN, v_gT, v_gNil, v_gCons, gConsK_some, v_par, parK_some, parK2_some, v_aug, augK_fz, augK2_some, augK3_some, augK4_some, v_six, sixK_some, sixK2_some, sixK3_ol, sixK4_some, sixK5_ol, sixK6_some, v_for, forK_some, v_lc, v_yes, v_iL, v_iA, iLK_some, iAK_t, iAK_s, iAK_l, iAK_sls, iAK_sl, iAK_n, iLK2_l, iLK2_s, v_iR1, v_iR2, r2K_some, v_iEn, enK_some, outK_rt, outK_nx, outK2_some, v_rd, v_rn, v_rs, retRK_ol, retRK_fz,
  add_i, add_s, add_l, sub_i, mul_i, mod_i, div_i, pow_i, lt_i, le_i, gt_i, ge_i, eq_i, ne_i, eq_s, ne_s, is_n, isN_n, ix_l, ix_t, ix_s, len_l, len_s, len_t, len_str, abs_i, max_i, min_i, int_i, int_b, list_l, list_s, str_i, str_s, lent, noRs, noL, noLs, lcK2_some, lcL_nil, lcL_cons, lcT1_some, lcT2_t, lcT2_f, lcT3_some, lcT4_some, lcT5_some, forL_nil, forL_cons, turnK_some, turnK2_nx, turnK2_ct, turnK2_rt, wipeG, restG,
  uns, List.replicate_succ, List.replicate_zero, List.getElem?_cons_zero, List.getElem?_cons_succ, List.getElem?_nil, List.set_cons_zero, List.set_cons_succ, List.set_nil, List.length_cons, List.length_nil, List.map_cons, List.map_nil, List.cons_append, List.nil_append, List.append_nil, List.take_succ_cons, List.take_zero, List.take_nil, Option.map_some, Option.map_none, Option.getD_some, Option.getD_none, List.not_mem_nil, not_false_eq_true, List.mem_cons, or_false, false_or,
  Nat.reduceAdd, Nat.reduceSub, Nat.reduceLT, Nat.reduceLeDiff, Int.reduceLT, Int.reduceLE, Int.reduceAdd, Int.reduceSub, Int.reduceMul, Int.reducePow, Int.reduceToNat, Int.reduceNeg, Int.reduceEq, Nat.reduceMul, Nat.reducePow, Nat.zero_add, Nat.add_zero, Nat.reduceEqDiff, decide_true, decide_false, Bool.and_true, Bool.and_false, Bool.true_and, Bool.false_and, Bool.or_true, Bool.or_false, Bool.not_true, Bool.not_false, if_true, if_false, reduceIte, Bool.false_eq_true, and_true, true_and, and_false, false_and, and_self, reduceCtorEq, Bool.and_self, decide_eq_true_eq])

/-! ### the text of a command -/
def Cmd.show : Cmd → Str
  | .num a n => a.str ++ ((" " : String) : Str) ++ Str.ofString (toString ((n : Nat) : Int))
  | .pl a => a.str
/-! ### the text of a plan -/
def shows (p : List Cmd) : Str := if p = [] then ("-" : String) else Txt.join (" | " : String) (p.map Cmd.show)
theorem strs_of (l : List Str) : strsD (l.map D.str) = some l := by
  induction l with
  | nil => rfl
  | cons a l ih => simp only [List.map_cons, strsD, ih, Option.map_some]
end Sp

/-! ## reading what was written -/
namespace Sp
open PySem L2 TL Sm Lw
local macro_rules | `(tactic| walk_at "ev") => `(tactic| simp only [*, v_c, at0, at1, at2, ixn0, ixn1, ixn2, ixn03, ixn13, ixn23, List.drop_succ_cons, List.drop_zero,  v_var, varK_fz, varK_ol, v_bin, binK_some, binK2_some, binK3_some, valK_some, v_ldd, v_ldn, v_lds, ldK_ol, ldK_fz, v_frzd, v_frzn, v_frzs, frzK_ol, frzK_fz, v_frzs0, v_frzs1, frzsK_some, frzsK2_some, v_lds0, v_lds1, ldsK_some, ldsK2_some, v_ldCd, v_ldCn, v_ldCs, ldCK_ol, ldCK_fz, v_ldsC0, v_ldsC1, ldsCK_some, ldsCK2_some, v_anil, v_acons, aConsK_some, aConsK2_some, v_tup, tupK_some, tupK2_some, v_lst, lstK_some, lstK2_some,
  v_neg, negK_some, v_if, ifK_t, ifK_f, v_tst, tstK_some, v_band, v_bor, v_bnot, andK_t, andK_f, orK_t, orK_f, notK_some, v_and, v_or, v_not, andVK_t, andVK_f, orVK_t, orVK_f, notVK_some, v_chain, chK1_some, chK2_some, chK3_some, chK4_t, chK4_f, v_onone, v_osome, partK_some, v_sl, slK1_some, slK2_some, slK3_some, slK4_some, v_slL, v_slS, v_slT, v_slStr, v_rev, revK_some, revK2_l, v_cb, cbK_some, cbK2_some, v_m1, m1K_some, m1K2_some, m1K3_some,
  v_app, appK_ol, appK2_some, appK3_some, appK4_ol, v_pop, popK_ol, v_popAt, popAtK_ol, popAtK2_some, v_c0, c0K_some, c0K2_some, c0K3_some, c0K4_some, melt0, melt1, meltK_some, meltK2_ol, meltK2_fz, v_c1, c1K_some, c1K2_ol, c1K3_some, c1K4_some, c1K5_some, v_seq, seqK_nx, seqK_rt, seqK_ct, v_next, v_cont, v_expr, exprK_some, v_ret, retK_some, v_retN, v_asg, asgK_some, nxK_some, v_stN, v_stD, v_stS, stK_some, v_notT, notTK_fz, notTK_un, notTK_ol, v_sif, sifK_t, sifK_f,
  v_asgT, asgTK_some, asgTK2_some, v_gN, v_gT, v_gNil, v_gCons, gConsK_some, v_par, parK_some, parK2_some, v_aug, augK_fz, augK2_some, augK3_some, augK4_some, v_six, sixK_some, sixK2_some, sixK3_ol, sixK4_some, sixK5_ol, sixK6_some, v_for, forK_some, v_lc, v_yes, v_iL, v_iA, iLK_some, iAK_t, iAK_s, iAK_l, iAK_sls, iAK_sl, iAK_n, iLK2_l, iLK2_s, v_iR1, v_iR2, r2K_some, v_iEn, enK_some, outK_rt, outK_nx, outK2_some, v_rd, v_rn, v_rs, retRK_ol, retRK_fz,
  add_i, add_s, add_l, sub_i, mul_i, mod_i, div_i, pow_i, lt_i, le_i, gt_i, ge_i, eq_i, ne_i, eq_s, ne_s, is_n, isN_n, ix_l, ix_t, ix_s, len_l, len_s, len_t, len_str, abs_i, max_i, min_i, int_i, int_b, list_l, list_s, str_i, str_s, lent, noRs, noL, noLs, lcK2_some, lcL_nil, lcL_cons, lcT1_some, lcT2_t, lcT2_f, lcT3_some, lcT4_some, lcT5_some, forL_nil, forL_cons, turnK_some, turnK2_nx, turnK2_ct, turnK2_rt, wipeG, restG,
  uns, List.replicate_succ, List.replicate_zero, List.getElem?_cons_zero, List.getElem?_cons_succ, List.getElem?_nil, List.set_cons_zero, List.set_cons_succ, List.set_nil, List.length_cons, List.length_nil, List.map_cons, List.map_nil, List.cons_append, List.nil_append, List.append_nil, List.take_succ_cons, List.take_zero, List.take_nil, Option.map_some, Option.map_none, Option.getD_some, Option.getD_none, List.not_mem_nil, not_false_eq_true, List.mem_cons, or_false, false_or,
  Nat.reduceAdd, Nat.reduceSub, Nat.reduceLT, Nat.reduceLeDiff, Int.reduceLT, Int.reduceLE, Int.reduceAdd, Int.reduceSub, Int.reduceMul, Int.reducePow, Int.reduceToNat, Int.reduceNeg, Int.reduceEq, Nat.reduceMul, Nat.reducePow, Nat.zero_add, Nat.add_zero, Nat.reduceEqDiff, decide_true, decide_false, Bool.and_true, Bool.and_false, Bool.true_and, Bool.false_and, Bool.or_true, Bool.or_false, Bool.not_true, Bool.not_false, if_true, if_false, reduceIte, Bool.false_eq_true, and_true, true_and, and_false, false_and, and_self, reduceCtorEq, Bool.and_self, decide_eq_true_eq])

end Sp

/-! ## plans, read back -/
namespace Sp
open PySem L2 TL Sm Lw
local macro_rules | `(tactic| walk_at "ev") => `(tactic| simp only [*, v_c, at0, at1, at2, ixn0, ixn1, ixn2, ixn03, ixn13, ixn23, List.drop_succ_cons, List.drop_zero,  v_var, varK_fz, varK_ol, v_bin, binK_some, binK2_some, binK3_some, valK_some, v_ldd, v_ldn, v_lds, ldK_ol, ldK_fz, v_frzd, v_frzn, v_frzs, frzK_ol, frzK_fz, v_frzs0, v_frzs1, frzsK_some, frzsK2_some, v_lds0, v_lds1, ldsK_some, ldsK2_some, v_ldCd, v_ldCn, v_ldCs, ldCK_ol, ldCK_fz, v_ldsC0, v_ldsC1, ldsCK_some, ldsCK2_some, v_anil, v_acons, aConsK_some, aConsK2_some, v_tup, tupK_some, tupK2_some, v_lst, lstK_some, lstK2_some,
  v_neg, negK_some, v_if, ifK_t, ifK_f, v_tst, tstK_some, v_band, v_bor, v_bnot, andK_t, andK_f, orK_t, orK_f, notK_some, v_and, v_or, v_not, andVK_t, andVK_f, orVK_t, orVK_f, notVK_some, v_chain, chK1_some, chK2_some, chK3_some, chK4_t, chK4_f, v_onone, v_osome, partK_some, v_sl, slK1_some, slK2_some, slK3_some, slK4_some, v_slL, v_slS, v_slT, v_slStr, v_rev, revK_some, revK2_l, v_cb, cbK_some, cbK2_some, v_m1, m1K_some, m1K2_some, m1K3_some,
  v_app, appK_ol, appK2_some, appK3_some, appK4_ol, v_pop, popK_ol, v_popAt, popAtK_ol, popAtK2_some, v_c0, c0K_some, c0K2_some, c0K3_some, c0K4_some, melt0, melt1, meltK_some, meltK2_ol, meltK2_fz, v_c1, c1K_some, c1K2_ol, c1K3_some, c1K4_some, c1K5_some, v_seq, seqK_nx, seqK_rt, seqK_ct, v_next, v_cont, v_expr, exprK_some, v_ret, retK_some, v_retN, v_asg, asgK_some, nxK_some, v_stN, v_stD, v_stS, stK_some, v_notT, notTK_fz, notTK_un, notTK_ol, v_sif, sifK_t, sifK_f,
  v_asgT, asgTK_some, asgTK2_some, v_gN, v_gT, v_gNil, v_gCons, gConsK_some, v_par, parK_some, parK2_some, v_aug, augK_fz, augK2_some, augK3_some, augK4_some, v_six, sixK_some, sixK2_some, sixK3_ol, sixK4_some, sixK5_ol, sixK6_some, v_for, forK_some, v_lc, v_yes, v_iL, v_iA, iLK_some, iAK_t, iAK_s, iAK_l, iAK_sls, iAK_sl, iAK_n, iLK2_l, iLK2_s, v_iR1, v_iR2, r2K_some, v_iEn, enK_some, outK_rt, outK_nx, outK2_some, v_rd, v_rn, v_rs, retRK_ol, retRK_fz,
  add_i, add_s, add_l, sub_i, mul_i, mod_i, div_i, pow_i, lt_i, le_i, gt_i, ge_i, eq_i, ne_i, eq_s, ne_s, is_n, isN_n, ix_l, ix_t, ix_s, len_l, len_s, len_t, len_str, abs_i, max_i, min_i, int_i, int_b, list_l, list_s, str_i, str_s, lent, noRs, noL, noLs, lcK2_some, lcL_nil, lcL_cons, lcT1_some, lcT2_t, lcT2_f, lcT3_some, lcT4_some, lcT5_some, forL_nil, forL_cons, turnK_some, turnK2_nx, turnK2_ct, turnK2_rt, wipeG, restG,
  uns, List.replicate_succ, List.replicate_zero, List.getElem?_cons_zero, List.getElem?_cons_succ, List.getElem?_nil, List.set_cons_zero, List.set_cons_succ, List.set_nil, List.length_cons, List.length_nil, List.map_cons, List.map_nil, List.cons_append, List.nil_append, List.append_nil, List.take_succ_cons, List.take_zero, List.take_nil, Option.map_some, Option.map_none, Option.getD_some, Option.getD_none, List.not_mem_nil, not_false_eq_true, List.mem_cons, or_false, false_or,
  Nat.reduceAdd, Nat.reduceSub, Nat.reduceLT, Nat.reduceLeDiff, Int.reduceLT, Int.reduceLE, Int.reduceAdd, Int.reduceSub, Int.reduceMul, Int.reducePow, Int.reduceToNat, Int.reduceNeg, Int.reduceEq, Nat.reduceMul, Nat.reducePow, Nat.zero_add, Nat.add_zero, Nat.reduceEqDiff, decide_true, decide_false, Bool.and_true, Bool.and_false, Bool.true_and, Bool.false_and, Bool.or_true, Bool.or_false, Bool.not_true, Bool.not_false, if_true, if_false, reduceIte, Bool.false_eq_true, and_true, true_and, and_false, false_and, and_self, reduceCtorEq, Bool.and_self, decide_eq_true_eq])

end Sp

namespace Sm
open PySem L2 PyProof.Rows
/-! ## repr: where no guard is known to run -/
section
variable {X : Cx}
end
/-! ## a def called in one known surrounding -/
section
variable {P : Program} {w : World} {K : PySem.W.Frag} {mg : Str → Option Value} {base : Heap} {A : Around} {outer : List Env} {s : Shared} {H : Hp} {N ps : List Str} {k : Nat} {x qual : Str} {st : Stmt} {f : Addr} {fd : FuncData}
theorem call_at {args : Args} {us : List Value} {vs : List V} {Q : VK} {E : XK} (F : Fun K x qual st f fd) (S : FnScope N ps (defScope st)) (room : Room (k + 1) A) (env : Env0 P w K mg base A outer s H)
    (bound : BindsTo s fd args (ps.zip us)) (rv : Vals vs us) (hlen : vs.length = ps.length)
    (body : ∀ cdv : Value, Room k (A.deeper (envOfC qual (defScope st) s.heap.objs.size f cdv)) → ∃ t, PSs (cxOf CX0 P w K mg base N qual (defScope st) f cdv A outer s H E) (defBody st) t ∧ t { nx := fun _ H' => Q .non H', rt := Q } (start N vs) H) :
    codeAny (model P w) A (.call (.ref f) args) (CR CX0 outer P w H s Q E) s := by
  obtain ⟨_, _, _, _, _, _, cdv, _, _, rfl, look, hcode⟩ := F.ex
  have old : ∀ b o, base.get? b = some o → s.heap.get? b = some o := fun b o z => (env.bs b o z).1
  have inK : K.In s.heap := env.mod.kin.keeps old
  refine codeAny_call_function room.depth (inK _ _ look) rfl S.co S.gen rfl (PySem.W.codeRec_of inK hcode) (bound _ _ _ _ ?_)
  have kinds : ∀ y ∈ ps.zip us, (defScope st).names.lookup y.1 = some .local ∨ ((defScope st).names.lookup y.1 = some .cell ∧ ((cellsFrom (s.heap.objs.size + 1) (defScope st).names []).lookup y.1).isSome = true) := by
    intro y hy
    refine (S.par y.1 (List.of_mem_zip (show (y.1, y.2) ∈ _ from hy)).1).imp id fun z => ?_
    exact And.intro z (PySem.W.cellsFrom_some _ _ _ (.inl z))
  refine wpAny_newFunctionEnv_cells S.kind kinds fun en eqE st1 fresh => ?_
  cases eqE
  refine And.intro ((env.mod.nolimit.keeps old).keeps fresh.toInCall.keep) (codeAny_func ?_)
  obtain ⟨t, run, ask⟩ := body cdv (room.deeper _)
  refine wpAny_mono (run.run [] st1 (start N vs) H _ (inv_start S room.hd env hlen rv fresh) ask) (fun fl st2 res => ?_) fun _ _ z => z
  match fl, res with
  | .ret u, ⟨v, σ', H', J, r', q'⟩ => exact ⟨v, H', J.os, J.bare, J.base, J.hok, r', q'⟩
  | .next, ⟨σ', H', J, q'⟩ => exact ⟨.non, H', J.os, J.bare, J.base, J.hok, rfl, q'⟩
  | .brk, ⟨_, _, _, z⟩ => exact z.elim
  | .cont, ⟨_, _, _, z⟩ => exact z.elim
end
/-- the law's def, at the place where the claim calls it -/
def LawAt (P : Program) (w : World) (K : PySem.W.Frag) (mg : Str → Option Value) (base : Heap) (f : Addr) : Prop :=
  ∀ (s : Shared) (H : Hp) (a : Addr) (ns : List Int), ns.length ≤ 63 → Only H → SqL K H a (ns.map V.int) → Env0 P w K mg base callerA [] s H →
    codeAny (model P w) callerA (.call (.ref f) ⟨[.ref a], []⟩) (CR CX0 [] P w H s (fun v _ => v = .bl true) fun _ _ _ => False) s
theorem room_at {k : Nat} (hk : k < 200) : Room k callerA :=
  ⟨rfl, by have : callerA.depth + 3 * 200 + 5 < recursionLimit := (by decide); omega, by have : callerA.units + 16 * 200 + 200 < cLine := (by decide); omega⟩
section
variable {P : Program} {w : World} {K : PySem.W.Frag} {mg : Str → Option Value} {base : Heap}
theorem law_at {N : List Str} {k : Nat} {x qual : Str} {st : Stmt} {f : Addr} {fd : FuncData} {B : G → Option O} (hk : k + 1 < 200) (F : Fun K x qual st f fd) (S : FnScope N ["script"] (defScope st)) (b1 : ∀ (s : Shared) (v : Value), BindsTo s fd ⟨[v], []⟩ [("script", v)])
    (holds : LawHolds (dM 1 N.length B))
    (body : ∀ (cdv : Value) (s : Shared) (H : Hp) (E : XK) (c : C0), Room k (callerA.deeper (envOfC qual (defScope st) s.heap.objs.size f cdv)) →
      SSs (cxOf CX0 P w K mg base N qual (defScope st) f cdv callerA [] s H E).nox c (defBody st) B) : LawAt P w K mg base f := by
  intro s H a ns hn hO hS e0
  obtain ⟨hv, m, g, r, g', A0, e, kq⟩ := law_sp (mg := mg) (n := N.length) (B := B) hS hO (holds ns hn)
  refine call_at (us := [.ref a]) (vs := [.ref a]) F S (room_at hk) e0 (b1 s (.ref a)) (.cons rfl .nil) rfl fun cdv hr => ?_
  refine ⟨_, (body cdv s H _ (c0Of m g [.ref a] H) hr).nox, ?_⟩
  have hl : (1 : Nat) ≤ N.length := by have := congrArg List.length S.pre; rw [List.length_take] at this; simp at this; omega
  unfold dM at e
  split at e
  · unfold fnM at e
    obtain ⟨o, e1, e2⟩ := Option.bind_eq_some_iff.mp e
    have A1 := abs_start (N := N) A0 hl
    refine ⟨m, _, o, A1, e1, ?_⟩
    cases o with
    | nx g1 =>
      cases e2
      exact fun m' σ' H' A' S' => kq .non H' (ret_ok (r := .d .non) (v := .non) A0 A' .non rfl)
    | rt r1 g1 =>
      obtain ⟨r2, e3, e4⟩ := Option.map_eq_some_iff.mp e2
      cases e4
      exact fun v m' σ' H' A' V' => kq v H' (ret_ok A0 A' V' e3)
    | bk g1 => cases e2
    | xc C x g1 => cases e2
    | ct g1 => cases e2
  · cases e
/-- the claim's call, from the law at its place: the script alone may be told of -/
theorem claim_call {mb : Str → Option Value} {fa a : Addr} {s : Shared} {vs : List Value} {ns : List Int} (inK : K.In s.heap) (glob : s.heap.Ns mainGlobals mg) (blt : s.heap.Ns builtinsNs mb) (std : ∀ x : Str, x ≠ "__name__" → mb x = bootBuiltins x)
    (free : s.heap.NoLimit) (still : s.gens = #[]) (at_a : s.heap.get? a = some { cls := .type "list", data := .seq vs.toArray }) (whole : IntsAre vs ns) (few : ns.length ≤ 63)
    (L : ∀ base : Heap, K.In base → base.Ns mainGlobals mg → LawAt P w K mg base fa) :
    codeAny (model P w) callerA (.call (.ref fa) ⟨[.ref a], []⟩) (fun r s' => r = .ok (.ret (.bool true)) ∧ OldK s.heap s'.heap ∧ s'.os = s.os ∧ AllBare s'.gens) s := by
  have rv := vals_ints whole
  have big : ns.length ≤ sizeLine := Nat.le_trans few (by decide)
  let ob : Obj := { cls := .type "list", data := .seq vs.toArray }
  let H : Hp := fun b => if b = a ∧ K.lookup a = none then some (.frz ob (.lst (ns.map V.int))) else none
  have seen : ∀ b u, H b = some u → b = a ∧ K.lookup a = none ∧ u = .frz ob (.lst (ns.map V.int)) := fun b u z => by
    by_cases hb : b = a ∧ K.lookup a = none
    · have := (if_pos hb).symm.trans z
      cases this
      exact ⟨hb.1, hb.2, rfl⟩
    · have := (if_neg hb).symm.trans z
      cases this
  have unseen : ∀ b : Addr, (b = a → K.lookup a = none → False) → H b = none := fun b z => if_neg fun y => z y.1 y.2
  have only : Only H := fun b => by
    cases hb : H b with
    | none => exact .inl rfl
    | some u => exact .inr ⟨_, _, by rw [(seen b u hb).2.2]⟩
  have known : SqL K H a (ns.map V.int) := by
    cases hk : K.lookup a with
    | none => exact .inl (.inr ⟨ob, if_pos ⟨rfl, hk⟩⟩)
    | some o =>
      have e := inK a o hk
      rw [at_a] at e
      cases e
      exact .inr ⟨_, vs.toArray, _, hk, rfl, rfl, rfl, by rw [List.size_toArray, whole.length]; exact big, by simpa using rv⟩
  have ok : HOk P w H s.heap := fun b u z => by
    obtain ⟨rfl, _, rfl⟩ := seen b u z
    exact ⟨at_a, by rw [List.length_map]; exact big, vs, _, rv, at_a⟩
  have hid : ∀ {b : Addr} {o : Obj}, s.heap.get? b = some o → H b = none → (hidT s.heap H).get? b = some o := fun y z => hidT_get y z
  have spaces : ∀ {b : Addr} {m : Str → Option Value}, s.heap.Ns b m → (hidT s.heap H).Ns b m := by
    rintro b m ⟨o, es, ep, y, z, rest⟩
    refine ⟨o, es, ep, hid y (unseen b fun e _ => ?_), z, rest⟩
    subst e
    rw [at_a] at y
    cases y
    cases (show Data.seq vs.toArray _ = Data.dict es ep from z)
  have inB : K.In (hidT s.heap H) := fun b o y => hid (inK b o y) (unseen b fun e z => by subst e; rw [z] at y; cases y)
  have modB : Mod K mg (hidT s.heap H) := by
    obtain ⟨mc, y, z⟩ := free
    exact ⟨inB, spaces glob, ⟨mb, spaces blt, std⟩, ⟨mc, spaces y, z⟩⟩
  have e0 : Env0 P w K mg (hidT s.heap H) callerA [] s H :=
    { frames := rfl, mod := modB, bs := fun _ _ y => of_hidT y, bsz := Nat.le_of_eq (hidT_size _ _), funs := trivial, frf := fun b y => absurd (show b ∈ ([] : List Addr) from y) (by simp), hok := ok, bare := .of_eq still }
  refine codeAny_mono (L _ inB (spaces glob) s H a ns few only known e0) fun r s' h => ?_
  match r, h with
  | .ok (.ret u), ⟨v, H', os, bare, un, ok', ru, hv⟩ =>
    cases (show v = .bl true from hv)
    have hu : u = Value.bool true := ru
    subst hu
    refine ⟨rfl, OldK.of_keep fun b o y => ?_, os, bare⟩
    cases hb : H b with
    | none => exact un.keep b o y hb (fun z => absurd (show b ∈ ([] : List Addr) from z) (by simp)) (by simp)
    | some t =>
      obtain ⟨rfl, _, rfl⟩ := seen b t hb
      have now := (ok' b _ (un.frzs b _ _ hb)).1
      rw [at_a] at y
      cases y
      exact now
  | .error e, h => exact h.elim
  | .ok .next, h => exact h.elim
  | .ok .brk, h => exact h.elim
  | .ok .cont, h => exact h.elim
end
theorem walkR {l : PySem.W.OpenLaw} {q : Program} {loose : List Str} {XP : (Str → Option Value) → Heap → Prop} {YP : World → Heap → Prop} {d : DefRec} {K : Params → PySem.W.Frag} (hn : l.most = some 63) (hdf : d.params.defaults = [])
    (hY : ∀ (w : World) (h : Heap), YP w h → (K w.params).In h)
    (F : ∀ (w : World) (mg : Str → Option Value) (fa : Addr) (h : Heap), (K w.params).In h → h.Ns mainGlobals mg → mg d.name = some (.ref fa) → ∀ base : Heap, (K w.params).In base → base.Ns mainGlobals mg → LawAt l.prog w (K w.params) mg base fa) :
    PySem.W.WalkO q loose XP YP l.row.toRowW d [] (fun f vs => PySem.call f vs) := by
  refine Att.attach_call hn hdf fun w _ s mg mb fa o _ _ _ a vs ns G Y _ _ _ hmg at_a whole few still => ?_
  exact claim_call (hY w _ Y) G.T.g G.T.b G.T.builtins G.T.nolimit still at_a whole few (F w mg fa _ (hY w _ Y) G.T.g hmg)
end Sm

namespace Sm
open PySem L2
/-! ## calls with keywords alone -/
def prm {α : Type} (perm : List Nat) (l : List α) : List α := perm.filterMap fun i => l[i]?
def aPerm (perm : List Nat) (fs : G → Option (List R × G)) : G → Option (List R × G) := fun g => (fs g).bind fun p => if p.1.length = perm.length then some (prm perm p.1, p.2) else none
section
variable {K : PySem.W.Frag} {mg : Str → Option Value} {c : C0} {m : List Addr} {g : G} {σ : St} {H : Hp}
theorem VRs.at : ∀ {i : Nat} {vs : List V} {rs : List R}, VRs K mg c m g σ H vs rs → (vs[i]? = none ∧ rs[i]? = none) ∨ ∃ v r, vs[i]? = some v ∧ rs[i]? = some r ∧ VR K mg c m g σ H v r
  | _, [], [], _ => .inl ⟨rfl, rfl⟩
  | 0, v :: _, r :: _, h => .inr ⟨v, r, rfl, rfl, h.1⟩
  | i + 1, _ :: vs, _ :: rs, h => by
    rw [List.getElem?_cons_succ, List.getElem?_cons_succ]
    exact VRs.at h.2
  | _, [], _ :: _, h => h.elim
  | _, _ :: _, [], h => h.elim
theorem VRs.prm : ∀ {perm : List Nat} {vs : List V} {rs : List R}, VRs K mg c m g σ H vs rs → VRs K mg c m g σ H (Sm.prm perm vs) (Sm.prm perm rs)
  | [], _, _, _ => trivial
  | i :: perm, vs, rs, h => by
    have t := VRs.prm (perm := perm) h
    rcases h.at (i := i) with ⟨h1, h2⟩ | ⟨v, r, h1, h2, h3⟩
    · unfold Sm.prm at t ⊢
      rw [List.filterMap_cons_none h1, List.filterMap_cons_none h2]
      exact t
    · unfold Sm.prm at t ⊢
      rw [List.filterMap_cons_some h1, List.filterMap_cons_some h2]
      exact ⟨h3, t⟩
theorem Nws.at : ∀ {i : Nat} {vs : List V} {rs : List R}, Nws H vs rs → (vs[i]? = none ∧ rs[i]? = none) ∨ ∃ v r, vs[i]? = some v ∧ rs[i]? = some r ∧ Nw H v r
  | _, [], [], _ => .inl ⟨rfl, rfl⟩
  | 0, v :: _, r :: _, h => .inr ⟨v, r, rfl, rfl, h.1⟩
  | i + 1, _ :: vs, _ :: rs, h => by
    rw [List.getElem?_cons_succ, List.getElem?_cons_succ]
    exact Nws.at h.2
  | _, [], _ :: _, h => h.elim
  | _, _ :: _, [], h => h.elim
theorem Nws.prm : ∀ {perm : List Nat} {vs : List V} {rs : List R}, Nws H vs rs → Nws H (Sm.prm perm vs) (Sm.prm perm rs)
  | [], _, _, _ => trivial
  | i :: perm, vs, rs, h => by
    have t := Nws.prm (perm := perm) h
    rcases h.at (i := i) with ⟨h1, h2⟩ | ⟨v, r, h1, h2, h3⟩
    · unfold Sm.prm at t ⊢
      rw [List.filterMap_cons_none h1, List.filterMap_cons_none h2]
      exact t
    · unfold Sm.prm at t ⊢
      rw [List.filterMap_cons_some h1, List.filterMap_cons_some h2]
      exact ⟨h3, t⟩
end
theorem vals_at : ∀ {i : Nat} {vs : List V} {us : List Value}, Vals vs us → (vs[i]? = none ∧ us[i]? = none) ∨ ∃ v u, vs[i]? = some v ∧ us[i]? = some u ∧ RelV v u
  | _, _, _, .nil => .inl ⟨rfl, rfl⟩
  | 0, _, _, .cons h _ => .inr ⟨_, _, rfl, rfl, h⟩
  | i + 1, _, _, .cons _ t => by
    rw [List.getElem?_cons_succ, List.getElem?_cons_succ]
    exact vals_at t
theorem vals_prm : ∀ {perm : List Nat} {vs : List V} {us : List Value}, Vals vs us → Vals (prm perm vs) (prm perm us)
  | [], _, _, _ => .nil
  | i :: perm, vs, us, h => by
    have t := vals_prm (perm := perm) h
    rcases vals_at (i := i) h with ⟨h1, h2⟩ | ⟨v, u, h1, h2, h3⟩
    · unfold prm at t ⊢
      rw [List.filterMap_cons_none h1, List.filterMap_cons_none h2]
      exact t
    · unfold prm at t ⊢
      rw [List.filterMap_cons_some h1, List.filterMap_cons_some h2]
      exact .cons h3 t
/-- how keywords alone bind -/
abbrev KB (K : PySem.W.Frag) (fd : FuncData) (ps ks : List Str) (perm : List Nat) : Prop := KBn K fd ps 0 ks (fun _ ws => prm perm ws) (fun _ zs => prm perm zs)
theorem _root_.L2.Fun.kws {K : PySem.W.Frag} {x qual : Str} {st : Stmt} {f : Addr} {fd : FuncData} {ps ks : List Str} {perm : List Nat} (F : Fun K x qual st f fd)
    (h : ∀ (kV doc pm : Value) (an : Option Addr) (cdv ct : Value) (ws : List Value), ws.length = ks.length → bindArgs (PySem.W.fnOf x qual (defArgs st) (defBody st) (defScope st) .none kV doc pm an cdv ct) ⟨[], ks.zip ws⟩ = pure (ps.zip (prm perm ws))) : KB K fd ps ks perm := by
  obtain ⟨oc, od, kV, doc, pm, an, cdv, ct, osl, rfl, lk, hcd⟩ := F.ex
  refine ⟨fun s us ws _ h0 h1 => ?_, fun _ r => vals_prm r⟩
  obtain rfl : us = [] := List.length_eq_zero_iff.mp h0
  exact .of_eq (h kV doc pm an cdv ct ws h1)
section
variable {X : Cx} {c : C0} {kws : List Keyword} {fs : G → Option (List R × G)} {fe : G → Option (R × G)} {e : Expr}
theorem _root_.L2.PK.imp {X : Cx} {kws : List Keyword} {t t' : TA} (h : PK X kws t) (k : ∀ σ H Q, t' σ H Q → t σ H Q) : PK X kws t' := ⟨fun pos pins s σ H Q I q => h.run pos pins s σ H Q I (k σ H Q q)⟩
variable {k : Nat} {f : Addr} {fd : FuncData} {ps ks : List Str} {perm : List Nat} {x : Str} {p pos : Pos} {n nn : Nat} {B : G → Option O}
end
end Sm

/-! ## sets of texts: made of a list, sorted -/
namespace SetX
open PySem PySem.Spec PyProof.Rows L2
def wordOf : Int × Value → Str := fun e => match e.2 with
  | .str z _ => z
  | _ => Str.empty
def IsW (P : Program) (w : World) (e : Int × Value) : Prop := ∃ z u, e = ((strKind P w).hash z, .str z u)
/-- a set of texts at a: its members in some order are L -/
structure Texts (P : Program) (w : World) (h : Heap) (a : Addr) (L : List Str) : Prop where
  ex : ∃ o es ep t, h.get? a = some o ∧ o.ExactSet ∧ o.data = .set es ep t ∧ (∀ e ∈ es.toList, IsW P w e) ∧ (es.toList.map wordOf).Perm L ∧ es.size < scanBound ∧ t.fits es.size = true ∧
    Ris t.place.toList ∧ (w.params.followText "set-order" = true ∨ t.led = true)
  nd : L.Nodup
def put1 (L : List Str) (z : Str) : List Str := if z ∈ L then L else L ++ [z]
section
variable {P : Program} {w : World} {A : Around} {E : Value → Shared → Prop} {s : Shared} {a : Addr} {L : List Str} {h h' : Heap} {z : Str} {u : Tok}
theorem Texts.at (R : Texts P w h a L) (k : ∀ o, h.get? a = some o → h'.get? a = some o) : Texts P w h' a L := by
  obtain ⟨⟨o, es, ep, t, ho, rest⟩, nd⟩ := R
  exact ⟨⟨o, es, ep, t, k o ho, rest⟩, nd⟩
theorem word_is {e : Int × Value} (g : IsW P w e) : (strKind P w).is z e.2 = true ↔ wordOf e = z := by
  obtain ⟨y, v, rfl⟩ := g
  show (Value.isStrOf z (.str y v)) = true ↔ y = z
  constructor
  · intro q
    obtain ⟨t, ht⟩ := Value.isStrOf_shape q
    cases ht
    rfl
  · rintro rfl
    exact strKind_is P w y v
theorem elems_ok {l : List (Int × Value)} (g : ∀ e ∈ l, IsW P w e) : ElemsOf (strKind P w) l := fun e he => by
  obtain ⟨y, v, rfl⟩ := g e he
  exact ⟨⟨y, strKind_is P w y v, rfl⟩, rfl⟩
theorem put1_nd (nd : L.Nodup) : (put1 L z).Nodup := by
  unfold put1
  split
  · exact nd
  · rename_i hz
    rw [List.nodup_append]
    exact ⟨nd, by simp, fun x hx y hy e => hz (by rw [List.mem_singleton.mp hy] at e; rw [← e]; exact hx)⟩
/-- what stands after a text was laid -/
theorem laid_ok {g : Bool → Sem Unit} (quiet : ∀ (b : Bool) (s1 : Shared) (Q1 : Unit → Shared → Prop), Q1 () s1 → wpAny (model P w) A (g b) Q1 E s1)
    {o : Obj} {es es1 : Array (Int × Value)} {ep : Nat} {t t1 : SetTable} {M : List Str} (look : s.heap.get? a = some o) (exact_ : o.ExactSet) (data : o.data = .set es ep t)
    (all1 : ∀ e ∈ es1.toList, IsW P w e) (pm1 : (es1.toList.map wordOf).Perm M) (ndM : M.Nodup) (few : es1.size < scanBound) (fits1 : t1.fits es1.size = true) (ris1 : Ris t1.place.toList)
    (led1 : w.params.followText "set-order" = true ∨ t1.led = true) {d : Bool} {Q : Option Bool → Shared → Prop} (fin : ∀ h', Heap.SameBut a s.heap h' → Texts P w h' a M → Q (some true) { s with heap := h' }) :
    wpAny (model P w) A (do
        storeSet a es1 t1
        if (!d && t1.tooFull) = true then do
            g (relayAll t1 es1 (SetTable.grown es1.size)).2.2
            storeSet a (relayAll t1 es1 (SetTable.grown es1.size)).1 (relayAll t1 es1 (SetTable.grown es1.size)).2.1
            pure (some true)
          else pure (some true)) Q E s := by
  refine wpAny_bind (wpAny_storeSet_of look data ?_ (fits_of_scanBound few))
  have look1 := store_at (es' := es1) (t' := t1) look data
  have same1 := Heap.SameBut.update s.heap a (Obj.putSet es1 t1)
  by_cases full : (!d && t1.tooFull) = true
  · rw [if_pos full]
    have p2 := relayAll_perm t1 es1 (SetTable.grown es1.size)
    have f2 := relayAll_fits t1 es1 (SetTable.grown es1.size)
    have r2 := relayAll_ris t1 es1 (SetTable.grown es1.size)
    have l2 := relayAll_led t1 es1 (SetTable.grown es1.size)
    generalize relayAll t1 es1 (SetTable.grown es1.size) = Y at p2 f2 r2 l2 ⊢
    obtain ⟨es2, t2, b2⟩ := Y
    dsimp only at p2 f2 r2 l2 ⊢
    have sz : es2.size = es1.size := by rw [← Array.length_toList, p2.length_eq, Array.length_toList]
    refine wpAny_bind (quiet _ _ _ ?_)
    refine wpAny_bind (wpAny_storeSet_of look1 rfl ?_ (fits_of_scanBound (by rw [sz]; exact few)))
    refine wpAny_pure (fin _ (same1.trans (Heap.SameBut.update _ a _)) ⟨⟨_, es2, _, t2, store_at look1 rfl, exact_, rfl, fun e he => all1 e (p2.mem_iff.mp he), (p2.map wordOf).trans pm1, by rw [sz]; exact few, f2, r2, ?_⟩, ndM⟩)
    exact led1.imp id fun q => by rw [l2]; exact q
  · rw [if_neg full]
    exact wpAny_pure (fin _ same1 ⟨⟨_, es1, _, t1, look1, exact_, rfl, all1, pm1, few, fits1, ris1, led1⟩, ndM⟩)
theorem add_ok {Q : Bool → Shared → Prop} (R : Texts P w s.heap a L) (room : L.length + 1 < scanBound)
    (fin : ∀ (b : Bool) (h' : Heap), Heap.SameBut a s.heap h' → Texts P w h' a (put1 L z) → Q b { s with heap := h' }) : wpAny (model P w) A (setAddHashed a (.str z u) ((strKind P w).hash z)) Q E s := by
  obtain ⟨⟨o, es, ep, t, look, exact_, data, all, pm, few, fits, ris, led⟩, nd⟩ := R
  have key : (strKind P w).is z (.str z u) = true := strKind_is P w z u
  have scan : (Value.str z u).scannable = true := rfl
  have els : ElemsOf (strKind P w) es.toList := elems_ok all
  have size : es.size = L.length := by rw [← Array.length_toList, ← List.length_map (f := wordOf), pm.length_eq]
  unfold setAddHashed setAddHashedIn
  refine wpAny_holding (wpAny_bind (wpAny_setState_of look data fits ?_))
  dsimp only
  rw [byScan_of scan few els]
  simp only [if_true]
  unfold setAddByScan
  refine wpAny_bind (wpAny_bind (wpAny_rule (wpAny_bind (wpAny_setScan_of key look data fits els ?_))))
  cases found : List.findIdx? (fun e => (strKind P w).is z e.2) es.toList with
  | some j =>
    obtain ⟨hj, pj, _⟩ := List.findIdx?_eq_some_iff_getElem.mp found
    have inL : z ∈ L := pm.mem_iff.mp (List.mem_map.mpr ⟨es.toList[j], List.getElem_mem hj, (word_is (all _ (List.getElem_mem hj))).mp pj⟩)
    refine wpAny_pure (wpAny_pure (fin _ _ (Heap.SameBut.refl a s.heap) ?_))
    unfold put1
    rw [if_pos inL]
    exact ⟨⟨o, es, ep, t, look, exact_, data, all, pm, few, fits, ris, led⟩, nd⟩
  | none =>
    have out : z ∉ L := fun y => by
      obtain ⟨e, he, q⟩ := List.mem_map.mp (pm.mem_iff.mpr y)
      have no := List.findIdx?_eq_none_iff.mp found e he
      rw [(word_is (all e he)).mpr q] at no
      cases no
    have gaveWay : ∀ (b : Bool) (s1 : Shared) (Q1 : Unit → Shared → Prop), Q1 () s1 → wpAny (model P w) A (match b with | true => rule "set.scan.the-table-gave-way" | false => pure ()) Q1 E s1 := by
      intro b s1 Q1 q
      cases b
      · exact wpAny_pure q
      · exact wpAny_rule q
    have p1 := layNew_perm t es ((strKind P w).hash z) (.str z u)
    have f1 := layNew_fits t es ((strKind P w).hash z) (.str z u)
    have r1 := layNew_ris t es ((strKind P w).hash z) (.str z u) ris
    have l1 := layNew_led t es ((strKind P w).hash z) (.str z u)
    generalize layNew t es ((strKind P w).hash z) (.str z u) = Y at p1 f1 r1 l1 ⊢
    obtain ⟨es1, t1, d1, b1⟩ := Y
    dsimp only at p1 f1 r1 l1 ⊢
    rw [Array.toList_push] at p1
    have all1 : ∀ e ∈ es1.toList, IsW P w e := fun e he => (List.mem_append.mp (p1.mem_iff.mp he)).elim (all e) fun y => ⟨z, u, List.mem_singleton.mp y⟩
    have pm1 : (es1.toList.map wordOf).Perm (put1 L z) := by
      unfold put1
      rw [if_neg out]
      refine (p1.map wordOf).trans ?_
      rw [List.map_append]
      exact pm.append_right [z]
    have nd1 := put1_nd (z := z) nd
    have few1 : es1.size < scanBound := by
      have y := pm1.length_eq
      unfold put1 at y
      rw [if_neg out, List.length_map, Array.length_toList, List.length_append] at y
      have y' : es1.size = L.length + 1 := y
      omega
    have led1 : w.params.followText "set-order" = true ∨ t1.led = true := led.imp id fun q => by rw [l1]; exact q
    have last : ∀ h', Heap.SameBut a s.heap h' → Texts P w h' a (put1 L z) → Q true { s with heap := h' } := fun h' sb r => fin true h' sb r
    refine wpAny_bind (gaveWay _ _ _ ?_)
    split
    · refine wpAny_bind ?_
      rw [hashByValue_scannable 8 scan]
      refine wpAny_pure (laid_ok gaveWay look exact_ data all1 pm1 nd1 few1 ?_ ?_ ?_ fun h' sb r => ?_)
      · first | exact f1 | (split <;> first | exact f1 | exact SetTable.fits_plain_off f1)
      · first | exact r1 | (split <;> exact r1)
      · first | exact led1 | (split <;> exact led1)
      · dsimp only
        exact wpAny_pure (last h' sb r)
    · refine wpAny_bind (wpAny_pure ?_)
      simp only [if_true]
      refine laid_ok gaveWay look exact_ data all1 pm1 nd1 few1 f1 r1 led1 fun h' sb r => ?_
      dsimp only
      exact wpAny_pure (last h' sb r)
end
/-! ### set(xs), xs a list of texts -/
def dd (l : List Str) (i : Nat) : List Str := (l.take i).foldl put1 []
theorem dd_succ {l : List Str} {i : Nat} {z : Str} (h : l[i]? = some z) : dd l (i + 1) = put1 (dd l i) z := by
  unfold dd
  rw [List.take_add_one, h, List.foldl_append]
  rfl
theorem dd_len (l : List Str) : ∀ i, (dd l i).length ≤ i
  | 0 => by simp [dd]
  | i + 1 => by
    have ih := dd_len l i
    cases h : l[i]? with
    | none =>
      unfold dd at ih ⊢
      rw [List.take_add_one, h]
      simp only [Option.toList_none, List.append_nil]
      omega
    | some z =>
      rw [dd_succ h]
      unfold put1
      split
      · omega
      · rw [List.length_append, List.length_singleton]; omega
section
variable {P : Program} {w : World} {A : Around} {E : Value → Shared → Prop} {s : Shared} {R : Result → Shared → Prop} {it : Addr} {fp wr : List Addr} {GG : Array GenState → Array GenState → Prop} {n : Nat} {Pv : Nat → Value → Prop} {St : Nat → Shared → Prop}
theorem loop_ok (W : WalksS P w A.in1 it fp wr GG n Pv St) (S : Addr) (apart : S ∉ fp) (l : List Str) (is_ : ∀ i v, Pv i v → ∃ z u, l[i]? = some z ∧ v = .str z u) (room : n + 1 < scanBound) :
    ∀ (left i : Nat) (s : Shared), n - i = left → i ≤ n → St i s → Texts P w s.heap S (dd l i) → (∀ s', Moved (S :: wr) GG s s' → Texts P w s'.heap S (dd l n) → R (.ok (.ret .none)) s') →
      codeAny (model P w) A (.builtin "set.update.loop" ⟨[.ref S, .ref it], []⟩) R s := by
  have notW : S ∉ wr := fun y => apart (W.sub _ y)
  have wider : ∀ b ∈ wr, b ∈ S :: wr := fun b y => List.mem_cons_of_mem _ y
  intro left
  induction left with
  | zero =>
    intro i s hk hi st R0 fin
    obtain rfl : i = n := by omega
    refine codeAny_builtin PyProof.Rows.F.entry_set_update_loop ?_
    rw [Around.under_plainId PyProof.Rows.F.plain_set_update_loop _]
    show wpAny _ A.in1 (pyNext (.ref it) >>= _) _ _ s
    refine wpAny_bind (W.done s _ _ st fun s' mv => ?_)
    show wpAny _ A.in1 (ret Value.none) _ _ s'
    exact wpAny_pure (fin s' (mv.mono wider) (R0.at fun o e => mv.heap S o notW e))
  | succ left ih =>
    intro i s hk hi st R0 fin
    have lt : i < n := by omega
    refine codeAny_builtin PyProof.Rows.F.entry_set_update_loop ?_
    rw [Around.under_plainId PyProof.Rows.F.plain_set_update_loop _]
    show wpAny _ A.in1 (pyNext (.ref it) >>= _) _ _ s
    refine wpAny_bind (W.item i s _ _ lt st fun v s' pv st' mv => ?_)
    obtain ⟨z, u, hz, rfl⟩ := is_ i v pv
    have R1 : Texts P w s'.heap S (dd l i) := R0.at fun o e => mv.heap S o notW e
    show wpAny _ A.in1 (holding [Value.str z u] (setAdd S (.str z u)) >>= _) _ _ s'
    refine wpAny_bind (wpAny_holding ?_)
    unfold setAdd
    refine wpAny_holding (wpAny_bind ((strKind P w).pyHash (k := z) (strKind_is P w z u) ?_))
    refine add_ok (s := { s' with toks := s'.toks + 1 }) R1 (by have := dd_len l i; omega) fun b h' same R2 => ?_
    rw [← dd_succ hz] at R2
    have other : ∀ b : Addr, b ≠ S → h'.get? b = s'.heap.get? b := fun b y => same.2 b y
    refine wpAny_pure ⟨plainId_quiet PyProof.Rows.F.plain_set_update_loop _, ih (i + 1) _ (by omega) lt (W.frame _ s' _ _ st' (Nat.le_succ _) fun b y o e => ?_) R2 fun s2 mv2 R3 => ?_⟩
    · rw [other b fun q => apart (by rw [← q]; exact y)]
      exact e
    · refine fin s2 (Moved.trans W.gtrans ((mv.mono wider).then_heap (Nat.le_succ _) fun b o y e => ?_) mv2) R3
      rw [other b fun q => y (by rw [q]; exact List.mem_cons_self ..)]
      exact e
/-- a set, new and empty, that keeps its order's ledger -/
theorem new_ok (v : Value) {Q : Value → Shared → Prop} (fin : Q (.ref s.heap.objs.size) { s with heap := s.heap.push { cls := .type "set", dict := none, data := .set #[] 0 (.fresh 0 0 (!w.params.followText "set-order")) } }) :
    codeAny (model P w) A (.call (.builtin "set.__new__") ⟨[.type "set", v], []⟩) (wants Q E) s := by
  refine codeAny_of_tree ?_
  show wpAny _ A.in1 (checkBuiltinCall "set.__new__" ⟨[.type "set", v], []⟩ >>= fun _ => again (.builtin "set.__new__" ⟨[.type "set", v], []⟩)) _ _ s
  refine wpAny_bind (wpAny_of_eq (F.newCall_set_1 v) (wpAny_pure ⟨plainId_quiet F.plain_set_new _, codeAny_builtin F.entry_set_new ?_⟩))
  rw [Around.under_plainId F.plain_set_new _]
  unfold Builtin.«set.__new__» Builtin.Frozenset.newClass
  have sub := sub_set_self
  obtain ⟨hp, g, d, tk, os⟩ := s
  dsimp only
  wp_walk
  refine wpAny_askSetting (wpAny_pure ?_)
  dsimp only
  simp only [newObj]
  exact wpAny_bind (wpAny_alloc (wpAny_pure (wpAny_pure fin)))
theorem empty_ok (h : Heap) : Texts P w (h.push { cls := .type "set", dict := none, data := .set #[] 0 (.fresh 0 0 (!w.params.followText "set-order")) }) h.objs.size [] := by
  refine ⟨⟨_, #[], 0, _, Heap.get?_push_size _ rfl, ⟨rfl, rfl, rfl⟩, rfl, fun e y => by simp at y, by simp, by decide, by rfl, List.Pairwise.nil, ?_⟩, List.nodup_nil⟩
  show _ ∨ (!w.params.followText "set-order") = true
  cases w.params.followText "set-order" <;> simp
end
local macro_rules | `(tactic| walk_at "go") => `(tactic| repeat (any_goals (first | assumption | wp_step)))
section
variable {P : Program} {w : World} {A : Around} {E : Value → Shared → Prop} {s : Shared}
theorem made_ok {a : Addr} {items : Array Value} {l : List Str} {Q : Value → Shared → Prop} (calm : A.handled = none) (isL : s.heap.IsList a items) (are : ∀ (i : Nat) (v : Value), items[i]? = some v → ∃ z u, l[i]? = some z ∧ v = Value.str z u) (room : items.size + 1 < scanBound)
    (fin : ∀ (h' : Heap) (tk : Nat), Texts P w h' s.heap.objs.size (dd l items.size) → (∀ b o, b < s.heap.objs.size → s.heap.get? b = some o → h'.get? b = some o) → Q (.ref s.heap.objs.size) { s with heap := h', toks := tk }) :
    wpAny (model P w) A (call (.type "set") [.ref a]) Q E s := by
  obtain ⟨c, tl, mro⟩ := F.called_set.mro
  have made := F.called_set.made
  have subs := F.called_set.sub
  have h1 := F.called_set.notType
  have h2 := F.called_set.canCreate
  have tc := F.typeCall_set_1 (.ref a)
  refine wpAny_call (codeAny_of_tree ?_)
  show wpAny _ _ (callAny (.type "set") _) _ _ _
  refine wpAny_pure ⟨Code.quiet_builtin _ (by decide +kernel), codeAny_builtin F.entry_type_call ?_⟩
  rw [Around.under_plain (weight_type_call_type "set" [.ref a] []) rfl]
  walk_at "go"
  let so : Obj := { cls := .type "set", dict := none, data := .set #[] 0 (.fresh 0 0 (!w.params.followText "set-order")) }
  refine codeAny_mono (new_ok (.ref a) (E := E) (Q := fun ob s1 => ob = .ref s.heap.objs.size ∧ s1 = { s with heap := s.heap.push so }) ⟨rfl, rfl⟩) fun r s1 hr => ?_
  match r, hr with
  | .ok (.ret ob), hr =>
    obtain ⟨rfl, rfl⟩ := hr
    have hS : (s.heap.push so).get? s.heap.objs.size = some so := Heap.get?_push_size _ rfl
    have hT : Shared.TypeIs { s with heap := s.heap.push so } (.ref s.heap.objs.size) "set" := ⟨_, hS, rfl⟩
    have look := F.called_set.init.lookup
    have bind_ := F.called_set.init.bind (.ref s.heap.objs.size)
    walk_at "go"
    refine codeAny_mono (codeAny_call_builtin (R := wants (fun r s2 => r = .none ∧ ∃ h' tk, s2 = { s with heap := h', toks := tk } ∧ Texts P w h' s.heap.objs.size (dd l items.size) ∧ (∀ b o, b < s.heap.objs.size → s.heap.get? b = some o → h'.get? b = some o)) E)
      F.called_set.init.plain F.entry_set_init (check_set_init_1 hT ?_)) fun r2 s2 hr2 => ?_
    · obtain ⟨ol, hol, hcl, nl, hdl⟩ := isL
      obtain ⟨ocls, odict, odata, oslots⟩ := ol
      simp only at hcl hdl
      subst hcl; subst hdl
      have hol' : (s.heap.push so).get? a = some { cls := .type "list", dict := odict, data := .seq items nl, slots := oslots } := Heap.get?_push_of_some _ hol
      have n1 := F.sub_list_set
      have n2 := F.sub_list_frozenset
      have n3 : (Value.type "list" == Value.type "dict") = false := by decide
      have isL1 : (s.heap.push so).IsList a items := ⟨_, hol', rfl, nl, rfl⟩
      unfold Builtin.«set.__init__» noKeywords Builtin.Frozenset.updateFrom
      generalize hPI : pyIter = PI
      wp_walk
      subst hPI
      refine wpAny_pyIter_list isL1 (wpAny_bind (wpAny_runValue ?_))
      have ha : a < s.heap.objs.size := Heap.lt_size hol
      have sz : (s.heap.push so).objs.size = s.heap.objs.size + 1 := Heap.size_push _ _
      have calm3 : A.in1.in1.in1.handled = none := by simp [calm]
      refine loop_ok ((Walks.list calm3 (s.heap.push so).objs.size a (by rw [sz]; exact Nat.ne_of_lt (Nat.lt_succ_of_lt ha)) items).toS) s.heap.objs.size ?_ l are room (items.size - 0) 0 _ (by omega) (Nat.zero_le _) ⟨⟨_, Heap.get?_push_size _ rfl, rfl, rfl⟩, isL1.push _⟩ ?_ fun s3 mv R3 => ?_
      · rw [sz]
        simp only [List.mem_cons, List.not_mem_nil, or_false, not_or]
        exact ⟨Nat.ne_of_lt (Nat.lt_succ_self _), Nat.ne_of_gt ha⟩
      · exact (empty_ok (P := P) (w := w) s.heap).at fun o e => Heap.get?_push_of_some _ e
      · obtain ⟨h3, g3, d3, tk3, os3⟩ := s3
        obtain rfl : g3 = s.gens := mv.gens
        obtain rfl : d3 = s.drawn := mv.drawn
        obtain rfl : os3 = s.os := mv.os
        show wpAny _ _ _ _ _ _
        refine wpAny_pure ?_
        show wpAny _ _ (ret Value.none) _ _ _
        refine wpAny_pure ⟨rfl, h3, tk3, rfl, R3, fun b o y e => ?_⟩
        refine mv.heap b o ?_ (Heap.get?_push_of_some _ (Heap.get?_push_of_some _ e))
        rw [sz]
        simp only [List.mem_cons, List.not_mem_nil, or_false, not_or]
        exact ⟨Nat.ne_of_lt y, Nat.ne_of_lt (Nat.lt_succ_of_lt y)⟩
    · match r2, hr2 with
      | .ok (.ret r), hr2 =>
        obtain ⟨rfl, h', tk, rfl, R3, keep⟩ := hr2
        walk_at "go"
        exact fin _ _ R3 keep
      | .error e, hr2 => exact hr2
      | .ok .next, hr2 => exact hr2.elim
      | .ok .brk, hr2 => exact hr2.elim
      | .ok .cont, hr2 => exact hr2.elim
  | .error e, hr => exact hr
  | .ok .next, hr => exact hr.elim
  | .ok .brk, hr => exact hr.elim
  | .ok .cont, hr => exact hr.elim
end
/-! ### sorted -/
/-- the texts in their order, each once if they were -/
def srt (l : List Str) : List Str := l.mergeSort fun x y => decide (x.cps.toList ≤ y.cps.toList)
theorem rising_pw : ∀ (p : Str) (l : List Str), risingS p l = true → (p :: l).Pairwise fun x y => x.cps.toList ≤ y.cps.toList
  | p, [], _ => by simp
  | p, x :: r, h => by
    unfold risingS at h
    rw [Bool.and_eq_true] at h
    have t := rising_pw x r h.2
    have px : p.cps.toList ≤ x.cps.toList := by
      have q := h.1
      rw [ltCps_eq] at q
      simpa using q
    refine List.pairwise_cons.mpr ⟨fun y hy => ?_, t⟩
    rcases List.mem_cons.mp hy with rfl | hy
    · exact px
    · exact List.le_trans px ((List.pairwise_cons.mp t).1 y hy)
theorem sorted_pw : ∀ (l : List Str), sortedS l = true → l.Pairwise fun x y => x.cps.toList ≤ y.cps.toList
  | [], _ => List.Pairwise.nil
  | p :: l, h => rising_pw p l h
theorem srt_pw (l : List Str) : (srt l).Pairwise fun x y => x.cps.toList ≤ y.cps.toList := by
  have h := List.pairwise_mergeSort (le := fun (x y : Str) => decide (x.cps.toList ≤ y.cps.toList)) (fun a b c h1 h2 => decide_eq_true (List.le_trans (of_decide_eq_true h1) (of_decide_eq_true h2)))
    (fun a b => by
      rw [Bool.or_eq_true, decide_eq_true_eq, decide_eq_true_eq]
      exact List.le_total _ _) l
  exact h.imp fun q => of_decide_eq_true q
theorem srt_perm (l : List Str) : (srt l).Perm l := List.mergeSort_perm l _
theorem srt_unique {l m : List Str} (p : m.Perm l) (h : m.Pairwise fun x y => x.cps.toList ≤ y.cps.toList) : m = srt l :=
  List.Perm.eq_of_pairwise (le := fun x y : Str => x.cps.toList ≤ y.cps.toList) (fun a b _ _ h1 h2 => Str.ext' (Array.toList_inj.mp (List.le_antisymm h1 h2))) h (srt_pw l) (p.trans (srt_perm l).symm)
section
variable {P : Program} {w : World} {A : Around} {E : Value → Shared → Prop} {s : Shared} {a : Addr} {L : List Str}
theorem strs_of : ∀ (l : List Value), (∀ v ∈ l, ∃ z u, v = Value.str z u) → ∃ ys, StrsAre l ys ∧ ys = l.map fun v => wordOf (0, v)
  | [], _ => ⟨[], .nil, rfl⟩
  | v :: l, h => by
    obtain ⟨z, u, rfl⟩ := h v (List.mem_cons_self ..)
    obtain ⟨ys, h1, h2⟩ := strs_of l fun x hx => h x (List.mem_cons_of_mem _ hx)
    exact ⟨z :: ys, .cons z u h1, by rw [h2]; rfl⟩
theorem sort_ok {Q : Value → Shared → Prop} (R : Texts P w s.heap a L) (calm : A.handled = none)
    (fin : ∀ (s' : Shared) (p : Addr) (out : Array Value) (c : Nat), (∀ b o, s.heap.get? b = some o → s'.heap.get? b = some o) → s'.gens = s.gens → s'.os = s.os → s.heap.objs.size ≤ p →
      s'.heap.get? p = some (seqObj "list" out c) → StrsAre out.toList (srt L) → Q (.ref p) s') : wpAny (model P w) A (call (.builtin "sorted") [.ref a]) Q E s := by
  obtain ⟨⟨o, es, ep, t, look, exact_, data, all, pm, few, fits, ris, led⟩, nd⟩ := R
  refine Calls.call_function_entry kind_sorted plain_sorted entry_sorted (args_sorted1 _) ?_
  unfold Builtin.«sorted»
  refine wpAny_bind (m := checkCount "sorted" 1 1 _) (wpAny_pure (wpAny_bind (collect_set (A := A.in1) calm ⟨o, look, exact_.1, data⟩ fits few ris led fun s1 vs keep bigger g1 o1 p1 => ?_)))
  have size : vs.length = es.size := by rw [p1.length_eq, List.length_map, Array.length_toList]
  have small : vs.length ≤ sizeLine := by rw [size]; exact fits_of_scanBound few
  obtain ⟨ys, hy, ey⟩ := strs_of vs fun v hv => by
    obtain ⟨e, he, rfl⟩ := List.mem_map.mp (p1.mem_iff.mp hv)
    obtain ⟨z, u, rfl⟩ := all e he
    exact ⟨z, u, rfl⟩
  have py : ys.Perm L := by
    rw [ey]
    refine (p1.map _).trans ?_
    rw [List.map_map]
    refine List.Perm.trans (List.Perm.of_eq (List.map_congr_left fun e he => ?_)) pm
    obtain ⟨z, u, rfl⟩ := all e he
    rfl
  refine wpAny_bind (wpAny_newList ?_ small)
  have at_ : (s1.heap.push (seqObj "list" vs.toArray 0)).get? s1.heap.objs.size = some (seqObj "list" vs.toArray 0) := Heap.get?_push_size _ rfl
  refine wpAny_bind (wpAny_holding (wpAny_call_entry slot_list_sort ⟨_, at_, rfl⟩ entry_list_sort ?_ (args_list_sort _)))
  refine list_sort_treeKAny strKind_oneLt at_ hy.keysOf (fun v1 v2 rest e => keyKind_strs (by rw [← e]; exact hy)) small fun st1 hp hs => ?_
  obtain ⟨zs, z1, z2, z3⟩ := sorted_out_str hy hp hs
  refine ⟨_, rfl, wpAny_pure ⟨_, rfl, ?_⟩⟩
  obtain ⟨c, hc⟩ := sortedHeap_at (vs := vs) (out := (arrOf st1).map (·.2)) at_
  have ez := srt_unique (z2.trans py) (sorted_pw zs z3)
  refine fin _ s1.heap.objs.size _ c (fun b o e => ?_) g1 o1 bigger hc (by rw [← ez]; exact z1)
  have e1 := keep b o e
  have lt := Heap.lt_size e1
  show (sortedHeap (s1.heap.push (seqObj "list" vs.toArray 0)) s1.heap.objs.size vs _).get? b = some o
  rw [sortedHeap_old (Nat.ne_of_lt lt) (by rw [size_push']; exact Nat.lt_succ_of_lt lt)]
  exact Heap.get?_push_of_some _ e1
end
/-! ### the two in the layer -/
def TextsO (P : Program) (w : World) (a : Addr) (L : List Str) : HO := .ext fun h => Texts P w h a L
theorem textsO_new {P : Program} {w : World} {H : Hp} {h : Heap} {a : Addr} {L : List Str} (R : Texts P w h a L) : ObjOk P w H h a (TextsO P w a L) := by
  have q := R.ex
  obtain ⟨o, _, _, _, look, _⟩ := q
  exact ⟨R, ⟨o, look⟩, fun _ _ p k => Texts.at p k⟩
section
variable {X : Cx}
def rSetT (P : Program) (w : World) (K : PySem.W.Frag) : List V → Hp → VK → Prop := fun xs H Q => ∃ p, ∃ ys : List Str, xs = [.ref p] ∧ SqL K H p (ys.map V.str) ∧ ys.length < 4000 ∧ ∀ q, H q = none → Q (.ref q) (upd H q (TextsO P w q (dd ys ys.length)))
theorem cr_setT (hc : X.calm = true) : CallR X (.type "set") (rSetT X.prog X.w X.K) := by
  rintro pins s σ H xs us Q I rv ⟨p, ys, rfl, hs, few, q⟩
  obtain ⟨its, ri, hl, _⟩ := I.list hs
  rw [Vals.ref1 rv]
  have len : its.length = ys.length := by rw [← ri.length, List.length_map]
  refine made_ok (l := ys) (I.ok.hd hc) hl.isList (fun i v hv => ?_) (by rw [List.size_toArray, len]; unfold scanBound; omega) fun h' tk R keep => ?_
  · rw [List.getElem?_toArray] at hv
    obtain ⟨z, hz, hr⟩ : ∃ z, (ys.map V.str)[i]? = some z ∧ RelV z v := by
      clear hs q few len hl
      generalize ys.map V.str = zs at ri
      induction ri generalizing i with
      | nil => simp at hv
      | cons a t ih =>
        cases i with
        | zero => simp at hv; exact ⟨_, rfl, by rw [← hv]; exact a⟩
        | succ i => exact ih i (by simpa using hv)
    rw [List.getElem?_map] at hz
    obtain ⟨y, h1, rfl⟩ := Option.map_eq_some_iff.mp hz
    obtain ⟨t, rfl⟩ := hr
    exact ⟨y, t, h1, rfl⟩
  · rw [show its.toArray.size = ys.length by rw [List.size_toArray, len]] at R
    have fresh : H s.heap.objs.size = none := I.hok.fresh (Nat.le_refl _)
    exact ⟨.ref _, _, I.laid (fun b o e => keep b o (Heap.lt_size e) e) (Nat.le_refl _) (textsO_new R), rfl, q _ fresh⟩
def rSortT (P : Program) (w : World) : List V → Hp → VK → Prop := fun xs H Q => ∃ p L, xs = [.ref p] ∧ H p = some (TextsO P w p L) ∧ L.length ≤ sizeLine ∧ ∀ q, H q = none → Q (.ref q) (upd H q (.lst ((srt L).map V.str)))
theorem vals_strs : ∀ {vs : List Value} {ys : List Str}, StrsAre vs ys → Vals (ys.map V.str) vs
  | _, _, .nil => .nil
  | _, _, .cons z t h => .cons ⟨t, rfl⟩ (vals_strs h)
theorem cr_sortT (hc : X.calm = true) : CallR X (.builtin "sorted") (rSortT X.prog X.w) := by
  rintro pins s σ H xs us Q I rv ⟨p, L, rfl, ha, few, q⟩
  have R : Texts X.prog X.w s.heap p L := (I.hok p _ ha).1
  rw [Vals.ref1 rv]
  refine sort_ok R (I.ok.hd hc) fun s' a out c keep g o big look zs => ?_
  have fresh : H a = none := I.hok.fresh big
  have len : ((srt L).map V.str).length ≤ sizeLine := by rw [List.length_map, (srt_perm L).length_eq]; exact few
  have J : Inv X pins σ (upd H a (.lst ((srt L).map V.str))) { s with heap := s'.heap, gens := s'.gens, drawn := s'.drawn, toks := s'.toks } :=
    I.call (ch := []) (Un.laid keep big fresh) (I.hok.laid keep big ⟨len, out.toList, c, vals_strs zs, look⟩) (by rw [g]; exact I.bare) (fun _ z => nomatch z)
  have e : s' = { s with heap := s'.heap, gens := s'.gens, drawn := s'.drawn, toks := s'.toks } := by
    obtain ⟨_, _, _, _, _⟩ := s'
    obtain ⟨_, _, _, _, _⟩ := s
    cases o
    rfl
  rw [e]
  exact ⟨.ref a, _, J, rfl, q a fresh⟩
end
end SetX

/-! ## name, *numbers = a tuple -/
namespace StarX
open PySem PySem.Spec PyProof.Rows L2
section
variable {P : Program} {w : World} {A : Around} {E : Value → Shared → Prop} {s : Shared} {it : Addr} {fp wr : List Addr} {GG : Array GenState → Array GenState → Prop} {n : Nat} {Pv : Nat → Value → Prop} {St : Nat → Shared → Prop}
theorem later (W : WalksS P w A it fp wr GG (n + 1) Pv St) : WalksS P w A it fp wr GG n (fun i => Pv (i + 1)) (fun i => St (i + 1)) :=
  { sub := W.sub, grefl := W.grefl, gtrans := W.gtrans, frame := fun i => W.frame (i + 1), item := fun i s Q E hi st k => W.item (i + 1) s Q E (by omega) st k, done := W.done, self := fun i => W.self (i + 1) }
/-- what is left of a tuple's iterator, in a list -/
theorem collect_tu {Q : List Value → Shared → Prop} (W : WalksS P w A.in1 it fp wr GG n Pv St) (ty : ∀ i s, St i s → s.TypeIs (.ref it) "tuple_iterator") (st : St 0 s) (old : ∀ b ∈ fp, b < s.heap.objs.size) (mine : it ∈ fp) (few : n ≤ sizeLine)
    (fin : ∀ s' acc, Moved wr GG s s' → s.heap.objs.size < s'.heap.objs.size → ItemsOf Pv acc n → Q acc.toList s') : wpAny (model P w) A (collect (.ref it)) Q E s := by
  have apart : s.heap.objs.size ∉ fp := fun y => Nat.lt_irrefl _ (old _ y)
  have other : s.heap.objs.size ≠ it := fun y => apart (by rw [y]; exact mine)
  unfold collect
  refine wpAny_bind (wpAny_runValue (codeAny_builtin F.entry_proto_collect ?_))
  rw [Around.under_plainId F.plain_proto_collect _]
  show wpAny _ A.in1 (newList [] >>= fun l => again (.builtin "list.__iadd__" ⟨[l, .ref it], []⟩)) _ _ s
  refine wpAny_bind (wpAny_newObj_type (wpAny_pure ⟨plainId_quiet F.plain_list_iadd _, codeAny_builtin F.entry_list_iadd ?_⟩))
  rw [Around.under_plainId F.plain_list_iadd _]
  let ob : Obj := { cls := .type "list", data := .seq ([] : List Value).toArray }
  have st1 := W.frame 0 s (s.heap.push ob) s.toks st (Nat.le_refl _) fun b _ o e => Heap.get?_push_of_some _ e
  have at1 : (s.heap.push ob).get? s.heap.objs.size = some ob := Heap.get?_push_size _ rfl
  have no : Builtin.List.listSameRef (.ref s.heap.objs.size) (.ref it) = false := by simp [Builtin.List.listSameRef, other]
  show wpAny _ A.in1 (Builtin.List.listExtendWith (.ref s.heap.objs.size) (.ref it) (.ref s.heap.objs.size)) _ _ _
  unfold Builtin.List.listExtendWith
  refine wpAny_bind (wpAny_typeOf (ty 0 _ st1) ?_)
  rw [if_neg (by rw [no]; decide)]
  refine wpAny_bind (W.self 0 _ _ _ st1 (wpAny_bind (wpAny_holding ?_)))
  unfold Builtin.List.listLengthHint
  refine wpAny_bind (wpAny_specialOf (ty 0 _ st1) F.nolen_tu ?_)
  show wpAny _ A.in1 (specialOf (Value.ref it) (Str.ofString "__length_hint__") >>= _) _ _ _
  refine wpAny_bind (wpAny_specialOf (ty 0 _ st1) F.hint_tu ?_)
  generalize hid : ("tuple_iterator.__length_hint__" : String) = id0
  wp_delta
  rw [show splitId id0 = some ("tuple_iterator", "__length_hint__") from by subst hid; decide +kernel]
  subst hid
  refine wpAny_bind (wpAny_isInstance (b := true) (ty 0 _ st1) (by rw [isSubtype_type]; kernel_rfl) (wpAny_pure ?_))
  rw [if_neg (by decide)]
  refine wpAny_pure ⟨plainId_quiet F.plain_extend_loop _, codeAny_extend_loopS W few _ apart _ n 0 _ _ _ rfl (Nat.zero_le _) st1 at1 (ItemsOf.nil Pv) fun s2 acc c mv at2 its => ?_⟩
  show wpAny _ A (load s.heap.objs.size >>= _) _ _ s2
  exact wpAny_bind (wpAny_load at2 (wpAny_pure (fin s2 acc (Moved.drop_new (o := ob) (tk := s.toks) mv (Nat.le_refl _)) (Heap.lt_size at2) its)))
theorem unpack1 {t : Addr} {items : Array Value} {x : Value} {rest : List Value} {Q : List Value → Shared → Prop} (calm : A.handled = none) (ht : IsTup s.heap t items) (hi : items.toList = x :: rest) (few : rest.length ≤ sizeLine)
    (fin : ∀ (s' : Shared) (p : Addr), (∀ b o, s.heap.get? b = some o → s'.heap.get? b = some o) → s.heap.objs.size ≤ p → s'.gens = s.gens → s'.drawn = s.drawn → s'.os = s.os → s'.heap.get? p = some (seqObj "list" rest.toArray 0) → Q [x, .ref p] s') :
    wpAny (model P w) A (unpackItems (.ref t) 2 (some 1)) Q E s := by
  have lt : t < s.heap.objs.size := by obtain ⟨o, ho, _⟩ := ht; exact Heap.lt_size ho
  have ne : t ≠ s.heap.objs.size := Nat.ne_of_lt lt
  have sz : items.size = rest.length + 1 := by rw [← Array.length_toList, hi]; rfl
  unfold unpackItems
  refine wpAny_bind ?_
  unfold notIterableAtAll
  refine wpAny_bind (wpAny_specialOf ht.typeIs slot_tuple_iter.lookup (wpAny_pure ?_))
  simp only [Bool.false_eq_true, if_false]
  refine wpAny_bind (wpAny_holding (iter_tuple ht ?_))
  refine wpAny_bind (wpAny_holding (draw_tuple ne 1 0 _ _ ⟨_, Heap.get?_push_size _ rfl, rfl, rfl⟩ (ht.push _) (by omega) fun h1 at1 same1 => ?_))
  have one : List.take 1 (List.drop 0 items.toList) = [x] := by rw [hi]; rfl
  rw [one, if_neg (by simp)]
  have ht1 : IsTup h1 t items := (ht.push _).extBut same1.extBut ne
  have big1 : s.heap.objs.size < h1.objs.size := by obtain ⟨o, ho, _⟩ := at1; exact Heap.lt_size ho
  have lt1 : t < h1.objs.size := by obtain ⟨o, ho, _⟩ := ht1; exact Heap.lt_size ho
  have W := later (n := rest.length) (by have W := (Walks.tuple (prog := P) (w := w) (A := A.in1) calm s.heap.objs.size t ne items).toS; rw [sz] at W; exact W)
  refine wpAny_bind (wpAny_holding (collect_tu W (fun i s' st => ?_) ⟨at1, ht1⟩ (fun b hb => ?_) (by simp) few fun s2 acc mv more its => ?_))
  · obtain ⟨o, ho, hc, _⟩ := st.1
    exact ⟨o, ho, hc⟩
  · simp only [List.mem_cons, List.not_mem_nil, or_false] at hb
    rcases hb with rfl | rfl
    · exact big1
    · exact lt1
  · have out : acc.toList = rest := items_out its fun j v hv => by
      have q : items.toList[j + 1]? = some v := by rw [Array.getElem?_toList]; exact hv
      rw [hi, List.getElem?_cons_succ] at q
      exact q
    rw [out]
    simp only [show (2 : Nat) - 1 - 1 = 0 from rfl, Nat.not_lt_zero, if_false, Nat.sub_zero, List.take_length, List.drop_length]
    have keep : ∀ b o, s.heap.get? b = some o → s2.heap.get? b = some o := fun b o e => by
      have nb : b ≠ s.heap.objs.size := Nat.ne_of_lt (Heap.lt_size e)
      exact mv.heap b o (by simp only [List.mem_cons, List.not_mem_nil, or_false]; exact nb) (same1.extBut b o nb (Heap.get?_push_of_some _ e))
    have bigger : s.heap.objs.size ≤ s2.heap.objs.size := Nat.le_of_lt (Nat.lt_trans big1 more)
    refine wpAny_bind (wpAny_newList ?_ few)
    refine wpAny_pure (fin _ s2.heap.objs.size (fun b o e => Heap.get?_push_of_some _ (keep b o e)) bigger mv.gens mv.drawn mv.os (Heap.get?_push_size _ rfl))
end
/-- name, *numbers = t -/
def gStarT (K : PySem.W.Frag) (i j : Nat) : TG := fun v σ H Q => ∃ a x xs, v = .ref a ∧ SqT K H a (x :: xs) ∧ ∀ p, H p = none → Q ((σ.set i (some x)).set j (some (.ref p))) (upd H p (.lst xs))
theorem pg_star {X : Cx} {i j k : Nat} {x y : Str} {px py sp pos : Pos} (hc : X.calm = true) (hN : X.N.Nodup) (hi : X.N[i]? = some x) (hj : X.N[j]? = some y) (lx : Loc X.env.scope x) (ly : Loc X.env.scope y)
    (fx : X.fn x = true ∨ X.env.scope.names.lookup x = some .local := by first | exact .inl rfl | exact .inr rfl | assumption) (fy : X.fn y = true ∨ X.env.scope.names.lookup y = some .local := by first | exact .inl rfl | exact .inr rfl | assumption) :
    PG X (.Tuple [.Name x px, .Starred (.Name y py) sp] k pos) (gStarT X.K i j) := by
  refine ⟨fun pins s σ H v u Q I r hw => ?_⟩
  obtain ⟨a, z, zs, rfl, hq, q⟩ := hw
  obtain rfl : u = Value.ref a := r
  obtain ⟨its, rv, ht, hz⟩ := I.tuple hq
  cases rv with
  | cons rz rzs =>
    rename_i uz uzs
    rw [assign_Tuple]
    refine wpAny_bind (wpAny_standAt ?_)
    unfold unpack
    have e1 : assignEach [.Name x px, .Starred (.Name y py) sp] X.env = [(false, assign (.Name x px) X.env), (true, assign (.Name y py) X.env)] := rfl
    rw [e1]
    have few : uzs.length ≤ sizeLine := by
      have := rzs.length
      rw [List.length_cons] at hz
      omega
    refine wpAny_bind (wpAny_holding (unpack1 (I.ok.hd hc) ht rfl few fun s' p keep big g d o look => ?_))
    have fresh : H p = none := I.hok.fresh big
    have len : zs.length ≤ sizeLine := by rw [List.length_cons] at hz; omega
    have J : Inv X pins σ (upd H p (.lst zs)) { s with heap := s'.heap, gens := s'.gens, drawn := s'.drawn, toks := s'.toks } :=
      I.call (ch := []) (Un.laid keep big fresh) (I.hok.laid keep big ⟨len, uzs, 0, rzs, look⟩) (by rw [g]; exact I.bare) (fun _ z => nomatch z)
    have e : s' = { s with heap := s'.heap, gens := s'.gens, drawn := s'.drawn, toks := s'.toks } := by
      obtain ⟨_, _, _, _, _⟩ := s'
      obtain ⟨_, _, _, _, _⟩ := s
      cases o
      rfl
    rw [e]
    show wpAny _ _ (assignInOrder [assign (.Name x px) X.env, assign (.Name y py) X.env] [uz, .ref p]) _ _ _
    refine assignInOrder_cons (wpAny_assign_Name (store_ok J hN hi lx rz (fun s2 I2 => ?_) fx))
    refine assignInOrder_cons (wpAny_assign_Name (store_ok I2 hN hj ly (show RelV (.ref p) (.ref p) from rfl) (fun s3 I3 => ?_) fy))
    exact assignInOrder_nil ⟨_, _, I3, q p fresh⟩
end StarX

namespace Sm
open PySem L2
/-! ## stars, sorted -/
def gStar (i j : Nat) : D → G → Option G := fun d g => match d with
  | .tup (x :: xs) => if notT g i = true ∧ notT (g.set i (.fz x)) j = true then some ((g.set i (.fz x)).set j (.ol false xs)) else none
  | _ => none
section
variable {X : Cx} {c : C0}
theorem sg_star {i j k : Nat} {x y : Str} {px py sp pos : Pos} (hc : X.calm = true) (hN : X.N.Nodup) (hi : X.N[i]? = some x) (hj : X.N[j]? = some y) (lx : Loc X.env.scope x) (ly : Loc X.env.scope y)
    (fx : X.fn x = true ∨ X.env.scope.names.lookup x = some .local := by first | exact .inl rfl | exact .inr rfl | assumption) (fy : X.fn y = true ∨ X.env.scope.names.lookup y = some .local := by first | exact .inl rfl | exact .inr rfl | assumption) :
    SGw X c [i, j] (.Tuple [.Name x px, .Starred (.Name y py) sp] k pos) (gStar i j) := (StarX.pg_star hc hN hi hj lx ly fx fy).imp fun v σ H Q q => by
  obtain ⟨m, g, d, g', A, F, e, k⟩ := q
  unfold gStar at e
  split at e
  · split at e
    · rename_i x xs hn
      cases e
      cases F with
      | tup hx t =>
        cases t with
        | cons F1 F2 =>
          rename_i vx vxs
          refine ⟨_, _, _, rfl, sq_tup hx, fun p hp => ?_⟩
          obtain ⟨A1, S1⟩ := A.sto hn.1 F1
          have A2 := A1.more (Ext.new (o := .lst vxs) hp) hp (by rw [upd_same]; simp)
          have S2 := Stp.more A1 (Ext.new (o := .lst vxs) hp) hp
          have no : ¬ Own (g.set i (.fz x)) (σ.set i (some vx)) p := fun w => A1.trk p (A1.own_mem w) hp
          obtain ⟨A3, S3⟩ := Abs.stoN S2 A2 hn.2 (List.mem_cons_self ..) upd_same ((F2.more hp).ext (Ext.new hp)) no (A1.h0 hp) hp
          refine k _ _ _ A3 (S1.trans S3) ⟨fun n hj' => ?_, by rw [List.length_set, List.length_set]⟩
          rw [List.getElem?_set_ne, List.getElem?_set_ne]
          · intro z; exact hj' (by rw [z]; simp)
          · intro z; exact hj' (by rw [z]; simp)
    · cases e
  · cases e
def sortSetD : List D → Option R
  | [.lst l] => (strsD l).bind fun ys => if ys.length < 4000 then some (.nw ((SetX.srt (SetX.dd ys ys.length)).map .str)) else none
  | _ => none
variable {e : Expr} {fs : G → Option (List R × G)}
theorem se_sortSet {x y : Str} {p p2 pos pos2 : Pos} (hc : X.calm = true) (hg : Gl X x) (hm : X.mg x = none) (hv : bootBuiltins x = some (.builtin "sorted")) (hg2 : Gl X y) (hm2 : X.mg y = none) (hv2 : bootBuiltins y = some (.type "set"))
    (ha : SA X c [e] fs) (hn : x ≠ "__name__" := by decide) (hdb : (x == ("__debug__" : Str)) = false := by decide) (hn2 : y ≠ "__name__" := by decide) (hdb2 : (y == ("__debug__" : Str)) = false := by decide)
    (he : starEach [e] X.env = (false, eval e X.env) :: starEach [] X.env := by rfl) (hpl : (backTo pos (starEach [] X.env)).any (·.1) = false := by rfl) (hpl2 : (backTo pos2 (starEach [] X.env)).any (·.1) = false := by rfl)
    (he3 : starEach [.Call (.Name y p2) [e] [] pos2] X.env = (false, eval (.Call (.Name y p2) [e] [] pos2) X.env) :: starEach [] X.env := by rfl) :
    SE X c (.Call (.Name x p) [.Call (.Name y p2) [e] [] pos2] [] pos) (eCB sortSetD fs) := by
  have h1 := pe_callTy (pos := pos2) (p := p2) (SetX.cr_setT hc) hg2 hm2 hv2 ha hn2 hdb2 he hpl2
  have h2 := pe_callB (pos := pos) (p := p) (SetX.cr_sortT hc) hg hm hv (pa_cons h1 pa_nil he3) hn hdb he3 hpl
  refine h2.imp fun σ H Q q => ?_
  refine cb_ok (r := fun vs H Q => SetX.rSetT X.prog X.w X.K vs H fun x H2 => SetX.rSortT X.prog X.w [x] H2 Q) (fun m H vs ds res Q ht hv hr k => ?_) q
  unfold sortSetD at hr
  split at hr
  · obtain ⟨ys, e1, hr⟩ := Option.bind_eq_some_iff.mp hr
    split at hr
    · rename_i few
      cases hr
      obtain ⟨v, rfl, hx⟩ := vws1 hv
      obtain ⟨a, vs, rfl, h3, t1⟩ := vw_lst hx
      obtain rfl := strs_vw t1 e1
      refine ⟨a, ys, rfl, .of h3, few, fun q1 hq1 => ⟨q1, _, rfl, upd_same, Nat.le_trans (SetX.dd_len ys _) (Nat.le_trans (Nat.le_of_lt few) (by decide)), fun q2 hq2 => ?_⟩⟩
      have n1 : q2 ≠ q1 := fun z => by rw [z, upd_same] at hq2; cases hq2
      have n2 : H q2 = none := by rw [upd_ne n1] at hq2; exact hq2
      exact k _ _ ((Ext.new hq1).trans (Ext.new hq2)) ⟨q2, _, rfl, n2, upd_same, fz_strs _⟩
    · cases hr
  · cases hr
end
end Sm

namespace Sm
open PySem L2
/-! ## {"k": e, ..}[i] -/
def pNil : G → Option (List (Str × D) × G) := fun g => some ([], g)
def pCons (z : Str) (fe : G → Option (R × G)) (fp : G → Option (List (Str × D) × G)) : G → Option (List (Str × D) × G) := fun g => match fe g with
  | some (.d x, g1) => match fp g1 with
    | some (l, g2) => some ((z, x) :: l, g2)
    | none => none
  | _ => none
def lookD (z : Str) (l : List (Str × D)) (o : Option D) : Option D := l.foldl (fun o p => if p.1 = z then some p.2 else o) o
def eDisp (fp : G → Option (List (Str × D) × G)) (fi : G → Option (R × G)) : G → Option (R × G) := fun g => match fp g with
  | some (l, g1) => match fi g1 with
    | some (.d (.str z), g2) => if l.length ≤ 15 then (lookD z l none).map fun x => (.d x, g2) else none
    | _ => none
  | none => none
section
variable {K : PySem.W.Frag} {mg : Str → Option Value} {m m1 : List Addr} {g g1 : G} {σ σ1 : St} {H H1 : Hp} {c : C0}
def PFz (K : PySem.W.Frag) (mg : Str → Option Value) (m : List Addr) (H : Hp) : List (Key × V) → List (Str × D) → Prop
  | [], [] => True
  | p :: ps, q :: l => p.1 = .inr q.1 ∧ Fz K mg m H p.2 q.2 ∧ PFz K mg m H ps l
  | _, _ => False
theorem PFz.map (k : ∀ a o, a ∉ m → H a = some o → a ∉ m1 ∧ H1 a = some o) : ∀ {ps : List (Key × V)} {l : List (Str × D)}, PFz K mg m H ps l → PFz K mg m1 H1 ps l
  | [], [], _ => trivial
  | _ :: _, _ :: _, h => ⟨h.1, h.2.1.map k, PFz.map k h.2.2⟩
  | [], _ :: _, h => h.elim
  | _ :: _, [], h => h.elim
theorem PFz.len : ∀ {ps : List (Key × V)} {l : List (Str × D)}, PFz K mg m H ps l → ps.length = l.length
  | [], [], _ => rfl
  | _ :: _, _ :: _, h => congrArg Nat.succ h.2.2.len
  | [], _ :: _, h => h.elim
  | _ :: _, [], h => h.elim
def tP (K : PySem.W.Frag) (mg : Str → Option Value) (c : C0) (fp : G → Option (List (Str × D) × G)) (σ : St) (H : Hp) (Q : List (V × V) → Hp → Prop) : Prop := ∃ m g l g', Abs K mg c m g σ H ∧ fp g = some (l, g') ∧
  ∀ (ps : List (Key × V)) (m' : List Addr) (H' : Hp), Abs K mg c m' g' σ H' → Stp m g σ H m' g' σ H' → PFz K mg m' H' ps l → Q (ps.map fun p => (kV p.1, p.2)) H'
end
section
variable {X : Cx} {c : C0} {e i : Expr} {keys : List (Option Expr)} {vals : List Expr} {fe fi : G → Option (R × G)} {fp : G → Option (List (Str × D) × G)} {pos : Pos}
def SP (X : Cx) (c : C0) (pos : Pos) (keys : List (Option Expr)) (vals : List Expr) (fp : G → Option (List (Str × D) × G)) : Prop :=
  ∃ trs, PPs X pos keys vals trs ∧ ∀ σ H Q, tP X.K X.mg c fp σ H Q → tPairs trs σ H Q
end
section
variable {z : Str} {x : D} {l : List (Str × D)} {g g1 g2 : G} {fe fi : G → Option (R × G)} {fp : G → Option (List (Str × D) × G)}
def pcK (z : Str) (fp : G → Option (List (Str × D) × G)) : Option (R × G) → Option (List (Str × D) × G)
  | some (.d x, g1) => match fp g1 with
    | some (l, g2) => some ((z, x) :: l, g2)
    | none => none
  | _ => none
def pcK2 (z : Str) (x : D) : Option (List (Str × D) × G) → Option (List (Str × D) × G)
  | some (l, g2) => some ((z, x) :: l, g2)
  | none => none
theorem v_pNil : pNil g = some ([], g) := rfl
theorem v_pCons : pCons z fe fp g = pcK z fp (fe g) := rfl
theorem pcK_some : pcK z fp (some (.d x, g1)) = pcK2 z x (fp g1) := rfl
theorem pcK2_some : pcK2 z x (some (l, g2)) = some ((z, x) :: l, g2) := rfl
def dpK (fi : G → Option (R × G)) : Option (List (Str × D) × G) → Option (R × G)
  | some (l, g1) => match fi g1 with
    | some (.d (.str z), g2) => if l.length ≤ 15 then (lookD z l none).map fun x => (.d x, g2) else none
    | _ => none
  | none => none
def dpK2 (l : List (Str × D)) : Option (R × G) → Option (R × G)
  | some (.d (.str z), g2) => if l.length ≤ 15 then (lookD z l none).map fun x => (.d x, g2) else none
  | _ => none
theorem v_disp : eDisp fp fi g = dpK fi (fp g) := rfl
theorem dpK_some : dpK fi (some (l, g1)) = dpK2 l (fi g1) := rfl
theorem dpK2_some : dpK2 l (some (.d (.str z), g2)) = if l.length ≤ 15 then (lookD z l none).map fun x => (.d x, g2) else none := (rfl)
end
end Sm

namespace Lw
open PySem L2 Sm
noncomputable def Bis_command : G → Option O :=
  (sSeq (sAsgT (gStar 1 2) (eVar 0))
  (sSeq (sIf (tst (eBin cIn (eVar 1) (eC (.tup [.str (("reverse" : String) : Str), .str (("uniq" : String) : Str), .str (("sort" : String) : Str)])))) (sRet (eBin cEq (eVar 2) (eLst aNil))) sNext)
  (sRet (eAnd (eBin cIn (eVar 1) (eC (.tup [.str (("head" : String) : Str), .str (("tail" : String) : Str), .str (("skip" : String) : Str), .str (("chop" : String) : Str)]))) (eAnd (eBin cNe (eVar 2) (eLst aNil)) (eBin cGe (eBin ixD (eVar 2) (eC (.int 0))) (eC (.int 0))))))))
noncomputable abbrev Mis_command : G → Option (R × G) := dM 1 3 Bis_command
noncomputable def Bcheck_pipeline : G → Option O :=
  (sFor (iEn (eVar 0)) (gT 2 (gCons' (gN 1) (gCons' (gN 2) gNil'))) (sIf (bNot (tst (eCall0 Mis_command (aCons (eVar 2) aNil)))) sBad sNext))
noncomputable abbrev Mcheck_pipeline : G → Option (R × G) := dM 1 3 Bcheck_pipeline
noncomputable def Bwithout_repeats : G → Option O :=
  (sSeq (sAsg 1 (eSl (eVar 0) oNone (oSome (eC (.int 1)))))
  (sSeq (sFor (iA (eSl (eVar 0) (oSome (eC (.int 1))) oNone)) (gN 2) (sIf (tst (eBin cNe (eVar 2) (eBin ixD (eVar 1) (eNeg (eC (.int 1)))))) (sExpr (eApp 1 (eVar 2))) sNext))
  (sRet (eVar 1))))
noncomputable abbrev Mwithout_repeats : G → Option (R × G) := dM 1 3 Bwithout_repeats
noncomputable def Bapply_command : G → Option O :=
  (sSeq (sAsgT (gStar 2 3) (eVar 0))
  (sSeq (sIf (tst (eBin cEq (eVar 2) (eC (.str (("reverse" : String) : Str))))) (sRet (eRev (eVar 1))) sNext)
  (sSeq (sIf (tst (eBin cEq (eVar 2) (eC (.str (("uniq" : String) : Str))))) (sRet (eCall0 Mwithout_repeats (aCons (eVar 1) aNil))) sNext)
  (sSeq (sIf (tst (eBin cEq (eVar 2) (eC (.str (("sort" : String) : Str))))) (sRet (eCB sortSetD (aCons (eVar 1) aNil))) sNext)
  (sSeq (sAsg 4 (eCB maxD (aCons (eC (.int 0)) (aCons (eBin subD (eCB lenD (aCons (eVar 1) aNil)) (eBin ixD (eVar 3) (eC (.int 0)))) aNil))))
  (sSeq (sIf (tst (eBin cIn (eVar 2) (eTup (aCons (eC (.str (("head" : String) : Str))) (aCons (eC (.str (("chop" : String) : Str))) aNil))))) (sRet (eSl (eVar 1) oNone (oSome (eIf (tst (eBin cEq (eVar 2) (eC (.str (("head" : String) : Str))))) (eBin ixD (eVar 3) (eC (.int 0))) (eVar 4))))) sNext)
  (sRet (eSl (eVar 1) (oSome (eIf (tst (eBin cEq (eVar 2) (eC (.str (("skip" : String) : Str))))) (eBin ixD (eVar 3) (eC (.int 0))) (eVar 4))) oNone))))))))
noncomputable abbrev Mapply_command : G → Option (R × G) := dM 2 5 Bapply_command
noncomputable def Brun : G → Option O :=
  (sSeq (sExpr (eCall0 Mcheck_pipeline (aCons (eVar 0) aNil)))
  (sSeq (sAsg 2 (eCB listD (aCons (eVar 1) aNil)))
  (sSeq (sFor (iA (eVar 0)) (gN 3) (sAsg 2 (eCall0 Mapply_command (aCons (eVar 3) (aCons (eVar 2) aNil)))))
  (sRet (eVar 2)))))
noncomputable abbrev Mrun : G → Option (R × G) := dM 2 4 Brun
end Lw
/-! ## running a plan on lines -/
namespace Sp
open PySem L2 TL Sm Lw
theorem nc0 : ((0 : Nat) : Int) = 0 := (rfl)
theorem nc1 : ((1 : Nat) : Int) = 1 := (rfl)
theorem nc2 : ((2 : Nat) : Int) = 2 := (rfl)
theorem nc3 : ((3 : Nat) : Int) = 3 := (rfl)
theorem v_gStar {i j : Nat} {x : D} {xs : List D} {g : G} : gStar i j (.tup (x :: xs)) g = if notTK g[i]? = true ∧ notTK (g.set i (.fz x))[j]? = true then some ((g.set i (.fz x)).set j (.ol false xs)) else none := rfl
local macro_rules | `(tactic| walk_at "ev") => `(tactic| simp (config := { implicitDefEqProofs := false }) only [*, _root_.eq_self, v_c, at0, at1, at2, ixn0, ixn1, ixn2, ixn03, ixn13, ixn23, List.drop_succ_cons, List.drop_zero,  v_var, varK_fz, varK_ol, v_bin, binK_some, binK2_some, binK3_some, valK_some, v_ldd, v_ldn, v_lds, ldK_ol, ldK_fz, v_frzd, v_frzn, v_frzs, frzK_ol, frzK_fz, v_frzs0, v_frzs1, frzsK_some, frzsK2_some, v_lds0, v_lds1, ldsK_some, ldsK2_some, v_ldCd, v_ldCn, v_ldCs, ldCK_ol, ldCK_fz, v_ldsC0, v_ldsC1, ldsCK_some, ldsCK2_some, v_anil, v_acons, aConsK_some, aConsK2_some, v_tup, tupK_some, tupK2_some, v_lst, lstK_some, lstK2_some,
  v_neg, negK_some, v_if, ifK_t, ifK_f, v_tst, tstK_some, v_band, v_bor, v_bnot, andK_t, andK_f, orK_t, orK_f, notK_some, v_and, v_or, v_not, andVK_t, andVK_f, orVK_t, orVK_f, notVK_some, v_chain, chK1_some, chK2_some, chK3_some, chK4_t, chK4_f, v_onone, v_osome, partK_some, v_sl, slK1_some, slK2_some, slK3_some, slK4_some, v_slL, v_slS, v_slT, v_slStr, v_rev, revK_some, revK2_l, v_cb, cbK_some, cbK2_some, v_m1, m1K_some, m1K2_some, m1K3_some,
  v_app, appK_ol, appK2_some, appK3_some, appK4_ol, v_pop, popK_ol, v_popAt, popAtK_ol, popAtK2_some, v_c0, c0K_some, c0K2_some, c0K3_some, c0K4_some, melt0, melt1, meltK_some, meltK2_ol, meltK2_fz, v_c1, c1K_some, c1K2_ol, c1K3_some, c1K4_some, c1K5_some, v_seq, seqK_nx, seqK_rt, seqK_ct, v_next, v_cont, v_expr, exprK_some, v_ret, retK_some, v_retN, v_asg, asgK_some, nxK_some, v_stN, v_stD, v_stS, stK_some, v_notT, notTK_fz, notTK_un, notTK_ol, v_sif, sifK_t, sifK_f,
  v_asgT, asgTK_some, asgTK2_some, v_gN, v_gT, v_gStar, v_gNil, v_gCons, gConsK_some, v_par, parK_some, parK2_some, v_aug, augK_fz, augK2_some, augK3_some, augK4_some, v_six, sixK_some, sixK2_some, sixK3_ol, sixK4_some, sixK5_ol, sixK6_some, v_for, forK_some, v_lc, v_yes, v_iL, v_iA, iLK_some, iAK_t, iAK_s, iAK_l, iAK_sls, iAK_sl, iAK_n, iLK2_l, iLK2_s, v_iR1, v_iR2, r2K_some, v_iEn, enK_some, outK_rt, outK_nx, outK2_some, v_rd, v_rn, v_rs, retRK_ol, retRK_fz,
  add_i, add_s, add_l, sub_i, mul_i, mod_i, div_i, pow_i, lt_i, le_i, gt_i, ge_i, eq_i, ne_i, eq_s, ne_s, is_n, isN_n, ix_l, ix_t, ix_s, len_l, len_s, len_t, len_str, abs_i, max_i, min_i, int_i, int_b, list_l, list_s, str_i, str_s, lent, noRs, noL, noLs, lcK2_some, lcL_nil, lcL_cons, lcT1_some, lcT2_t, lcT2_f, lcT3_some, lcT4_some, lcT5_some, forL_nil, forL_cons, turnK_some, turnK2_nx, turnK2_ct, turnK2_rt, wipeG, restG,
  uns, List.replicate_succ, List.replicate_zero, List.getElem?_cons_zero, List.getElem?_cons_succ, List.getElem?_nil, List.set_cons_zero, List.set_cons_succ, List.set_nil, List.length_cons, List.length_nil, List.map_cons, List.map_nil, List.cons_append, List.nil_append, List.append_nil, List.take_succ_cons, List.take_zero, List.take_nil, Option.map_some, Option.map_none, Option.getD_some, Option.getD_none, List.not_mem_nil, not_false_eq_true, List.mem_cons, or_false, false_or,
  Nat.reduceAdd, Nat.reduceSub, Nat.reduceLT, Nat.reduceLeDiff, Int.reduceLT, Int.reduceLE, Int.reduceAdd, Int.reduceSub, Int.reduceMul, Int.reducePow, Int.reduceToNat, Int.reduceNeg, Int.reduceEq, Nat.reduceMul, Nat.reducePow, Nat.zero_add, Nat.add_zero, Nat.reduceEqDiff, decide_true, decide_false, Bool.and_true, Bool.and_false, Bool.true_and, Bool.false_and, Bool.or_true, Bool.or_false, Bool.not_true, Bool.not_false, if_true, if_false, reduceIte, Bool.false_eq_true, and_true, true_and, and_false, false_and, and_self, reduceCtorEq, Bool.and_self, decide_eq_true_eq])

/-! ### one command -/
def dupF : Str → List Str → List Str
  | _, [] => []
  | x, y :: l => if y = x then dupF x l else y :: dupF y l
def uniqL : List Str → List Str
  | [] => []
  | x :: l => x :: dupF x l
def sortL (l : List Str) : List Str := SetX.srt (SetX.dd l l.length)
def Cmd.step : Cmd → List Str → List Str
  | .num .head n, l => l.take n
  | .num .tail n, l => l.drop (l.length - n)
  | .num .skip n, l => l.drop n
  | .num .chop n, l => l.take (l.length - n)
  | .pl .reverse, l => l.reverse
  | .pl .uniq, l => uniqL l
  | .pl .sort, l => sortL l
theorem cut_from {l : List D} {n : Nat} : cutD l (some (n : Int)) none = l.drop n := by
  unfold cutD
  rw [HT.sIx_nat, HT.sIx_none]
  by_cases h : n ≤ l.length
  · rw [Nat.min_eq_left h, List.take_of_length_le (by rw [List.length_drop]; omega)]
  · rw [Nat.min_eq_right (by omega), Nat.sub_self, List.take_zero, List.drop_of_length_le (by omega)]
theorem atI_last {l : List D} {x : D} : atI (l ++ [x]) (-1) = some x := by
  unfold atI ixN
  rw [if_neg (by decide), if_pos (by rw [List.length_append, List.length_singleton]; omega)]
  have e : (-1 + ((l ++ [x]).length : Int)).toNat = l.length := by rw [List.length_append, List.length_singleton]; omega
  rw [e]
  simp
theorem strs_noL (l : List Str) : noLs (l.map D.str) = true := by
  induction l with
  | nil => rfl
  | cons a l ih => rw [List.map_cons, noLs, ih]; rfl
theorem cut_from1 {l : List D} : cutD l (some 1) none = l.drop 1 := cut_from (n := 1)
theorem cut_upto1 {l : List D} : cutD l none (some 1) = l.take 1 := cut_upto (n := 1)
theorem without_ok {l : List Str} (hl : l.length ≤ 1000) : Mwithout_repeats [.fz (.lst (l.map D.str))] = some (.nw ((uniqL l).map D.str), [.fz (.lst (l.map D.str))]) := by
  unfold Mwithout_repeats
  rw [dM_run (n := 1) rfl]; unfold Bwithout_repeats
  have c1 := cut_from1 (l := l.map D.str)
  have c2 := cut_upto1 (l := l.map D.str)
  cases l with
  | nil =>
    simp only [List.map_nil] at *
    walk_at "ev"
    rfl
  | cons x l =>
    -- the loop from a last sign on
    have key : ∀ (S : Slot) (r : List Str) (acc : List Str) (z : Str) (a : Slot), notTK (some a) = true → acc.length + r.length ≤ 2000 →
        ∃ a', notTK (some a') = true ∧ forL (gN 2) (sIf (tst (eBin cNe (eVar 2) (eBin ixD (eVar 1) (eNeg (eC (.int 1)))))) (sExpr (eApp 1 (eVar 2))) sNext) (r.map D.str) [S, .ol false ((acc ++ [z]).map D.str), a] =
          some (.nx [S, .ol false ((acc ++ [z] ++ dupF z r).map D.str), a']) := by
      intro S r
      induction r with
      | nil => intro acc z a na _; exact ⟨a, na, by simp [forL, dupF]⟩
      | cons y r ih =>
        intro acc z a na hlen
        have hlast : atI ((acc ++ [z]).map D.str) (-1) = some (.str z) := by rw [List.map_append]; exact atI_last
        rw [List.length_cons] at hlen
        by_cases hyz : y = z
        · obtain ⟨a', n', e⟩ := ih acc z (.fz (.str y)) rfl (by omega)
          refine ⟨a', n', ?_⟩
          have hc : cNe (.str y) (.str z) = some (.d (.bl false)) := by rw [ne_s, decide_eq_true hyz]; rfl
          have hd : dupF z (y :: r) = dupF z r := by rw [dupF, if_pos hyz]
          rw [hd]
          clear hyz ih
          rw [List.map_cons (l := r)]
          generalize (acc ++ [z]).map D.str = W at *
          walk_at "ev"
        · obtain ⟨a', n', e⟩ := ih (acc ++ [z]) y (.fz (.str y)) rfl (by rw [List.length_append, List.length_singleton]; omega)
          refine ⟨a', n', ?_⟩
          have hc : cNe (.str y) (.str z) = some (.d (.bl true)) := by rw [ne_s, decide_eq_false hyz]; rfl
          have hd : dupF z (y :: r) = y :: dupF y r := by rw [dupF, if_neg hyz]
          have hW : ((acc ++ [z]).map D.str).length ≤ 100000 := by rw [List.length_map, List.length_append, List.length_singleton]; omega
          have e2 : acc ++ [z] ++ dupF z (y :: r) = acc ++ [z] ++ [y] ++ dupF y r := by rw [hd]; simp
          rw [e2]
          rw [show ((acc ++ [z] ++ [y]).map D.str) = (acc ++ [z]).map D.str ++ [.str y] by simp] at e
          clear hyz ih hd e2
          rw [List.map_cons (l := r)]
          generalize (acc ++ [z]).map D.str = W at *
          walk_at "ev"
    obtain ⟨a', n', e⟩ := key (.fz (.lst (.str x :: l.map D.str))) l [] x .un rfl (by simp at hl ⊢; omega)
    have hz : (x :: l).map D.str = .str x :: l.map D.str := rfl
    have hd : (D.str x :: l.map D.str).drop 1 = l.map D.str := rfl
    have ht : (D.str x :: l.map D.str).take 1 = [D.str x] := rfl
    have hu : (uniqL (x :: l)).map D.str = (([] : List Str) ++ [x] ++ dupF x l).map D.str := rfl
    rw [hu]
    rw [hz, hd] at c1
    rw [hz, ht] at c2
    rw [hz]
    have e : forL (gN 2) (sIf (tst (eBin cNe (eVar 2) (eBin ixD (eVar 1) (eNeg (eC (.int 1)))))) (sExpr (eApp 1 (eVar 2))) sNext) (l.map D.str) [.fz (.lst (.str x :: l.map D.str)), .ol false [.str x], .un] = _ := e
    generalize ((([] : List Str) ++ [x] ++ dupF x l).map D.str) = W at *
    walk_at "ev"
theorem apply_ok {c : Cmd} {l : List Str} (hl : l.length ≤ 1000) : Mapply_command [.fz c.enc, .fz (.lst (l.map D.str))] = some (.nw ((c.step l).map D.str), [.fz c.enc, .fz (.lst (l.map D.str))]) := by
  unfold Mapply_command
  rw [dM_run (n := 2) rfl]; unfold Bapply_command
  cases c with
  | num a n =>
    have q1 : cEq (.str a.str) (.str (("reverse" : String) : Str)) = some (.d (.bl false)) := by cases a <;> rfl
    have q2 : cEq (.str a.str) (.str (("uniq" : String) : Str)) = some (.d (.bl false)) := by cases a <;> rfl
    have q3 : cEq (.str a.str) (.str (("sort" : String) : Str)) = some (.d (.bl false)) := by cases a <;> rfl
    have hm : maxD [.int 0, .int (((l.map D.str).length : Int) - (n : Int))] = some (.d (.int ((l.length - n : Nat) : Int))) := by
      rw [max_i, List.length_map]
      split
      · rw [show (l.length : Int) - (n : Int) = ((l.length - n : Nat) : Int) by omega]
      · rw [show ((l.length - n : Nat) : Int) = 0 by omega]
    have c1 := cut_upto (l := l.map D.str) (n := n)
    have c2 := cut_upto (l := l.map D.str) (n := l.length - n)
    have c3 := cut_from (l := l.map D.str) (n := n)
    have c4 := cut_from (l := l.map D.str) (n := l.length - n)
    rw [← List.map_take] at c1 c2
    rw [← List.map_drop] at c3 c4
    unfold Cmd.enc
    cases a
    · have q4 : cIn (.str Nm.head.str) (.tup [.str (("head" : String) : Str), .str (("chop" : String) : Str)]) = some (.d (.bl true)) := rfl
      have q5 : cEq (.str Nm.head.str) (.str (("head" : String) : Str)) = some (.d (.bl true)) := rfl
      have q6 : cEq (.str Nm.head.str) (.str (("skip" : String) : Str)) = some (.d (.bl false)) := rfl
      unfold Cmd.step
      walk_at "ev"
    · have q4 : cIn (.str Nm.tail.str) (.tup [.str (("head" : String) : Str), .str (("chop" : String) : Str)]) = some (.d (.bl false)) := rfl
      have q5 : cEq (.str Nm.tail.str) (.str (("head" : String) : Str)) = some (.d (.bl false)) := rfl
      have q6 : cEq (.str Nm.tail.str) (.str (("skip" : String) : Str)) = some (.d (.bl false)) := rfl
      unfold Cmd.step
      walk_at "ev"
    · have q4 : cIn (.str Nm.skip.str) (.tup [.str (("head" : String) : Str), .str (("chop" : String) : Str)]) = some (.d (.bl false)) := rfl
      have q5 : cEq (.str Nm.skip.str) (.str (("head" : String) : Str)) = some (.d (.bl false)) := rfl
      have q6 : cEq (.str Nm.skip.str) (.str (("skip" : String) : Str)) = some (.d (.bl true)) := rfl
      unfold Cmd.step
      walk_at "ev"
    · have q4 : cIn (.str Nm.chop.str) (.tup [.str (("head" : String) : Str), .str (("chop" : String) : Str)]) = some (.d (.bl true)) := rfl
      have q5 : cEq (.str Nm.chop.str) (.str (("head" : String) : Str)) = some (.d (.bl false)) := rfl
      have q6 : cEq (.str Nm.chop.str) (.str (("skip" : String) : Str)) = some (.d (.bl false)) := rfl
      unfold Cmd.step
      walk_at "ev"
  | pl a =>
    unfold Cmd.enc
    cases a
    · have q1 : cEq (.str Pl.reverse.str) (.str (("reverse" : String) : Str)) = some (.d (.bl true)) := rfl
      have e1 : (Cmd.step (.pl .reverse) l).map D.str = (l.map D.str).reverse := by unfold Cmd.step; rw [List.map_reverse]
      walk_at "ev"
    · have q1 : cEq (.str Pl.uniq.str) (.str (("reverse" : String) : Str)) = some (.d (.bl false)) := rfl
      have q2 : cEq (.str Pl.uniq.str) (.str (("uniq" : String) : Str)) = some (.d (.bl true)) := rfl
      have q3 := without_ok hl
      have q4 := strs_noL (uniqL l)
      have e1 : Cmd.step (.pl .uniq) l = uniqL l := rfl
      walk_at "ev"
    · have q1 : cEq (.str Pl.sort.str) (.str (("reverse" : String) : Str)) = some (.d (.bl false)) := rfl
      have q2 : cEq (.str Pl.sort.str) (.str (("uniq" : String) : Str)) = some (.d (.bl false)) := rfl
      have q3 : cEq (.str Pl.sort.str) (.str (("sort" : String) : Str)) = some (.d (.bl true)) := rfl
      have e1 : Cmd.step (.pl .sort) l = sortL l := rfl
      have q4 : sortSetD [.lst (l.map D.str)] = some (.nw ((sortL l).map D.str)) := by
        unfold sortSetD
        dsimp only
        rw [strs_of, Option.bind_some, if_pos (by omega)]
        rfl
      walk_at "ev"
/-! ### a whole run -/
theorem dup_len : ∀ (l : List Str) (x : Str), (dupF x l).length ≤ l.length
  | [], _ => Nat.le_refl _
  | y :: l, x => by
    unfold dupF
    split
    · have := dup_len l x; rw [List.length_cons]; omega
    · have := dup_len l y; rw [List.length_cons, List.length_cons]; omega
theorem step_len (c : Cmd) (l : List Str) : (c.step l).length ≤ l.length := by
  cases c with
  | num a n => cases a <;> simp only [Cmd.step, List.length_take, List.length_drop] <;> omega
  | pl a =>
    cases a
    · simp [Cmd.step]
    · cases l with
      | nil => simp [Cmd.step, uniqL]
      | cons x l => have := dup_len l x; simp only [Cmd.step, uniqL, List.length_cons]; omega
    · show (sortL l).length ≤ _
      unfold sortL
      rw [(SetX.srt_perm _).length_eq]
      exact SetX.dd_len l _
def runL (p : List Cmd) (l : List Str) : List Str := p.foldl (fun l c => c.step l) l
theorem runL_len (p : List Cmd) : ∀ l, (runL p l).length ≤ l.length := by
  induction p with
  | nil => intro l; exact Nat.le_refl _
  | cons c p ih => intro l; exact Nat.le_trans (ih _) (step_len c l)
end Sp

/-! ## what a law draws: kinds, lines, plans -/
namespace Sp
open PySem L2 TL Sm Lw
local macro_rules | `(tactic| walk_at "ev") => `(tactic| simp (config := { implicitDefEqProofs := false }) only [*, _root_.eq_self, v_c, at0, at1, at2, ixn0, ixn1, ixn2, ixn03, ixn13, ixn23, List.drop_succ_cons, List.drop_zero,  v_var, varK_fz, varK_ol, v_bin, binK_some, binK2_some, binK3_some, valK_some, v_ldd, v_ldn, v_lds, ldK_ol, ldK_fz, v_frzd, v_frzn, v_frzs, frzK_ol, frzK_fz, v_frzs0, v_frzs1, frzsK_some, frzsK2_some, v_lds0, v_lds1, ldsK_some, ldsK2_some, v_ldCd, v_ldCn, v_ldCs, ldCK_ol, ldCK_fz, v_ldsC0, v_ldsC1, ldsCK_some, ldsCK2_some, v_anil, v_acons, aConsK_some, aConsK2_some, v_tup, tupK_some, tupK2_some, v_lst, lstK_some, lstK2_some,
  v_neg, negK_some, v_if, ifK_t, ifK_f, v_tst, tstK_some, v_band, v_bor, v_bnot, andK_t, andK_f, orK_t, orK_f, notK_some, v_and, v_or, v_not, andVK_t, andVK_f, orVK_t, orVK_f, notVK_some, v_chain, chK1_some, chK2_some, chK3_some, chK4_t, chK4_f, v_onone, v_osome, partK_some, v_sl, slK1_some, slK2_some, slK3_some, slK4_some, v_slL, v_slS, v_slT, v_slStr, v_rev, revK_some, revK2_l, v_cb, cbK_some, cbK2_some, v_m1, m1K_some, m1K2_some, m1K3_some,
  v_app, appK_ol, appK2_some, appK3_some, appK4_ol, v_pop, popK_ol, v_popAt, popAtK_ol, popAtK2_some, v_c0, c0K_some, c0K2_some, c0K3_some, c0K4_some, melt0, melt1, meltK_some, meltK2_ol, meltK2_fz, v_c1, c1K_some, c1K2_ol, c1K3_some, c1K4_some, c1K5_some, v_seq, seqK_nx, seqK_rt, seqK_ct, v_next, v_cont, v_expr, exprK_some, v_ret, retK_some, v_retN, v_asg, asgK_some, nxK_some, v_stN, v_stD, v_stS, stK_some, v_notT, notTK_fz, notTK_un, notTK_ol, v_sif, sifK_t, sifK_f,
  v_asgT, asgTK_some, asgTK2_some, v_gN, v_gT, v_gStar, v_gNil, v_gCons, gConsK_some, v_par, parK_some, parK2_some, v_aug, augK_fz, augK2_some, augK3_some, augK4_some, v_six, sixK_some, sixK2_some, sixK3_ol, sixK4_some, sixK5_ol, sixK6_some, v_for, forK_some, v_lc, v_yes, v_iL, v_iA, iLK_some, iAK_t, iAK_s, iAK_l, iAK_sls, iAK_sl, iAK_n, iLK2_l, iLK2_s, v_iR1, v_iR2, r2K_some, v_iEn, enK_some, outK_rt, outK_nx, outK2_some, v_rd, v_rn, v_rs, retRK_ol, retRK_fz,
  add_i, add_s, add_l, sub_i, mul_i, mod_i, div_i, pow_i, lt_i, le_i, gt_i, ge_i, eq_i, ne_i, eq_s, ne_s, is_n, isN_n, ix_l, ix_t, ix_s, len_l, len_s, len_t, len_str, abs_i, max_i, min_i, int_i, int_b, list_l, list_s, str_i, str_s, lent, noRs, noL, noLs, lcK2_some, lcL_nil, lcL_cons, lcT1_some, lcT2_t, lcT2_f, lcT3_some, lcT4_some, lcT5_some, forL_nil, forL_cons, turnK_some, turnK2_nx, turnK2_ct, turnK2_rt, wipeG, restG,
  uns, List.replicate_succ, List.replicate_zero, List.getElem?_cons_zero, List.getElem?_cons_succ, List.getElem?_nil, List.set_cons_zero, List.set_cons_succ, List.set_nil, List.length_cons, List.length_nil, List.map_cons, List.map_nil, List.cons_append, List.nil_append, List.append_nil, List.take_succ_cons, List.take_zero, List.take_nil, Option.map_some, Option.map_none, Option.getD_some, Option.getD_none, List.not_mem_nil, not_false_eq_true, List.mem_cons, or_false, false_or,
  Nat.reduceAdd, Nat.reduceSub, Nat.reduceLT, Nat.reduceLeDiff, Int.reduceLT, Int.reduceLE, Int.reduceAdd, Int.reduceSub, Int.reduceMul, Int.reducePow, Int.reduceToNat, Int.reduceNeg, Int.reduceEq, Nat.reduceMul, Nat.reducePow, Nat.zero_add, Nat.add_zero, Nat.reduceEqDiff, decide_true, decide_false, Bool.and_true, Bool.and_false, Bool.true_and, Bool.false_and, Bool.or_true, Bool.or_false, Bool.not_true, Bool.not_false, if_true, if_false, reduceIte, Bool.false_eq_true, and_true, true_and, and_false, false_and, and_self, reduceCtorEq, Bool.and_self, decide_eq_true_eq])

theorem rangeD_len (a : Int) (n : Nat) : (rangeD a n).length = n := by simp [rangeD]
end Sp

namespace Sp
open PySem L2 TL Sm Lw
local macro_rules | `(tactic| walk_at "ev") => `(tactic| simp (config := { implicitDefEqProofs := false }) only [*, _root_.eq_self, v_c, at0, at1, at2, ixn0, ixn1, ixn2, ixn03, ixn13, ixn23, List.drop_succ_cons, List.drop_zero,  v_var, varK_fz, varK_ol, v_bin, binK_some, binK2_some, binK3_some, valK_some, v_ldd, v_ldn, v_lds, ldK_ol, ldK_fz, v_frzd, v_frzn, v_frzs, frzK_ol, frzK_fz, v_frzs0, v_frzs1, frzsK_some, frzsK2_some, v_lds0, v_lds1, ldsK_some, ldsK2_some, v_ldCd, v_ldCn, v_ldCs, ldCK_ol, ldCK_fz, v_ldsC0, v_ldsC1, ldsCK_some, ldsCK2_some, v_anil, v_acons, aConsK_some, aConsK2_some, v_tup, tupK_some, tupK2_some, v_lst, lstK_some, lstK2_some,
  v_neg, negK_some, v_if, ifK_t, ifK_f, v_tst, tstK_some, v_band, v_bor, v_bnot, andK_t, andK_f, orK_t, orK_f, notK_some, v_and, v_or, v_not, andVK_t, andVK_f, orVK_t, orVK_f, notVK_some, v_chain, chK1_some, chK2_some, chK3_some, chK4_t, chK4_f, v_onone, v_osome, partK_some, v_sl, slK1_some, slK2_some, slK3_some, slK4_some, v_slL, v_slS, v_slT, v_slStr, v_rev, revK_some, revK2_l, v_cb, cbK_some, cbK2_some, v_m1, m1K_some, m1K2_some, m1K3_some,
  v_app, appK_ol, appK2_some, appK3_some, appK4_ol, v_pop, popK_ol, v_popAt, popAtK_ol, popAtK2_some, v_c0, c0K_some, c0K2_some, c0K3_some, c0K4_some, melt0, melt1, meltK_some, meltK2_ol, meltK2_fz, v_c1, c1K_some, c1K2_ol, c1K3_some, c1K4_some, c1K5_some, v_seq, seqK_nx, seqK_rt, seqK_ct, v_next, v_cont, v_expr, exprK_some, v_ret, retK_some, v_retN, v_asg, asgK_some, nxK_some, v_stN, v_stD, v_stS, stK_some, v_notT, notTK_fz, notTK_un, notTK_ol, v_sif, sifK_t, sifK_f,
  v_asgT, asgTK_some, asgTK2_some, v_gN, v_gT, v_gStar, v_gNil, v_gCons, gConsK_some, v_par, parK_some, parK2_some, v_aug, augK_fz, augK2_some, augK3_some, augK4_some, v_six, sixK_some, sixK2_some, sixK3_ol, sixK4_some, sixK5_ol, sixK6_some, v_for, forK_some, v_lc, v_yes, v_iL, v_iA, iLK_some, iAK_t, iAK_s, iAK_l, iAK_sls, iAK_sl, iAK_n, iLK2_l, iLK2_s, v_iR1, v_iR2, r2K_some, v_iEn, enK_some, outK_rt, outK_nx, outK2_some, v_rd, v_rn, v_rs, retRK_ol, retRK_fz,
  add_i, add_s, add_l, sub_i, mul_i, mod_i, div_i, pow_i, lt_i, le_i, gt_i, ge_i, eq_i, ne_i, eq_s, ne_s, is_n, isN_n, ix_l, ix_t, ix_s, len_l, len_s, len_t, len_str, abs_i, max_i, min_i, int_i, int_b, list_l, list_s, str_i, str_s, lent, noRs, noL, noLs, lcK2_some, lcL_nil, lcL_cons, lcT1_some, lcT2_t, lcT2_f, lcT3_some, lcT4_some, lcT5_some, forL_nil, forL_cons, turnK_some, turnK2_nx, turnK2_ct, turnK2_rt, wipeG, restG,
  uns, List.replicate_succ, List.replicate_zero, List.getElem?_cons_zero, List.getElem?_cons_succ, List.getElem?_nil, List.set_cons_zero, List.set_cons_succ, List.set_nil, List.length_cons, List.length_nil, List.map_cons, List.map_nil, List.cons_append, List.nil_append, List.append_nil, List.take_succ_cons, List.take_zero, List.take_nil, Option.map_some, Option.map_none, Option.getD_some, Option.getD_none, List.not_mem_nil, not_false_eq_true, List.mem_cons, or_false, false_or,
  Nat.reduceAdd, Nat.reduceSub, Nat.reduceLT, Nat.reduceLeDiff, Int.reduceLT, Int.reduceLE, Int.reduceAdd, Int.reduceSub, Int.reduceMul, Int.reducePow, Int.reduceToNat, Int.reduceNeg, Int.reduceEq, Nat.reduceMul, Nat.reducePow, Nat.zero_add, Nat.add_zero, Nat.reduceEqDiff, decide_true, decide_false, Bool.and_true, Bool.and_false, Bool.true_and, Bool.false_and, Bool.or_true, Bool.or_false, Bool.not_true, Bool.not_false, if_true, if_false, reduceIte, Bool.false_eq_true, and_true, true_and, and_false, false_and, and_self, reduceCtorEq, Bool.and_self, decide_eq_true_eq])

theorem enc_noL (c : Cmd) : noL c.enc = true := by cases c <;> rfl
theorem encs_noL (p : List Cmd) : noLs (p.map Cmd.enc) = true := by
  induction p with
  | nil => rfl
  | cons a l ih => rw [List.map_cons, noLs, ih, enc_noL]; rfl
/-! ### the law's own step -/
theorem get_at {l : List Str} {i : Nat} (h : i < l.length) : atI (l.map D.str) (i : Int) = some (.str l[i]) := atI_of (by rw [List.getElem?_map, List.getElem?_eq_getElem h]; rfl)
/-- a comprehension over the numbers below a length, with a test -/
theorem lc_spots {l m : List Str} {fe : G → Option (R × G)} {ft : G → Option (Bool × G)} {vs : List Nat} {gf : D → G → Option G} {g : G} (ψ : Nat → Bool) (val : Nat → Str)
    (h : ∀ k, k < l.length → ∃ g1 g1', gf (.int (0 + (k : Int))) g = some g1 ∧ ft g1 = some (ψ k, g1') ∧ (ψ k = false → wipeG g1' vs = g) ∧ (ψ k = true → ∃ r g2 g3, fe g1' = some (r, g2) ∧ frz g2 r = some (.str (val k), g3) ∧ wipeG g3 vs = g))
    (hm : ((List.range l.length).filter ψ).map val = m) : lcL gf ft fe vs (rangeD 0 l.length) g = some (m.map D.str, g) := by
  have := lc_fil (ι := fun k : Nat => .int (0 + (k : Int))) (φ := fun k => .str (val k)) (ψ := ψ) (g := g) (gf := gf) (ft := ft) (fe := fe) (vs := vs) (l := List.range l.length) fun k hk => h k (List.mem_range.mp hk)
  rw [← hm, List.map_map]
  exact this
end Sp

namespace Sp
open PySem L2 TL Sm Lw
local macro_rules | `(tactic| walk_at "ev") => `(tactic| simp (config := { implicitDefEqProofs := false }) only [*, _root_.eq_self, v_c, at0, at1, at2, ixn0, ixn1, ixn2, ixn03, ixn13, ixn23, List.drop_succ_cons, List.drop_zero,  v_var, varK_fz, varK_ol, v_bin, binK_some, binK2_some, binK3_some, valK_some, v_ldd, v_ldn, v_lds, ldK_ol, ldK_fz, v_frzd, v_frzn, v_frzs, frzK_ol, frzK_fz, v_frzs0, v_frzs1, frzsK_some, frzsK2_some, v_lds0, v_lds1, ldsK_some, ldsK2_some, v_ldCd, v_ldCn, v_ldCs, ldCK_ol, ldCK_fz, v_ldsC0, v_ldsC1, ldsCK_some, ldsCK2_some, v_anil, v_acons, aConsK_some, aConsK2_some, v_tup, tupK_some, tupK2_some, v_lst, lstK_some, lstK2_some,
  v_neg, negK_some, v_if, ifK_t, ifK_f, v_tst, tstK_some, v_band, v_bor, v_bnot, andK_t, andK_f, orK_t, orK_f, notK_some, v_and, v_or, v_not, andVK_t, andVK_f, orVK_t, orVK_f, notVK_some, v_chain, chK1_some, chK2_some, chK3_some, chK4_t, chK4_f, v_onone, v_osome, partK_some, v_sl, slK1_some, slK2_some, slK3_some, slK4_some, v_slL, v_slS, v_slT, v_slStr, v_rev, revK_some, revK2_l, v_cb, cbK_some, cbK2_some, v_m1, m1K_some, m1K2_some, m1K3_some,
  v_app, appK_ol, appK2_some, appK3_some, appK4_ol, v_pop, popK_ol, v_popAt, popAtK_ol, popAtK2_some, v_c0, c0K_some, c0K2_some, c0K3_some, c0K4_some, melt0, melt1, meltK_some, meltK2_ol, meltK2_fz, v_c1, c1K_some, c1K2_ol, c1K3_some, c1K4_some, c1K5_some, v_seq, seqK_nx, seqK_rt, seqK_ct, v_next, v_cont, v_expr, exprK_some, v_ret, retK_some, v_retN, v_asg, asgK_some, nxK_some, v_stN, v_stD, v_stS, stK_some, v_notT, notTK_fz, notTK_un, notTK_ol, v_sif, sifK_t, sifK_f,
  v_asgT, asgTK_some, asgTK2_some, v_gN, v_gT, v_gStar, v_pNil, v_pCons, pcK_some, pcK2_some, v_disp, dpK_some, dpK2_some, v_gNil, v_gCons, gConsK_some, v_par, parK_some, parK2_some, v_aug, augK_fz, augK2_some, augK3_some, augK4_some, v_six, sixK_some, sixK2_some, sixK3_ol, sixK4_some, sixK5_ol, sixK6_some, v_for, forK_some, v_lc, v_yes, v_iL, v_iA, iLK_some, iAK_t, iAK_s, iAK_l, iAK_sls, iAK_sl, iAK_n, iLK2_l, iLK2_s, v_iR1, v_iR2, r2K_some, v_iEn, enK_some, outK_rt, outK_nx, outK2_some, v_rd, v_rn, v_rs, retRK_ol, retRK_fz,
  add_i, add_s, add_l, sub_i, mul_i, mod_i, div_i, pow_i, lt_i, le_i, gt_i, ge_i, eq_i, ne_i, eq_s, ne_s, is_n, isN_n, ix_l, ix_t, ix_s, len_l, len_s, len_t, len_str, abs_i, max_i, min_i, int_i, int_b, list_l, list_s, str_i, str_s, lent, noRs, noL, noLs, lcK2_some, lcL_nil, lcL_cons, lcT1_some, lcT2_t, lcT2_f, lcT3_some, lcT4_some, lcT5_some, forL_nil, forL_cons, turnK_some, turnK2_nx, turnK2_ct, turnK2_rt, wipeG, restG,
  uns, List.replicate_succ, List.replicate_zero, List.getElem?_cons_zero, List.getElem?_cons_succ, List.getElem?_nil, List.set_cons_zero, List.set_cons_succ, List.set_nil, List.length_cons, List.length_nil, List.map_cons, List.map_nil, List.cons_append, List.nil_append, List.append_nil, List.take_succ_cons, List.take_zero, List.take_nil, Option.map_some, Option.map_none, Option.getD_some, Option.getD_none, List.not_mem_nil, not_false_eq_true, List.mem_cons, or_false, false_or,
  Nat.reduceAdd, Nat.reduceSub, Nat.reduceLT, Nat.reduceLeDiff, Int.reduceLT, Int.reduceLE, Int.reduceAdd, Int.reduceSub, Int.reduceMul, Int.reducePow, Int.reduceToNat, Int.reduceNeg, Int.reduceEq, Nat.reduceMul, Nat.reducePow, Nat.zero_add, Nat.add_zero, Nat.reduceEqDiff, nc0, nc1, nc2, nc3, decide_true, decide_false, Bool.and_true, Bool.and_false, Bool.true_and, Bool.false_and, Bool.or_true, Bool.or_false, Bool.not_true, Bool.not_false, if_true, if_false, reduceIte, Bool.false_eq_true, and_true, true_and, and_false, false_and, and_self, reduceCtorEq, Bool.and_self, decide_eq_true_eq])


/-! ### the plain laws of a step -/
theorem filt_window (l : List Str) (a b : Nat) (hb : b ≤ l.length) (val : Nat → Str) (hv : ∀ i (h : i < l.length), val i = l[i]) :
    ((List.range l.length).filter fun k => decide (a ≤ k) && decide (k < b)).map val = (l.take b).drop a := by
  have e : l.length = b + (l.length - b) := by omega
  have h1 : ((List.range l.length).filter fun k => decide (a ≤ k) && decide (k < b)) = (List.range b).filter fun k => decide (a ≤ k) := by
    rw [e, List.range_add, List.filter_append]
    have h2 : ((List.range (l.length - b)).map (b + ·)).filter (fun k => decide (a ≤ k) && decide (k < b)) = [] := by
      rw [List.filter_eq_nil_iff]
      intro k hk
      obtain ⟨j, _, rfl⟩ := List.mem_map.mp hk
      simp
    rw [h2, List.append_nil]
    refine List.filter_congr fun k hk => ?_
    have := List.mem_range.mp hk
    simp [this]
  rw [h1]
  by_cases ha : a ≤ b
  · have h3 : (List.range b).filter (fun k => decide (a ≤ k)) = (List.range (b - a)).map (a + ·) := by
      have e2 : b = a + (b - a) := by omega
      rw [e2, List.range_add, List.filter_append]
      have h4 : (List.range a).filter (fun k => decide (a ≤ k)) = [] := by
        rw [List.filter_eq_nil_iff]
        intro k hk
        have := List.mem_range.mp hk
        simp; omega
      rw [h4, List.nil_append, Nat.add_sub_cancel_left]
      rw [List.filter_eq_self]
      intro k hk
      obtain ⟨j, _, rfl⟩ := List.mem_map.mp hk
      simp
    rw [h3, List.map_map]
    apply List.ext_getElem
    · simp; omega
    · intro i i1 i2
      rw [List.getElem_map, List.getElem_range, List.getElem_drop, List.getElem_take]
      have i3 : i < b - a := by simpa using i1
      exact hv (a + i) (by omega)
  · have h3 : (List.range b).filter (fun k => decide (a ≤ k)) = [] := by
      rw [List.filter_eq_nil_iff]
      intro k hk
      have := List.mem_range.mp hk
      simp; omega
    rw [h3, List.drop_of_length_le (by rw [List.length_take]; omega)]
    rfl
theorem dd_all (l : List Str) : SetX.dd l l.length = l.foldl SetX.put1 [] := by unfold SetX.dd; rw [List.take_length]
end Sp

namespace Sp
open PySem L2 TL Sm Lw
local macro_rules | `(tactic| walk_at "ev") => `(tactic| simp (config := { implicitDefEqProofs := false }) only [*, _root_.eq_self, v_c, at0, at1, at2, ixn0, ixn1, ixn2, ixn03, ixn13, ixn23, List.drop_succ_cons, List.drop_zero,  v_var, varK_fz, varK_ol, v_bin, binK_some, binK2_some, binK3_some, valK_some, v_ldd, v_ldn, v_lds, ldK_ol, ldK_fz, v_frzd, v_frzn, v_frzs, frzK_ol, frzK_fz, v_frzs0, v_frzs1, frzsK_some, frzsK2_some, v_lds0, v_lds1, ldsK_some, ldsK2_some, v_ldCd, v_ldCn, v_ldCs, ldCK_ol, ldCK_fz, v_ldsC0, v_ldsC1, ldsCK_some, ldsCK2_some, v_anil, v_acons, aConsK_some, aConsK2_some, v_tup, tupK_some, tupK2_some, v_lst, lstK_some, lstK2_some,
  v_neg, negK_some, v_if, ifK_t, ifK_f, v_tst, tstK_some, v_band, v_bor, v_bnot, andK_t, andK_f, orK_t, orK_f, notK_some, v_and, v_or, v_not, andVK_t, andVK_f, orVK_t, orVK_f, notVK_some, v_chain, chK1_some, chK2_some, chK3_some, chK4_t, chK4_f, v_onone, v_osome, partK_some, v_sl, slK1_some, slK2_some, slK3_some, slK4_some, v_slL, v_slS, v_slT, v_slStr, v_rev, revK_some, revK2_l, v_cb, cbK_some, cbK2_some, v_m1, m1K_some, m1K2_some, m1K3_some,
  v_app, appK_ol, appK2_some, appK3_some, appK4_ol, v_pop, popK_ol, v_popAt, popAtK_ol, popAtK2_some, v_c0, c0K_some, c0K2_some, c0K3_some, c0K4_some, melt0, melt1, meltK_some, meltK2_ol, meltK2_fz, v_c1, c1K_some, c1K2_ol, c1K3_some, c1K4_some, c1K5_some, v_seq, seqK_nx, seqK_rt, seqK_ct, v_next, v_cont, v_expr, exprK_some, v_ret, retK_some, v_retN, v_asg, asgK_some, nxK_some, v_stN, v_stD, v_stS, stK_some, v_notT, notTK_fz, notTK_un, notTK_ol, v_sif, sifK_t, sifK_f,
  v_asgT, asgTK_some, asgTK2_some, v_gN, v_gT, v_gStar, v_pNil, v_pCons, pcK_some, pcK2_some, v_disp, dpK_some, dpK2_some, v_gNil, v_gCons, gConsK_some, v_par, parK_some, parK2_some, v_aug, augK_fz, augK2_some, augK3_some, augK4_some, v_six, sixK_some, sixK2_some, sixK3_ol, sixK4_some, sixK5_ol, sixK6_some, v_for, forK_some, v_lc, v_yes, v_iL, v_iA, iLK_some, iAK_t, iAK_s, iAK_l, iAK_sls, iAK_sl, iAK_n, iLK2_l, iLK2_s, v_iR1, v_iR2, r2K_some, v_iEn, enK_some, outK_rt, outK_nx, outK2_some, v_rd, v_rn, v_rs, retRK_ol, retRK_fz,
  add_i, add_s, add_l, sub_i, mul_i, mod_i, div_i, pow_i, lt_i, le_i, gt_i, ge_i, eq_i, ne_i, eq_s, ne_s, is_n, isN_n, ix_l, ix_t, ix_s, len_l, len_s, len_t, len_str, abs_i, max_i, min_i, int_i, int_b, list_l, list_s, str_i, str_s, lent, noRs, noL, noLs, lcK2_some, lcL_nil, lcL_cons, lcT1_some, lcT2_t, lcT2_f, lcT3_some, lcT4_some, lcT5_some, forL_nil, forL_cons, turnK_some, turnK2_nx, turnK2_ct, turnK2_rt, wipeG, restG,
  uns, List.replicate_succ, List.replicate_zero, List.getElem?_cons_zero, List.getElem?_cons_succ, List.getElem?_nil, List.set_cons_zero, List.set_cons_succ, List.set_nil, List.length_cons, List.length_nil, List.map_cons, List.map_nil, List.cons_append, List.nil_append, List.append_nil, List.take_succ_cons, List.take_zero, List.take_nil, Option.map_some, Option.map_none, Option.getD_some, Option.getD_none, List.not_mem_nil, not_false_eq_true, List.mem_cons, or_false, false_or,
  Nat.reduceAdd, Nat.reduceSub, Nat.reduceLT, Nat.reduceLeDiff, Int.reduceLT, Int.reduceLE, Int.reduceAdd, Int.reduceSub, Int.reduceMul, Int.reducePow, Int.reduceToNat, Int.reduceNeg, Int.reduceEq, Nat.reduceMul, Nat.reducePow, Nat.zero_add, Nat.add_zero, Nat.reduceEqDiff, nc0, nc1, nc2, nc3, decide_true, decide_false, Bool.and_true, Bool.and_false, Bool.true_and, Bool.false_and, Bool.or_true, Bool.or_false, Bool.not_true, Bool.not_false, if_true, if_false, reduceIte, Bool.false_eq_true, and_true, true_and, and_false, false_and, and_self, reduceCtorEq, Bool.and_self, decide_eq_true_eq])


theorem win {l : List Str} (lo hi : Int) (S0 S2 S3 S4 S5 S6 : Slot) : lcL (gN 9) (tst (eChain cLe cLt (eVar 7) (eVar 9) (eVar 8))) (eBin ixD (eVar 1) (eVar 9)) [9] (rangeD 0 l.length) [S0, .fz (.lst (l.map D.str)), S2, S3, S4, S5, S6, .fz (.int lo), .fz (.int hi), .un] =
    some (((l.take (min hi.toNat l.length)).drop lo.toNat).map D.str, [S0, .fz (.lst (l.map D.str)), S2, S3, S4, S5, S6, .fz (.int lo), .fz (.int hi), .un]) := by
  refine lc_spots (l := l) (fun k => decide (lo ≤ 0 + (k : Int)) && decide (0 + (k : Int) < hi)) (fun k => l.getD k Str.empty) (fun k hk => ?_) ?_
  · have hat := get_at (l := l) (i := k) hk
    rw [show ((k : Nat) : Int) = (0 + (k : Int)) by omega] at hat
    have hx : l[k] = l.getD k Str.empty := by rw [List.getD_eq_getElem?_getD, List.getElem?_eq_getElem hk]; rfl
    rw [hx] at hat
    clear hx
    refine ⟨[S0, .fz (.lst (l.map D.str)), S2, S3, S4, S5, S6, .fz (.int lo), .fz (.int hi), .fz (.int (0 + (k : Int)))], [S0, .fz (.lst (l.map D.str)), S2, S3, S4, S5, S6, .fz (.int lo), .fz (.int hi), .fz (.int (0 + (k : Int)))], ?_, ?_, (fun _ => rfl),
      fun _ => ⟨.d (.str (l.getD k Str.empty)), [S0, .fz (.lst (l.map D.str)), S2, S3, S4, S5, S6, .fz (.int lo), .fz (.int hi), .fz (.int (0 + (k : Int)))], [S0, .fz (.lst (l.map D.str)), S2, S3, S4, S5, S6, .fz (.int lo), .fz (.int hi), .fz (.int (0 + (k : Int)))], ?_, rfl, rfl⟩⟩
    · walk_at "ev"
    · generalize (0 + (k : Int)) = K at *
      by_cases h1 : lo ≤ K
      · walk_at "ev"
      · walk_at "ev"
    · generalize l.getD k Str.empty = z at *
      walk_at "ev"
  · have := filt_window l lo.toNat (min hi.toNat l.length) (Nat.min_le_right _ _) (fun k => l.getD k Str.empty) (fun i h => by rw [List.getD_eq_getElem?_getD, List.getElem?_eq_getElem h]; rfl)
    rw [← this]
    congr 1
    refine List.filter_congr fun k hk => ?_
    have hk := List.mem_range.mp hk
    rw [Bool.eq_iff_iff, Bool.and_eq_true, Bool.and_eq_true, decide_eq_true_eq, decide_eq_true_eq, decide_eq_true_eq, decide_eq_true_eq]
    omega
end Sp

/-! ## what repr tells -/
namespace Sp
open PySem L2 TL Sm
def Rp (n B : Nat) (d : D) : Prop := ∃ p, pyOf d = some p ∧ p.showable = true ∧ p.hasDict = false ∧ p.depth ≤ n ∧ p.shown.length ≤ B
end Sp

/-! ## {text for target in iter}: the texts of a comprehension in a set -/
namespace SetX
open PySem PySem.Spec PyProof.Rows L2
section
variable {X : Cx} {pins : List (Addr × Obj)} {σ : L2.St} {H : Hp} {s : Shared} {E : Value → Shared → Prop}
theorem put_ok {D : Addr} {L : List Str} {z : Str} {u : Tok} {Q : Value → Shared → Prop} (I : Inv X pins σ H s) (at_ : H D = some (TextsO X.prog X.w D L)) (room : L.length + 1 < scanBound)
    (fin : ∀ s', Inv X pins σ (upd H D (TextsO X.prog X.w D (put1 L z))) s' → Q .none s') : wpAny (model X.prog X.w) X.A (call (.builtin "set.add") [.ref D, .str z u]) Q E s := by
  have R : Texts X.prog X.w s.heap D L := (I.hok D _ at_).1
  have ty : s.TypeIs (.ref D) "set" := by
    obtain ⟨o, _, _, _, look, ex, _⟩ := R.ex
    exact ⟨o, look, ex.1⟩
  refine wpAny_call_entry PySem.F.slot_set_add ty PySem.F.entry_set_add ?_ (PySem.F.args_set_add_2 _ _)
  unfold Builtin.«set.add» Builtin.Frozenset.oneOther
  simp only [List.isEmpty_nil, bind_assoc]
  unfold Builtin.Frozenset.addrOf setAdd
  refine wpAny_bind (wpAny_pure ?_)
  try dsimp only
  refine wpAny_bind (wpAny_pure ?_)
  try dsimp only
  refine wpAny_bind (wpAny_holding (wpAny_bind ((PySem.strKind X.prog X.w).pyHash (k := z) (strKind_is X.prog X.w z u) ?_)))
  refine add_ok (s := { s with toks := s.toks + 1 }) R room fun b h' same R2 => ?_
  have there : ∃ o, h'.get? D = some o := by obtain ⟨o, _, _, _, look, _⟩ := R2.ex; exact ⟨o, look⟩
  show wpAny _ _ (ret Value.none) _ _ _
  exact wpAny_pure ⟨_, rfl, fin _ (I.write (e := D) (t' := s.toks + 1) (by rw [at_]; trivial) (.inl rfl) (fun b o nb e => (same.2 b nb).trans e) there (textsO_new R2))⟩
end
section
variable {X : Cx}
variable {elt tg iter : Expr} {ifs : List Expr} {scope : Scope} {own : List (PySem.Str × Nat)} {pos pos' : Pos} {wi : TI} {g : TG} {tt : TT} {te : TE}
end
end SetX

namespace Sm
open PySem L2
/-! ## sorted({e for t in i}) -/
def eSst (fi : G → Option (List D × G)) (gf : D → G → Option G) (fe : G → Option (R × G)) (vs : List Nat) : G → Option (R × G) := fun g =>
  (fi g).bind fun p => if notOl p.2 vs = true ∧ p.1.length ≤ 4000 then (lcL gf tYesG fe vs p.1 (wipeG p.2 vs)).bind fun q => (strsD q.1).bind fun ys => some (.nw ((SetX.srt (SetX.dd ys ys.length)).map .str), restG q.2 p.2 vs) else none
section
variable {X : Cx} {c : C0} {ws : List Nat} {fi : G → Option (List D × G)} {gf : D → G → Option G} {fe : G → Option (R × G)}
end
section
variable {gf : D → G → Option G} {fe : G → Option (R × G)} {fi : G → Option (List D × G)} {vs : List Nat} {g g' : G} {l : List D}
def sstK (gf : D → G → Option G) (fe : G → Option (R × G)) (vs : List Nat) : Option (List D × G) → Option (R × G)
  | some (l, g) => if notOl g vs = true ∧ l.length ≤ 4000 then (lcL gf tYesG fe vs l (wipeG g vs)).bind fun q => (strsD q.1).bind fun ys => some (.nw ((SetX.srt (SetX.dd ys ys.length)).map .str), restG q.2 g vs) else none
  | none => none
theorem v_sst : eSst fi gf fe vs g = sstK gf fe vs (fi g) := by unfold eSst sstK; cases fi g <;> rfl
end
end Sm

namespace Lw
open PySem L2 Sm
end Lw
/-! ## runs of equal lines: what the program computes -/
namespace Sp
open PySem L2 TL Sm Lw
local macro_rules | `(tactic| walk_at "ev") => `(tactic| simp (config := { implicitDefEqProofs := false }) only [*, _root_.eq_self, v_c, at0, at1, at2, ixn0, ixn1, ixn2, ixn03, ixn13, ixn23, List.drop_succ_cons, List.drop_zero,  v_var, varK_fz, varK_ol, v_bin, binK_some, binK2_some, binK3_some, valK_some, v_ldd, v_ldn, v_lds, ldK_ol, ldK_fz, v_frzd, v_frzn, v_frzs, frzK_ol, frzK_fz, v_frzs0, v_frzs1, frzsK_some, frzsK2_some, v_lds0, v_lds1, ldsK_some, ldsK2_some, v_ldCd, v_ldCn, v_ldCs, ldCK_ol, ldCK_fz, v_ldsC0, v_ldsC1, ldsCK_some, ldsCK2_some, v_anil, v_acons, aConsK_some, aConsK2_some, v_tup, tupK_some, tupK2_some, v_lst, lstK_some, lstK2_some,
  v_neg, negK_some, v_if, ifK_t, ifK_f, v_tst, tstK_some, v_band, v_bor, v_bnot, andK_t, andK_f, orK_t, orK_f, notK_some, v_and, v_or, v_not, andVK_t, andVK_f, orVK_t, orVK_f, notVK_some, v_chain, chK1_some, chK2_some, chK3_some, chK4_t, chK4_f, v_onone, v_osome, partK_some, v_sl, slK1_some, slK2_some, slK3_some, slK4_some, v_slL, v_slS, v_slT, v_slStr, v_rev, revK_some, revK2_l, v_cb, cbK_some, cbK2_some, v_m1, m1K_some, m1K2_some, m1K3_some,
  v_app, appK_ol, appK2_some, appK3_some, appK4_ol, v_pop, popK_ol, v_popAt, popAtK_ol, popAtK2_some, v_c0, c0K_some, c0K2_some, c0K3_some, c0K4_some, melt0, melt1, meltK_some, meltK2_ol, meltK2_fz, v_c1, c1K_some, c1K2_ol, c1K3_some, c1K4_some, c1K5_some, v_seq, seqK_nx, seqK_rt, seqK_ct, v_next, v_cont, v_expr, exprK_some, v_ret, retK_some, v_retN, v_asg, asgK_some, nxK_some, v_stN, v_stD, v_stS, stK_some, v_notT, notTK_fz, notTK_un, notTK_ol, v_sif, sifK_t, sifK_f,
  v_asgT, asgTK_some, asgTK2_some, v_gN, v_gT, v_gStar, v_pNil, v_pCons, pcK_some, pcK2_some, v_disp, dpK_some, dpK2_some, v_gNil, v_gCons, gConsK_some, v_par, parK_some, parK2_some, v_aug, augK_fz, augK2_some, augK3_some, augK4_some, v_six, sixK_some, sixK2_some, sixK3_ol, sixK4_some, sixK5_ol, sixK6_some, v_for, forK_some, v_lc, v_yes, v_iL, v_iA, iLK_some, iAK_t, iAK_s, iAK_l, iAK_sls, iAK_sl, iAK_n, iLK2_l, iLK2_s, v_iR1, v_iR2, r2K_some, v_iEn, enK_some, outK_rt, outK_nx, outK2_some, v_rd, v_rn, v_rs, retRK_ol, retRK_fz,
  add_i, add_s, add_l, sub_i, mul_i, mod_i, div_i, pow_i, lt_i, le_i, gt_i, ge_i, eq_i, ne_i, eq_s, ne_s, is_n, isN_n, ix_l, ix_t, ix_s, len_l, len_s, len_t, len_str, abs_i, max_i, min_i, int_i, int_b, list_l, list_s, str_i, str_s, lent, noRs, noL, noLs, lcK2_some, lcL_nil, lcL_cons, lcT1_some, lcT2_t, lcT2_f, lcT3_some, lcT4_some, lcT5_some, forL_nil, forL_cons, turnK_some, turnK2_nx, turnK2_ct, turnK2_rt, wipeG, restG,
  uns, List.replicate_succ, List.replicate_zero, List.getElem?_cons_zero, List.getElem?_cons_succ, List.getElem?_nil, List.set_cons_zero, List.set_cons_succ, List.set_nil, List.length_cons, List.length_nil, List.map_cons, List.map_nil, List.cons_append, List.nil_append, List.append_nil, List.take_succ_cons, List.take_zero, List.take_nil, Option.map_some, Option.map_none, Option.getD_some, Option.getD_none, List.not_mem_nil, not_false_eq_true, List.mem_cons, or_false, false_or,
  Nat.reduceAdd, Nat.reduceSub, Nat.reduceLT, Nat.reduceLeDiff, Int.reduceLT, Int.reduceLE, Int.reduceAdd, Int.reduceSub, Int.reduceMul, Int.reducePow, Int.reduceToNat, Int.reduceNeg, Int.reduceEq, Nat.reduceMul, Nat.reducePow, Nat.zero_add, Nat.add_zero, Nat.reduceEqDiff, nc0, nc1, nc2, nc3, decide_true, decide_false, Bool.and_true, Bool.and_false, Bool.true_and, Bool.false_and, Bool.or_true, Bool.or_false, Bool.not_true, Bool.not_false, if_true, if_false, reduceIte, Bool.false_eq_true, and_true, true_and, and_false, false_and, and_self, reduceCtorEq, Bool.and_self, decide_eq_true_eq])

end Sp

namespace Sp
open PySem L2 TL Sm Lw
local macro_rules | `(tactic| walk_at "ev") => `(tactic| simp (config := { implicitDefEqProofs := false }) only [*, _root_.eq_self, v_c, at0, at1, at2, ixn0, ixn1, ixn2, ixn03, ixn13, ixn23, List.drop_succ_cons, List.drop_zero,  v_var, varK_fz, varK_ol, v_bin, binK_some, binK2_some, binK3_some, valK_some, v_ldd, v_ldn, v_lds, ldK_ol, ldK_fz, v_frzd, v_frzn, v_frzs, frzK_ol, frzK_fz, v_frzs0, v_frzs1, frzsK_some, frzsK2_some, v_lds0, v_lds1, ldsK_some, ldsK2_some, v_ldCd, v_ldCn, v_ldCs, ldCK_ol, ldCK_fz, v_ldsC0, v_ldsC1, ldsCK_some, ldsCK2_some, v_anil, v_acons, aConsK_some, aConsK2_some, v_tup, tupK_some, tupK2_some, v_lst, lstK_some, lstK2_some,
  v_neg, negK_some, v_if, ifK_t, ifK_f, v_tst, tstK_some, v_band, v_bor, v_bnot, andK_t, andK_f, orK_t, orK_f, notK_some, v_and, v_or, v_not, andVK_t, andVK_f, orVK_t, orVK_f, notVK_some, v_chain, chK1_some, chK2_some, chK3_some, chK4_t, chK4_f, v_onone, v_osome, partK_some, v_sl, slK1_some, slK2_some, slK3_some, slK4_some, v_slL, v_slS, v_slT, v_slStr, v_rev, revK_some, revK2_l, v_cb, cbK_some, cbK2_some, v_m1, m1K_some, m1K2_some, m1K3_some,
  v_app, appK_ol, appK2_some, appK3_some, appK4_ol, v_pop, popK_ol, v_popAt, popAtK_ol, popAtK2_some, v_c0, c0K_some, c0K2_some, c0K3_some, c0K4_some, melt0, melt1, meltK_some, meltK2_ol, meltK2_fz, v_c1, c1K_some, c1K2_ol, c1K3_some, c1K4_some, c1K5_some, v_seq, seqK_nx, seqK_rt, seqK_ct, v_next, v_cont, v_expr, exprK_some, v_ret, retK_some, v_retN, v_asg, asgK_some, nxK_some, v_stN, v_stD, v_stS, stK_some, v_notT, notTK_fz, notTK_un, notTK_ol, v_sif, sifK_t, sifK_f,
  v_asgT, asgTK_some, asgTK2_some, v_gN, v_gT, v_gStar, v_pNil, v_pCons, pcK_some, pcK2_some, v_disp, dpK_some, dpK2_some, v_gNil, v_gCons, gConsK_some, v_par, parK_some, parK2_some, v_aug, augK_fz, augK2_some, augK3_some, augK4_some, v_six, sixK_some, sixK2_some, sixK3_ol, sixK4_some, sixK5_ol, sixK6_some, v_for, forK_some, v_lc, v_yes, v_iL, v_iA, iLK_some, iAK_t, iAK_s, iAK_l, iAK_sls, iAK_sl, iAK_n, iLK2_l, iLK2_s, v_iR1, v_iR2, r2K_some, v_iEn, enK_some, outK_rt, outK_nx, outK2_some, v_rd, v_rn, v_rs, retRK_ol, retRK_fz,
  add_i, add_s, add_l, sub_i, mul_i, mod_i, div_i, pow_i, lt_i, le_i, gt_i, ge_i, eq_i, ne_i, eq_s, ne_s, is_n, isN_n, ix_l, ix_t, ix_s, len_l, len_s, len_t, len_str, abs_i, max_i, min_i, int_i, int_b, list_l, list_s, str_i, str_s, lent, noRs, noL, noLs, lcK2_some, lcL_nil, lcL_cons, lcT1_some, lcT2_t, lcT2_f, lcT3_some, lcT4_some, lcT5_some, forL_nil, forL_cons, turnK_some, turnK2_nx, turnK2_ct, turnK2_rt, wipeG, restG,
  uns, List.replicate_succ, List.replicate_zero, List.getElem?_cons_zero, List.getElem?_cons_succ, List.getElem?_nil, List.set_cons_zero, List.set_cons_succ, List.set_nil, List.length_cons, List.length_nil, List.map_cons, List.map_nil, List.cons_append, List.nil_append, List.append_nil, List.take_succ_cons, List.take_zero, List.take_nil, Option.map_some, Option.map_none, Option.getD_some, Option.getD_none, List.not_mem_nil, not_false_eq_true, List.mem_cons, or_false, false_or,
  Nat.reduceAdd, Nat.reduceSub, Nat.reduceLT, Nat.reduceLeDiff, Int.reduceLT, Int.reduceLE, Int.reduceAdd, Int.reduceSub, Int.reduceMul, Int.reducePow, Int.reduceToNat, Int.reduceNeg, Int.reduceEq, Nat.reduceMul, Nat.reducePow, Nat.zero_add, Nat.add_zero, Nat.reduceEqDiff, nc0, nc1, nc2, nc3, decide_true, decide_false, Bool.and_true, Bool.and_false, Bool.true_and, Bool.false_and, Bool.or_true, Bool.or_false, Bool.not_true, Bool.not_false, if_true, if_false, reduceIte, Bool.false_eq_true, and_true, true_and, and_false, false_and, and_self, reduceCtorEq, Bool.and_self, decide_eq_true_eq])


end Sp

namespace Sp
open PySem L2 TL Sm Lw
local macro_rules | `(tactic| walk_at "ev") => `(tactic| simp (config := { implicitDefEqProofs := false }) only [*, _root_.eq_self, v_c, at0, at1, at2, ixn0, ixn1, ixn2, ixn03, ixn13, ixn23, List.drop_succ_cons, List.drop_zero,  v_var, varK_fz, varK_ol, v_bin, binK_some, binK2_some, binK3_some, valK_some, v_ldd, v_ldn, v_lds, ldK_ol, ldK_fz, v_frzd, v_frzn, v_frzs, frzK_ol, frzK_fz, v_frzs0, v_frzs1, frzsK_some, frzsK2_some, v_lds0, v_lds1, ldsK_some, ldsK2_some, v_ldCd, v_ldCn, v_ldCs, ldCK_ol, ldCK_fz, v_ldsC0, v_ldsC1, ldsCK_some, ldsCK2_some, v_anil, v_acons, aConsK_some, aConsK2_some, v_tup, tupK_some, tupK2_some, v_lst, lstK_some, lstK2_some,
  v_neg, negK_some, v_if, ifK_t, ifK_f, v_tst, tstK_some, v_band, v_bor, v_bnot, andK_t, andK_f, orK_t, orK_f, notK_some, v_and, v_or, v_not, andVK_t, andVK_f, orVK_t, orVK_f, notVK_some, v_chain, chK1_some, chK2_some, chK3_some, chK4_t, chK4_f, v_onone, v_osome, partK_some, v_sl, slK1_some, slK2_some, slK3_some, slK4_some, v_slL, v_slS, v_slT, v_slStr, v_rev, revK_some, revK2_l, v_cb, cbK_some, cbK2_some, v_m1, m1K_some, m1K2_some, m1K3_some,
  v_app, appK_ol, appK2_some, appK3_some, appK4_ol, v_pop, popK_ol, v_popAt, popAtK_ol, popAtK2_some, v_c0, c0K_some, c0K2_some, c0K3_some, c0K4_some, melt0, melt1, meltK_some, meltK2_ol, meltK2_fz, v_c1, c1K_some, c1K2_ol, c1K3_some, c1K4_some, c1K5_some, v_seq, seqK_nx, seqK_rt, seqK_ct, v_next, v_cont, v_expr, exprK_some, v_ret, retK_some, v_retN, v_asg, asgK_some, nxK_some, v_stN, v_stD, v_stS, stK_some, v_notT, notTK_fz, notTK_un, notTK_ol, v_sif, sifK_t, sifK_f,
  v_asgT, asgTK_some, asgTK2_some, v_gN, v_gT, v_gStar, v_pNil, v_pCons, pcK_some, pcK2_some, v_disp, dpK_some, dpK2_some, v_gNil, v_gCons, gConsK_some, v_par, parK_some, parK2_some, v_aug, augK_fz, augK2_some, augK3_some, augK4_some, v_six, sixK_some, sixK2_some, sixK3_ol, sixK4_some, sixK5_ol, sixK6_some, v_for, forK_some, v_lc, v_yes, v_iL, v_iA, iLK_some, iAK_t, iAK_s, iAK_l, iAK_sls, iAK_sl, iAK_n, iLK2_l, iLK2_s, v_iR1, v_iR2, r2K_some, v_iEn, enK_some, outK_rt, outK_nx, outK2_some, v_rd, v_rn, v_rs, retRK_ol, retRK_fz,
  add_i, add_s, add_l, sub_i, mul_i, mod_i, div_i, pow_i, lt_i, le_i, gt_i, ge_i, eq_i, ne_i, eq_s, ne_s, is_n, isN_n, ix_l, ix_t, ix_s, len_l, len_s, len_t, len_str, abs_i, max_i, min_i, int_i, int_b, list_l, list_s, str_i, str_s, lent, noRs, noL, noLs, lcK2_some, v_sst, lcL_nil, lcL_cons, lcT1_some, lcT2_t, lcT2_f, lcT3_some, lcT4_some, lcT5_some, forL_nil, forL_cons, turnK_some, turnK2_nx, turnK2_ct, turnK2_rt, wipeG, restG,
  uns, List.replicate_succ, List.replicate_zero, List.getElem?_cons_zero, List.getElem?_cons_succ, List.getElem?_nil, List.set_cons_zero, List.set_cons_succ, List.set_nil, List.length_cons, List.length_nil, List.map_cons, List.map_nil, List.cons_append, List.nil_append, List.append_nil, List.take_succ_cons, List.take_zero, List.take_nil, Option.map_some, Option.map_none, Option.getD_some, Option.getD_none, List.not_mem_nil, not_false_eq_true, List.mem_cons, or_false, false_or,
  Nat.reduceAdd, Nat.reduceSub, Nat.reduceLT, Nat.reduceLeDiff, Int.reduceLT, Int.reduceLE, Int.reduceAdd, Int.reduceSub, Int.reduceMul, Int.reducePow, Int.reduceToNat, Int.reduceNeg, Int.reduceEq, Nat.reduceMul, Nat.reducePow, Nat.zero_add, Nat.add_zero, Nat.reduceEqDiff, nc0, nc1, nc2, nc3, decide_true, decide_false, Bool.and_true, Bool.and_false, Bool.true_and, Bool.false_and, Bool.or_true, Bool.or_false, Bool.not_true, Bool.not_false, if_true, if_false, reduceIte, Bool.false_eq_true, and_true, true_and, and_false, false_and, and_self, reduceCtorEq, Bool.and_self, decide_eq_true_eq])


end Sp

namespace Sp
open PySem L2 TL Sm Lw
local macro_rules | `(tactic| walk_at "ev") => `(tactic| simp (config := { implicitDefEqProofs := false }) only [*, _root_.eq_self, v_c, at0, at1, at2, ixn0, ixn1, ixn2, ixn03, ixn13, ixn23, List.drop_succ_cons, List.drop_zero,  v_var, varK_fz, varK_ol, v_bin, binK_some, binK2_some, binK3_some, valK_some, v_ldd, v_ldn, v_lds, ldK_ol, ldK_fz, v_frzd, v_frzn, v_frzs, frzK_ol, frzK_fz, v_frzs0, v_frzs1, frzsK_some, frzsK2_some, v_lds0, v_lds1, ldsK_some, ldsK2_some, v_ldCd, v_ldCn, v_ldCs, ldCK_ol, ldCK_fz, v_ldsC0, v_ldsC1, ldsCK_some, ldsCK2_some, v_anil, v_acons, aConsK_some, aConsK2_some, v_tup, tupK_some, tupK2_some, v_lst, lstK_some, lstK2_some,
  v_neg, negK_some, v_if, ifK_t, ifK_f, v_tst, tstK_some, v_band, v_bor, v_bnot, andK_t, andK_f, orK_t, orK_f, notK_some, v_and, v_or, v_not, andVK_t, andVK_f, orVK_t, orVK_f, notVK_some, v_chain, chK1_some, chK2_some, chK3_some, chK4_t, chK4_f, v_onone, v_osome, partK_some, v_sl, slK1_some, slK2_some, slK3_some, slK4_some, v_slL, v_slS, v_slT, v_slStr, v_rev, revK_some, revK2_l, v_cb, cbK_some, cbK2_some, v_m1, m1K_some, m1K2_some, m1K3_some,
  v_app, appK_ol, appK2_some, appK3_some, appK4_ol, v_pop, popK_ol, v_popAt, popAtK_ol, popAtK2_some, v_c0, c0K_some, c0K2_some, c0K3_some, c0K4_some, melt0, melt1, meltK_some, meltK2_ol, meltK2_fz, v_c1, c1K_some, c1K2_ol, c1K3_some, c1K4_some, c1K5_some, v_seq, seqK_nx, seqK_rt, seqK_ct, v_next, v_cont, v_expr, exprK_some, v_ret, retK_some, v_retN, v_asg, asgK_some, nxK_some, v_stN, v_stD, v_stS, stK_some, v_notT, notTK_fz, notTK_un, notTK_ol, v_sif, sifK_t, sifK_f,
  v_asgT, asgTK_some, asgTK2_some, v_gN, v_gT, v_gStar, v_pNil, v_pCons, pcK_some, pcK2_some, v_disp, dpK_some, dpK2_some, v_gNil, v_gCons, gConsK_some, v_par, parK_some, parK2_some, v_aug, augK_fz, augK2_some, augK3_some, augK4_some, v_six, sixK_some, sixK2_some, sixK3_ol, sixK4_some, sixK5_ol, sixK6_some, v_for, forK_some, v_lc, v_yes, v_iL, v_iA, iLK_some, iAK_t, iAK_s, iAK_l, iAK_sls, iAK_sl, iAK_n, iLK2_l, iLK2_s, v_iR1, v_iR2, r2K_some, v_iEn, enK_some, outK_rt, outK_nx, outK2_some, v_rd, v_rn, v_rs, retRK_ol, retRK_fz,
  add_i, add_s, add_l, sub_i, mul_i, mod_i, div_i, pow_i, lt_i, le_i, gt_i, ge_i, eq_i, ne_i, eq_s, ne_s, is_n, isN_n, ix_l, ix_t, ix_s, len_l, len_s, len_t, len_str, abs_i, max_i, min_i, int_i, int_b, list_l, list_s, str_i, str_s, lent, noRs, noL, noLs, lcK2_some, v_sst, lcL_nil, lcL_cons, lcT1_some, lcT2_t, lcT2_f, lcT3_some, lcT4_some, lcT5_some, forL_nil, forL_cons, turnK_some, turnK2_nx, turnK2_ct, turnK2_rt, wipeG, restG,
  uns, List.replicate_succ, List.replicate_zero, List.getElem?_cons_zero, List.getElem?_cons_succ, List.getElem?_nil, List.set_cons_zero, List.set_cons_succ, List.set_nil, List.length_cons, List.length_nil, List.map_cons, List.map_nil, List.cons_append, List.nil_append, List.append_nil, List.take_succ_cons, List.take_zero, List.take_nil, Option.map_some, Option.map_none, Option.getD_some, Option.getD_none, List.not_mem_nil, not_false_eq_true, List.mem_cons, or_false, false_or,
  Nat.reduceAdd, Nat.reduceSub, Nat.reduceLT, Nat.reduceLeDiff, Int.reduceLT, Int.reduceLE, Int.reduceAdd, Int.reduceSub, Int.reduceMul, Int.reducePow, Int.reduceToNat, Int.reduceNeg, Int.reduceEq, Nat.reduceMul, Nat.reducePow, Nat.zero_add, Nat.add_zero, Nat.reduceEqDiff, nc0, nc1, nc2, nc3, decide_true, decide_false, Bool.and_true, Bool.and_false, Bool.true_and, Bool.false_and, Bool.or_true, Bool.or_false, Bool.not_true, Bool.not_false, if_true, if_false, reduceIte, Bool.false_eq_true, and_true, true_and, and_false, false_and, and_self, reduceCtorEq, Bool.and_self, decide_eq_true_eq])

end Sp

/-! ## runs and the lines they stand for: the plain laws -/
namespace Sp
open PySem L2 TL Sm
/-! ### runs joined -/
/-! ### one command -/
/-! ### the forms stay -/
theorem fold_put_nd : ∀ (l L : List Str), L.Nodup → (l.foldl SetX.put1 L).Nodup ∧ ∀ y, y ∈ l.foldl SetX.put1 L ↔ y ∈ L ∨ y ∈ l
  | [], L, h => ⟨h, fun y => by simp⟩
  | z :: l, L, h => by
    obtain ⟨h1, h2⟩ := fold_put_nd l (SetX.put1 L z) (SetX.put1_nd h)
    refine ⟨h1, fun y => ?_⟩
    rw [List.foldl_cons, h2 y, List.mem_cons]
    have : y ∈ SetX.put1 L z ↔ y ∈ L ∨ y = z := by
      unfold SetX.put1
      split
      · rename_i hz
        exact ⟨.inl, fun q => q.elim id fun e => by rw [e]; exact hz⟩
      · rw [List.mem_append, List.mem_singleton]
    rw [this, or_assoc]
theorem sortL_nd (l : List Str) : (sortL l).Nodup ∧ ∀ y, y ∈ sortL l ↔ y ∈ l := by
  have h := fold_put_nd l [] List.nodup_nil
  have p := SetX.srt_perm (SetX.dd l l.length)
  rw [dd_all] at p
  unfold sortL
  rw [dd_all]
  exact ⟨p.nodup_iff.mpr h.1, fun y => by rw [p.mem_iff, h.2 y]; simp⟩
theorem sortL_congr {l m : List Str} (h : ∀ y, y ∈ l ↔ y ∈ m) : sortL l = sortL m := by
  obtain ⟨n1, m1⟩ := sortL_nd l
  obtain ⟨n2, m2⟩ := sortL_nd m
  have p : (sortL l).Perm (sortL m) := (List.perm_ext_iff_of_nodup n1 n2).mpr fun y => by rw [m1, m2, h]
  have := SetX.srt_unique (l := SetX.dd m m.length) (m := sortL l) (p.trans (SetX.srt_perm _)) (SetX.srt_pw _)
  exact this
end Sp

/-! ## two names at once, the first for a fresh list that stays its own -/
namespace Sm
open PySem L2
def sParO (i j : Nat) (fa fb : G → Option (R × G)) : G → Option O := fun g => (fa g).bind fun p => match p.1 with
  | .nw l => (fb p.2).bind fun q => (frz q.2 q.1).bind fun s => if notT s.2 i = true ∧ notT s.2 j = true then some (.nx ((s.2.set i (.ol false l)).set j (.fz s.1))) else none
  | _ => none
section
variable {X : Cx} {c : C0} {a b : Expr} {pos : Pos} {fa fb : G → Option (R × G)}
end
section
variable {i j : Nat} {fa fb : G → Option (R × G)} {g : G} {l : List D} {r : R} {d : D}
def parOK (i j : Nat) (fb : G → Option (R × G)) : Option (R × G) → Option O
  | some (.nw l, g) => (fb g).bind fun q => (frz q.2 q.1).bind fun s => if notT s.2 i = true ∧ notT s.2 j = true then some (.nx ((s.2.set i (.ol false l)).set j (.fz s.1))) else none
  | _ => none
def parOK2 (i j : Nat) (l : List D) : Option (R × G) → Option O
  | some (r, g) => (frz g r).bind fun s => if notT s.2 i = true ∧ notT s.2 j = true then some (.nx ((s.2.set i (.ol false l)).set j (.fz s.1))) else none
  | _ => none
def parOK3 (i j : Nat) (l : List D) : Option (D × G) → Option O
  | some (d, g) => if notT g i = true ∧ notT g j = true then some (.nx ((g.set i (.ol false l)).set j (.fz d))) else none
  | _ => none
theorem v_parO : sParO i j fa fb g = parOK i j fb (fa g) := by
  unfold sParO parOK
  cases fa g with
  | none => rfl
  | some p =>
    obtain ⟨r, g⟩ := p
    cases r <;> rfl
theorem parOK_some : parOK i j fb (some (.nw l, g)) = parOK2 i j l (fb g) := by
  unfold parOK parOK2
  dsimp only
  cases fb g <;> rfl
theorem parOK2_some : parOK2 i j l (some (r, g)) = parOK3 i j l (frz g r) := by
  unfold parOK2 parOK3
  dsimp only
  cases frz g r <;> rfl
theorem parOK3_some : parOK3 i j l (some (d, g)) = if notT g i = true ∧ notT g j = true then some (.nx ((g.set i (.ol false l)).set j (.fz d))) else none := rfl
end
end Sm

/-! ## two fresh lists in a list, looked at, then changed -/
namespace Sm
open PySem L2
inductive One : Slot → Slot → Prop
  | un : One .un .un
  | pin (v : V) : One (.pin v) (.pin v)
  | fz (d : D) : One (.fz d) (.fz d)
  | ol (b : Bool) {l : List D} (h : noLs l = true) : One (.ol b l) (.ol b l)
  | ob (b : Bool) (k : OK) {cs : List F} (h : noFs cs = true) : One (.ob b k cs) (.ob b k cs)
  | mt {l : List D} (h : noLs l = true) : One (.ol false l) (.fz (.lst l))
inductive Ones : List Slot → List Slot → Prop
  | nil : Ones [] []
  | cons {s t : Slot} {g h : List Slot} : One s t → Ones g h → Ones (s :: g) (t :: h)
theorem Ones.len : ∀ {g h : List Slot}, Ones g h → g.length = h.length
  | _, _, .nil => rfl
  | _, _, .cons _ t => congrArg Nat.succ (Ones.len t)
theorem Ones.get : ∀ {g h : List Slot} {j : Nat} {t : Slot}, Ones g h → h[j]? = some t → ∃ s, g[j]? = some s ∧ One s t
  | _, _, 0, _, .cons o _, e => ⟨_, rfl, by cases e; exact o⟩
  | _, _, j + 1, _, .cons _ os, e => Ones.get (j := j) os e
section
variable {K : PySem.W.Frag} {mg : Str → Option Value} {c : C0} {m m1 m2 m3 m4 : List Addr} {g g1 g2 g3 : G} {σ σ2 : St} {H H1 H2 H3 H4 : Hp} {v : V} {r : R} {d : D}
theorem own_un {i : Nat} {a : Addr} (h : Own (g.set i .un) σ a) : Own g σ a := by
  obtain ⟨j, s, h1, h2⟩ := h
  rcases get_set h1 with ⟨_, e⟩ | ⟨_, e⟩
  · cases e; exact h2.elim
  · exact ⟨j, s, e, h2⟩
end
open Classical in
noncomputable def sTold (i : Nat) (f1 f2 : G → Option (R × G)) (ft : G → Option (Bool × G)) (fa : G → Option (R × G)) : G → Option O := fun g => (f1 g).bind fun p => match p.1 with
  | .nw l1 => (f2 p.2).bind fun q => match q.1 with
    | .nw l2 => if notT q.2 i = true then (ft (q.2.set i (.fz (.lst [.lst l1, .lst l2])))).bind fun b => if b.1 = true then some (.rt (.d (.bl false)) b.2) else
        if Ones (q.2.set i .un) (b.2.set i .un) ∧ (∃ d, b.2[i]? = some (.fz d)) ∧ l1.length ≤ 100000 then (fa (b.2.set i .un)).bind fun a => match a.1 with
          | .d _ => some (.nx a.2)
          | _ => none else none else none
    | _ => none
  | _ => none
section
variable {X : Cx} {c : C0} {x1 x2 cnd arg : Expr} {f1 f2 fa : G → Option (R × G)} {ft : G → Option (Bool × G)}
end
end Sm

/-! ## sTold, step by step -/
namespace Sm
open PySem L2
variable {i : Nat} {f1 f2 fa : G → Option (R × G)} {ft : G → Option (Bool × G)} {g g' : G} {l1 l2 : List D} {d : D}
open Classical in
noncomputable def tdK1 (i : Nat) (f2 : G → Option (R × G)) (ft : G → Option (Bool × G)) (fa : G → Option (R × G)) : Option (R × G) → Option O
  | some (.nw l1, g) => (f2 g).bind fun q => match q.1 with
    | .nw l2 => if notT q.2 i = true then (ft (q.2.set i (.fz (.lst [.lst l1, .lst l2])))).bind fun b => if b.1 = true then some (.rt (.d (.bl false)) b.2) else
        if Ones (q.2.set i .un) (b.2.set i .un) ∧ (∃ d, b.2[i]? = some (.fz d)) ∧ l1.length ≤ 100000 then (fa (b.2.set i .un)).bind fun a => match a.1 with
          | .d _ => some (.nx a.2)
          | _ => none else none else none
    | _ => none
  | _ => none
open Classical in
noncomputable def tdK2 (i : Nat) (l1 : List D) (ft : G → Option (Bool × G)) (fa : G → Option (R × G)) : Option (R × G) → Option O
  | some (.nw l2, g) => if notT g i = true then (ft (g.set i (.fz (.lst [.lst l1, .lst l2])))).bind fun b => if b.1 = true then some (.rt (.d (.bl false)) b.2) else
        if Ones (g.set i .un) (b.2.set i .un) ∧ (∃ d, b.2[i]? = some (.fz d)) ∧ l1.length ≤ 100000 then (fa (b.2.set i .un)).bind fun a => match a.1 with
          | .d _ => some (.nx a.2)
          | _ => none else none else none
  | _ => none
open Classical in
noncomputable def tdK3 (i : Nat) (l1 : List D) (g : G) (fa : G → Option (R × G)) : Option (Bool × G) → Option O
  | some (b, g') => if b = true then some (.rt (.d (.bl false)) g') else
        if Ones (g.set i .un) (g'.set i .un) ∧ (∃ d, g'[i]? = some (.fz d)) ∧ l1.length ≤ 100000 then (fa (g'.set i .un)).bind fun a => match a.1 with
          | .d _ => some (.nx a.2)
          | _ => none else none
  | _ => none
def tdK4 : Option (R × G) → Option O
  | some (.d _, g) => some (.nx g)
  | _ => none
theorem v_told : sTold i f1 f2 ft fa g = tdK1 i f2 ft fa (f1 g) := by
  unfold sTold tdK1
  cases f1 g with
  | none => rfl
  | some p => obtain ⟨r, g⟩ := p; cases r <;> rfl
theorem tdK1_some : tdK1 i f2 ft fa (some (.nw l1, g)) = tdK2 i l1 ft fa (f2 g) := by
  unfold tdK1 tdK2
  dsimp only
  cases f2 g with
  | none => rfl
  | some p => obtain ⟨r, g⟩ := p; cases r <;> rfl
theorem tdK2_some (h : notT g i = true) : tdK2 i l1 ft fa (some (.nw l2, g)) = tdK3 i l1 g fa (ft (g.set i (.fz (.lst [.lst l1, .lst l2])))) := by
  unfold tdK2 tdK3
  dsimp only
  rw [if_pos h]
  cases ft (g.set i (.fz (.lst [.lst l1, .lst l2]))) with
  | none => rfl
  | some p => rfl
def isFz : Option Slot → Bool | some (.fz _) => true | _ => false
theorem isFz_fz : isFz (some (.fz d)) = true := rfl
theorem isFz_at {s : Option Slot} (h : isFz s = true) : ∃ d, s = some (.fz d) := by
  unfold isFz at h
  split at h
  · exact ⟨_, rfl⟩
  · cases h
theorem tdK3_some (h1 : Ones (g.set i .un) (g'.set i .un)) (h2 : isFz g'[i]? = true) (h3 : l1.length ≤ 100000) : tdK3 i l1 g fa (some (false, g')) = tdK4 (fa (g'.set i .un)) := by
  unfold tdK3 tdK4
  dsimp only
  rw [if_neg Bool.false_ne_true, if_pos ⟨h1, isFz_at h2, h3⟩]
  cases fa (g'.set i .un) with
  | none => rfl
  | some p => obtain ⟨r, g⟩ := p; cases r <;> rfl
theorem tdK4_some : tdK4 (some (.d d, g)) = some (.nx g) := rfl
end Sm

/-! ## two fresh lists in a list, looked at, then changed one after the other -/
namespace Sm
open PySem L2
section
variable {K : PySem.W.Frag} {mg : Str → Option Value} {c : C0} {m : List Addr} {g : G} {σ : St} {H : Hp} {v : V}
theorem Abs.forget {k : Nat} (A : Abs K mg c m g σ H) (hn : notT g k = true) : Abs K mg c m (g.set k .un) σ H ∧ Stp m g σ H m (g.set k .un) σ H := by
  obtain ⟨hi, hn, hn'⟩ := notT_lt hn
  refine ⟨⟨by rw [List.length_set]; exact A.len, fun j x e => ?_, fun j b l e => ?_, fun j k s t p e e' z z' => ?_, A.trk, A.keep, A.sub, A.pas_set hn hn', fun j v h => (get_set h).elim (fun z => by cases z.2) fun z => A.pin j v z.2, fun j b k cs e => ?_, A.pqs, fun j x h => (get_set h).elim (fun z => by cases z.2) fun z => A.xs j x z.2⟩, ⟨fun _ z => .inl z, fun _ _ _ z => z, fun _ z _ => .inl z, fun a z => .inl (own_un z), fun _ z => z⟩⟩
  · rcases get_set e with ⟨_, q⟩ | ⟨_, q⟩
    · cases q
    · exact A.fz j x q
  · rcases get_set e with ⟨_, q⟩ | ⟨_, q⟩
    · cases q
    · exact A.ol j b l q
  · rcases get_set e with ⟨_, w⟩ | ⟨_, w⟩
    · cases w; exact z.elim
    · rcases get_set e' with ⟨_, w'⟩ | ⟨_, w'⟩
      · cases w'; exact z'.elim
      · exact A.nn j k _ _ p w w' z z'
  · rcases get_set e with ⟨_, q⟩ | ⟨_, q⟩
    · cases q
    · exact A.ob j b k cs q
end
section
variable {X : Cx} {c : C0} {x1 x2 cnd arg : Expr} {f1 f2 fa : G → Option (R × G)} {ft : G → Option (Bool × G)}
end
end Sm

/-! ## a dict of texts that a loop fills: {}, .get(t, x) != x, d[t] = x -/
namespace Sm
open PySem L2
def lkE : List (Str × D) → Str → Option D
  | [], _ => none
  | (s, d) :: r, t => if t = s then some d else lkE r t
section
variable {K : PySem.W.Frag} {mg : Str → Option Value} {c : C0} {m m1 : List Addr} {g : G} {σ : St} {H H1 : Hp} {v : V}
def DR (K : PySem.W.Frag) (mg : Str → Option Value) (m : List Addr) (H : Hp) (kvs : List (Key × V)) (es : List (Str × D)) : Prop := ∀ s : Str, match lkE es s with
  | some d => ∃ v, valV kvs (.inr s : Key) = some v ∧ Fz K mg m H v d
  | none => valV kvs (.inr s : Key) = none
theorem DR.map {kvs : List (Key × V)} {es : List (Str × D)} (k : ∀ a o, a ∉ m → H a = some o → a ∉ m1 ∧ H1 a = some o) (h : DR K mg m H kvs es) : DR K mg m1 H1 kvs es := fun s => by
  have q := h s
  cases e : lkE es s with
  | none => rw [e] at q; exact q
  | some d =>
    rw [e] at q
    obtain ⟨v, h1, h2⟩ := q
    exact ⟨v, h1, h2.map k⟩
theorem DR.put {kvs : List (Key × V)} {es : List (Str × D)} {t : Str} {d : D} (h : DR K mg m H kvs es) (hv : Fz K mg m H v d) : DR K mg m H (putK kvs (.inr t : Key) v) ((t, d) :: es) := fun s => by
  have q := h s
  rw [valV_put]
  unfold lkE
  by_cases e : s = t
  · subst e
    rw [if_pos rfl, if_pos rfl]
    exact ⟨v, rfl, hv⟩
  · rw [if_neg e, if_neg (fun z => e (Sum.inr.inj z))]
    exact q
end
inductive MetR (pd : V) (i k pl : Nat) (gf : D → G → Option G) (f1 f2 f3 f4 : G → Option O) : List D → G → List (Str × D) → G → Prop
  | nil {g : G} {es : List (Str × D)} : MetR pd i k pl gf f1 f2 f3 f4 [] g es g
  | cons {d dp : D} {l : List D} {g g1 g2 g3 g4 g5 g6 g' : G} {es : List (Str × D)} {t : Str} : gf d g = some g1 → f1 g1 = some (.nx g2) → f2 g2 = some (.nx g3) → f3 g3 = some (.nx g4) → f4 g4 = some (.nx g5) → g5[i]? = some (.pin pd) → g5[k]? = some (.fz (.str t)) →
      frz g5 (.sl pl) = some (dp, g6) → g6[i]? = some (.pin pd) → cNe ((lkE es t).getD dp) dp = some (.d (.bl false)) → es.length ≤ 1000 → MetR pd i k pl gf f1 f2 f3 f4 l g6 ((t, dp) :: es) g' → MetR pd i k pl gf f1 f2 f3 f4 (d :: l) g es g'
def MetOk (i k pl : Nat) (fe : G → Option (R × G)) (gf : D → G → Option G) (f1 f2 f3 f4 : G → Option O) (g g' : G) : Prop := ∀ pd : Addr, ∃ (n : Int) (g1 gp : G), fe (g.set i (.pin (.ref pd))) = some (.d (.int n), g1) ∧ -(2 ^ 62) ≤ n ∧ n < 2 ^ 62 ∧ g1[i]? = some (.pin (.ref pd)) ∧
  MetR (.ref pd) i k pl gf f1 f2 f3 f4 (rangeD 0 n.toNat) g1 [] gp ∧ gp[i]? = some (.pin (.ref pd)) ∧ gp.set i .un = g'
section
variable {X : Cx} {c : C0} {e tg : Expr} {b1 b2 b3 b4 : Stmt} {rest : List Stmt} {fe : G → Option (R × G)} {gf : D → G → Option G} {f1 f2 f3 f4 fr : G → Option O} {ws : List Nat}
end
theorem MetR.fun {pd : V} {i k pl : Nat} {gf : D → G → Option G} {f1 f2 f3 f4 : G → Option O} {l : List D} {g : G} {es : List (Str × D)} {a : G} (h : MetR pd i k pl gf f1 f2 f3 f4 l g es a) : ∀ {b : G}, MetR pd i k pl gf f1 f2 f3 f4 l g es b → a = b := by
  induction h with
  | nil => intro b h'; cases h'; rfl
  | cons eg e1 e2 e3 e4 hgi hgk hfr hg6 hne hes hrec ih =>
    intro b h'
    cases h' with
    | cons eg' e1' e2' e3' e4' hgi' hgk' hfr' hg6' hne' hes' hrec' =>
      rw [eg] at eg'; cases eg'
      rw [e1] at e1'; cases e1'
      rw [e2] at e2'; cases e2'
      rw [e3] at e3'; cases e3'
      rw [e4] at e4'; cases e4'
      rw [hgk] at hgk'; cases hgk'
      rw [hfr] at hfr'; cases hfr'
      exact ih hrec'
theorem MetOk.fun {i k pl : Nat} {fe : G → Option (R × G)} {gf : D → G → Option G} {f1 f2 f3 f4 : G → Option O} {g a b : G} (h : MetOk i k pl fe gf f1 f2 f3 f4 g a) (h' : MetOk i k pl fe gf f1 f2 f3 f4 g b) : b = a := by
  obtain ⟨n, g1, gp, e1, _, _, _, e2, _, e3⟩ := h 0
  obtain ⟨n', g1', gp', e1', _, _, _, e2', _, e3'⟩ := h' 0
  rw [e1] at e1'
  cases e1'
  have := e2.fun e2'
  subst this
  rw [← e3, ← e3']
end Sm

/-! ## exceptions -/
namespace Sm
open PySem L2
/-! ### what the written part says of an own exception class -/
structure ExcT (K : PySem.W.Frag) (mg : Str → Option Value) (x : Str) (C fI : Addr) : Prop where
  gC : mg x = some (.ref C)
  oex : OexC K C
  xf : XfC K C
  noV : PySem.W.findIn K (.ref C) "value" = some none
  iC : PySem.W.findIn K (.ref C) "__init__" = some (some (.ref fI))
  tI : PySem.W.typeIn K (.ref fI) = some (.type "function")
  isE : ExcC K C
/-- the base class, by whose name __init__ is called -/
structure BaseT (K : PySem.W.Frag) (mg : Str → Option Value) (x : Str) (C : Addr) : Prop where
  gC : mg x = some (.ref C)
  ga : PySem.W.specialIn K (.ref C) "__getattribute__" = some (some (.builtin "type.__getattribute__"))
  rd : PySem.W.readsIn K C (.type "type") = true
  ini : PySem.W.findCls K (.ref C) (.type "type") "__init__" = some (.val (.builtin "ValueError.__init__"))
section
variable {X : Cx} {e : Expr} {es : List Expr} {ta : TA} {p1 p2 pos : Pos}
theorem pe_binit {x : Str} {C : Addr} {pl : Sem Bool} (T : BaseT X.K X.mg x C) (hg : Gl X x) (ha : PA X (e :: es) ta)
    (hc : eval (.Call (.Attribute (.Name x p1) "__init__" p2) (e :: es) [] pos) X.env = (do
      let ov ← eval (.Name x p1) X.env
      standAt p2.atName
      let (f, first) ← holding [ov] (getMethod ov "__init__" pl)
      callWith pos f first (backTo pos (starEach (e :: es) X.env)) (backToKw pos (keywordEach [] X.env))) := by rfl)
    (he : starEach (e :: es) X.env = (false, eval e X.env) :: starEach es X.env := by rfl) (hpl : (backTo pos (starEach es X.env)).any (·.1) = false := by rfl) (hdb : (x == ("__debug__" : Str)) = false := by decide) :
    PE X (.Call (.Attribute (.Name x p1) "__init__" p2) (e :: es) [] pos) (tVeI X.K ta) := by
  refine ⟨fun pins s σ H Q I h => ?_⟩
  refine PySem.W.methodCall_KW (ld_glob I hg T.gC ?_ hdb) hc
  refine PySem.W.method_cls I.kIn T.ga (PySem.W.cls_value I.kIn T.rd T.ini (by decide +kernel) ?_)
  show wpAny _ _ (callWith pos (Value.builtin "ValueError.__init__") [] (backTo pos (starEach (e :: es) X.env)) []) _ _ _
  refine PyProof.Rows.callWith_method1 (thn (ha.run pos pins _ σ H _ (I.tok _) h) fun us s1 ⟨vs, H1, I1, r1, a, C', ws, ev, hl, T', ea, q⟩ => ?_) he hpl
  subst ev
  cases r1 with
  | @cons _ u0 _ ur ra rw' =>
    obtain rfl : u0 = Value.ref a := ra
    have hlen : ur.length ≤ sizeLine := by
      rw [← Paired.length rw', sizeLine_eq]
      omega
    exact oinit_ok T' I1 ea hlen fun s' J => ⟨.non, H1, J, rfl, q⟩
end
/-- __init__(self, value): the field is stored -/
def spI (C : Addr) : Sp := fun vs H Q _ => ∃ (a : Addr) (v : V), vs = [.ref a, v] ∧ H a = some (exo a C none) ∧ ∀ dx, H dx = none → dx ≠ a → Q .non (upd (upd H dx (exd dx [("value", v)])) a (exo a C (some dx)))
section
variable {P : Program} {w : World} {K : PySem.W.Frag} {mg : Str → Option Value} {base : Heap}
theorem init_ok {qual : Str} {st : Stmt} {C fI : Addr} {fd : FuncData} {m : Str} (F : Fun K "__init__" qual st fI fd) (S : FnScope ["self", "value"] ["self", "value"] (defScope st)) (T : OexC K C) (nV : PySem.W.findIn K (.ref C) "value" = some none)
    (body : ∀ (cdv : Value) (A : Around) (outer : List Env) (s : Shared) (H : Hp) (E : XK),
      PSs (cxOf CX0 P w K mg base ["self", "value"] qual (defScope st) fI cdv A outer s H E).nox (defBody st) (tSeq (tDrop (tVeI K (tCons (tVar 0) (tCons (tC (.str m)) tNil)))) (tOst K "value" (tVar 0) (tVar 1)))) :
    FnOk P w K mg base CX0 1 fI fd ["self", "value"] (spI C) := by
  refine F.ok S (fun vs H Q E h => by obtain ⟨a, v, rfl, _⟩ := h; rfl) fun cdv A outer s H vs Q E hr h => ⟨_, body cdv A outer s H E, ?_⟩
  obtain ⟨a, v, rfl, h1, h2⟩ := h
  refine ⟨_, rfl, a, C, [.str m], rfl, by show 1 ≤ 1000; decide, T, h1, ?_⟩
  exact ⟨_, rfl, _, rfl, a, C, rfl, T, nV, .inl ⟨h1, fun dx hd hn => h2 dx hd hn⟩⟩
end
/-! ### raise -/
section
variable {X : Cx} {c : C0} {e : Expr} {es : List Expr} {fe : G → Option (R × G)} {fs : G → Option (List R × G)} {pos pos' p : Pos}
def sRaise (C : Str) (fe : G → Option (R × G)) : G → Option O := fun g => (fe g).bind fun p => (frz p.2 p.1).bind fun q => some (.xc C q.1 q.2)
theorem ss_raise {x : Str} {C fI : Addr} {fd : FuncData} (T : ExcT X.K X.mg x C fI) (F1 : FnOk X.prog X.w X.K X.mg X.base CX0 1 fI fd ["self", "value"] (spI C)) (hb : Binds X.K fd ["self", "value"] []) (hr : Room 2 X.A) (hc : X.calm = true) (tk : Takes X c.W) (hg : Gl X x) (he : SE X c e fe)
    (hdb : (x == ("__debug__" : Str)) = false := by decide) (hst : starEach (e :: []) X.env = (false, eval e X.env) :: starEach [] X.env := by rfl) (hpl : (backTo pos (starEach [] X.env)).any (·.1) = false := by rfl) :
    SS X c (.Raise (some (.Call (.Name x p) [e] [] pos)) none pos') (sRaise x fe) := by
  refine (ps_raise hc tk (pmk_oex (dvs := []) (ds := []) T.oex T.iC T.tI F1 hr hb .nil pass0 hg T.gC (pa_cons he pa_nil hst) hdb hst hpl)).imp fun D σ H q => ?_
  obtain ⟨m, g, o, A, e, k⟩ := q
  unfold sRaise at e
  obtain ⟨⟨r1, g1⟩, e1, e⟩ := Option.bind_eq_some_iff.mp e
  obtain ⟨⟨d1, g2⟩, e2, e⟩ := Option.bind_eq_some_iff.mp e
  cases e
  refine ⟨m, g, r1, g1, A, e1, fun v m1 H1 A1 S1 V1 N1 => ?_⟩
  obtain ⟨m2, A2, S2, F2, _⟩ := frz_ok S1 A1 V1.w N1 e2
  refine ⟨by show 1 ≤ 1000; decide, fun a ha => ?_⟩
  refine ⟨a, v, rfl, upd_same, fun dx hd hn => ⟨rfl, dx, [("value", v)], upd_same, ?_, ?_, ?_⟩⟩
  · rw [upd_ne hn]; exact upd_same
  · rw [upd_ne hn] at hd; exact hd
  · have hd : H1 dx = none := by rw [upd_ne hn] at hd; exact hd
    have eq : upd (del (upd (upd (upd H1 a (exo a C none)) dx (exd dx [("value", v)])) a (exo a C (some dx))) a) dx (.xd [("value", v)]) = upd H1 dx (.xd [("value", v)]) := by
      funext b
      by_cases hb : b = dx
      · subst hb; rw [upd_same, upd_same]
      · rw [upd_ne hb, upd_ne hb]
        by_cases hba : b = a
        · subst hba; rw [del_same]; exact ha.symm
        · rw [del_ne hba, upd_ne hba, upd_ne hb, upd_ne hba]
    rw [eq]
    exact k _ _ m2 σ _ (A2.ext (Ext.new hd)) (S2.trans (Stp.ext (Ext.new hd))) ⟨C, dx, v, rfl, T.gC, rfl, fun z => A2.trk dx z hd, upd_same, F2.ext (Ext.new hd)⟩
/-! ### calls of defs that may raise -/
/-- a def's mirror, of a def that may raise -/
def dX (n k : Nat) (B : G → Option O) : G → Option RX := fun g => if g.length = n then fnX n k B g else none
theorem dX_len {n k : Nat} {B : G → Option O} : ∀ g r, dX n k B g = some r → g.length = n := fun g r h => by
  unfold dX at h
  split at h
  · assumption
  · cases h
theorem spX_imp {K : PySem.W.Frag} {mg : Str → Option Value} {n k : Nat} {B : G → Option O} (vs : List V) (H : Hp) (Q : VK) (E : XK) (h : spX K mg n (dX n k B) vs H Q E) : spX K mg n (fnX n k B) vs H Q E := by
  obtain ⟨h1, m, g, r, A, e, kq⟩ := h
  refine ⟨h1, m, g, r, A, ?_, kq⟩
  unfold dX at e
  split at e
  · exact e
  · cases e
def okX (F : G → Option RX) : G → Option (R × G) := fun g => match F g with
  | some (.ok r g') => some (r, g')
  | _ => none
variable {k : Nat} {f : Addr} {fd : FuncData} {ps : List Str} {x : Str} {n nn : Nat} {B : G → Option O}
/-- a statement that is a call: ret: the result is returned -/
def sCallX (ret : Bool) (F : G → Option RX) (fs : G → Option (List R × G)) : G → Option O := fun g => (fs g).bind fun p => (ldsC p.2 p.1).bind fun ds => (F (ds.map .fz)).bind fun rx => match rx with
  | .ok r _ => (if noRs r = true then some p.2 else meltAll p.2 (lent p.1)).bind fun g1 => some (match ret with | true => .rt r g1 | false => .nx g1)
  | .xc C x _ => if noL x = true then some (.xc C x p.2) else none
end
section
variable {P : Program} {w : World} {K : PySem.W.Frag} {mg : Str → Option Value} {base : Heap}
theorem defX_ok {x qual : Str} {st : Stmt} {f : Addr} {fd : FuncData} {N ps : List Str} {k : Nat} {B : G → Option O} (F : Fun K x qual st f fd) (S : FnScope N ps (defScope st))
    (body : ∀ (cdv : Value) (A : Around) (outer : List Env) (s : Shared) (H : Hp) (E : XK) (c : C0), Room k (A.deeper (PyProof.Rows.envOfC qual (defScope st) s.heap.objs.size f cdv)) → (c.W = fun cls d _ H => E cls d H) →
      SSs (cxOf (L2.CX P w) P w K mg base N qual (defScope st) f cdv A outer s H E) c (defBody st) B) : FnOk P w K mg base (L2.CX P w) (k + 1) f fd ps (spX K mg ps.length (dX ps.length N.length B)) :=
  (fnX_ok F S body).imp spX_imp
end
end Sm

/-! ## try .. except .. as -/
namespace Sm
open PySem L2
def noXs (g : G) : Bool := g.all fun s => match s with
  | .xs _ => false
  | _ => true
theorem noXs_at {g : G} (h : noXs g = true) {i : Nat} {x : D} : g[i]? ≠ some (.xs x) := fun e => by
  unfold noXs at h
  have := List.all_eq_true.mp h (.xs x) (List.mem_of_getElem? e)
  cases this
section
variable {K : PySem.W.Frag} {mg : Str → Option Value} {c c' : C0} {m : List Addr} {g : G} {σ : St} {H : Hp} {v : V} {x : D}
theorem own_setX {i : Nat} {s : D} {w : Option V} {a : Addr} (h : Own (g.set i (.xs s)) (σ.set i w) a) : Own g σ a := by
  obtain ⟨j, s, h1, h2⟩ := h
  rcases get_set h1 with ⟨_, e⟩ | ⟨ne, e⟩
  · cases e; exact h2.elim
  · rw [List.getElem?_set_ne ne] at h2
    exact ⟨j, s, e, h2⟩
theorem Abs.stoX {i : Nat} (A : Abs K mg c m g σ H) (hn : notT g i = true) (hx : noXs g = true) (h1 : c'.H0 = c.H0) (h2 : c'.m0 = c.m0) (h3 : c'.pa = c.pa) (h4 : c'.po = c.po) (h5 : c'.ed ∉ m) (h6 : H c'.ed = some (.xd [("value", v)])) (h7 : Fz K mg m H v x) :
    Abs K mg c' m (g.set i (.xs x)) (σ.set i (some (.ref c'.ea))) H ∧ Stp m g σ H m (g.set i (.xs x)) (σ.set i (some (.ref c'.ea))) H := by
  obtain ⟨hi, hn, hn'⟩ := notT_lt hn
  have A' : Abs K mg c' m g σ H := A.re h1 h2 h3 h4 fun i x z => absurd z (noXs_at hx)
  refine ⟨⟨by rw [List.length_set, List.length_set]; exact A.len, fun j x e => ?_, fun j b l e => ?_, fun j k s t p e e' z z' => ?_, A.trk, A'.keep, A'.sub, A'.pas_set hn hn', fun j w e => ?_, fun j b k cs e => ?_, A'.pqs, fun j y e => ?_⟩, ⟨fun _ z => .inl z, fun _ _ _ z => z, fun _ z _ => .inl z, fun a z => .inl (own_setX z), fun _ z => z⟩⟩
  · rcases get_set e with ⟨rfl, q⟩ | ⟨ne, q⟩
    · cases q
    · rw [List.getElem?_set_ne ne]
      exact A.fz j x q
  · rcases get_set e with ⟨rfl, q⟩ | ⟨ne, q⟩
    · cases q
    · rw [List.getElem?_set_ne ne]
      exact A'.ol j b l q
  · rcases get_set e with ⟨rfl, w⟩ | ⟨ne, w⟩
    · cases w; exact z.elim
    · rcases get_set e' with ⟨rfl, w'⟩ | ⟨ne', w'⟩
      · cases w'; exact z'.elim
      · rw [List.getElem?_set_ne ne] at z
        rw [List.getElem?_set_ne ne'] at z'
        exact A.nn j k _ _ p w w' z z'
  · rcases get_set e with ⟨rfl, q⟩ | ⟨ne, q⟩
    · cases q
    · rw [List.getElem?_set_ne ne]
      exact A.pin j w q
  · rcases get_set e with ⟨rfl, q⟩ | ⟨ne, q⟩
    · cases q
    · rw [List.getElem?_set_ne ne]
      exact A'.ob j b k cs q
  · rcases get_set e with ⟨rfl, q⟩ | ⟨ne, q⟩
    · cases q
      exact ⟨List.getElem?_set_self (by rw [← A.len]; exact hi), h5, v, h6, h7⟩
    · exact absurd q (noXs_at hx)
theorem Abs.setW {k : Nat} {w : Option V} (A : Abs K mg c m g σ H) (hk : g[k]? = some .un) : Abs K mg c m g (σ.set k w) H ∧ Stp m g σ H m g (σ.set k w) H := by
  have out : ∀ {j : Nat} {s : Slot}, g[j]? = some s → s ≠ .un → (σ.set k w)[j]? = σ[j]? := fun {j s} h n => by
    rw [List.getElem?_set_ne fun z => by subst z; rw [hk] at h; cases h; exact n rfl]
  have so : ∀ {j : Nat} {s : Slot} {a : Addr}, g[j]? = some s → SOwn s (σ.set k w)[j]? a → SOwn s σ[j]? a := fun {j s a} h o => by
    by_cases z : s = .un
    · subst z; exact o.elim
    · rw [out h z] at o; exact o
  refine ⟨⟨by rw [List.length_set]; exact A.len, fun j x e => ?_, fun j b l e => ?_, fun j k s t p e e' z z' => A.nn j k _ _ p e e' (so e z) (so e' z'), A.trk, A.keep, A.sub, A.pas, fun j v e => by rw [out e fun z => nomatch z]; exact A.pin j v e, fun j b k cs e => ?_, A.pqs, fun j x e => by rw [out e fun z => nomatch z]; exact A.xs j x e⟩, ⟨fun _ z => .inl z, fun _ _ _ z => z, fun _ z _ => .inl z, fun a z => .inl ?_, fun _ z => z⟩⟩
  · obtain ⟨w, h1, h2⟩ := A.fz j x e
    exact ⟨w, by rw [out e fun z => nomatch z]; exact h1, h2⟩
  · obtain ⟨p, vs, h1, h2⟩ := A.ol j b l e
    exact ⟨p, vs, by rw [out e fun z => nomatch z]; exact h1, h2⟩
  · rw [out e fun z => nomatch z]
    exact A.ob j b k cs e
  · obtain ⟨j, s, h1, h2⟩ := z
    exact ⟨j, s, h1, so h1 h2⟩
end
/-- behind an except suite the name is empty -/
def unX (i : Nat) : O → Option O
  | .nx g => if notT g i = true ∧ noXs (g.set i .un) = true then some (.nx (g.set i .un)) else none
  | .bk g => if notT g i = true ∧ noXs (g.set i .un) = true then some (.bk (g.set i .un)) else none
  | .ct g => if notT g i = true ∧ noXs (g.set i .un) = true then some (.ct (g.set i .un)) else none
  | .rt r g => if notT g i = true ∧ noXs (g.set i .un) = true then some (.rt r (g.set i .un)) else none
  | .xc _ _ _ => none
/-- cl: the classes that may come -/
def sTry (i : Nat) (cl : List Str) (B : G → Option O) (S : Str → G → Option O) : G → Option O := fun g => (B g).bind fun o => match o with
  | .xc C x g1 => if notT g1 i = true ∧ noXs g1 = true ∧ C ∈ cl then (S C (g1.set i (.xs x))).bind (unX i) else none
  | o => some o
section
variable {X : Cx} {c : C0} {body suite : List Stmt} {b₀ : Stmt} {B : G → Option O} {S : Str → G → Option O} {i : Nat} {x n : Str} {CP : Addr} {cl : List Str} {np pos pos' : Pos}
abbrev C0.wish (c : C0) (W : WX) : C0 := { c with W := W }
abbrev C0.hand (c : C0) (a d : Addr) : C0 := { c with W := fun _ _ _ _ => False, ea := a, ed := d }
end
/-! ### in an except suite: e.value, isinstance(e, ..) -/
def eXv (i : Nat) : G → Option (R × G) := fun g => match g[i]? with
  | some (.xs x) => some (.d x, g)
  | _ => none
def eIs (i : Nat) (b : Bool) : G → Option (R × G) := fun g => match g[i]? with
  | some (.xs _) => some (.d (.bl b), g)
  | _ => none
theorem eXv_inv {i : Nat} {g g' : G} {r : R} (h : eXv i g = some (r, g')) : ∃ x, g[i]? = some (.xs x) ∧ r = .d x ∧ g' = g := by
  unfold eXv at h
  split at h
  · cases h; exact ⟨_, ‹_›, rfl, rfl⟩
  · cases h
theorem eIs_inv {i : Nat} {b : Bool} {g g' : G} {r : R} (h : eIs i b g = some (r, g')) : ∃ x, g[i]? = some (.xs x) ∧ r = .d (.bl b) ∧ g' = g := by
  unfold eIs at h
  split at h
  · cases h; exact ⟨_, ‹_›, rfl, rfl⟩
  · cases h
/-- isinstance(e, (C1, ..)) of the exception that a suite holds -/
def rIsET (K : PySem.W.Frag) (D a : Addr) : List V → Hp → VK → Prop := fun xs H Q => ∃ (tp : Addr) (cs : List V) (us : List Value) (b : Bool), xs = [.ref a, .ref tp] ∧ H tp = some (.tup cs) ∧ Paired ClsV cs us ∧ PySem.W.kitAny K (.ref D) us = some b ∧ Q (.bl b) H
section
variable {X : Cx} {a D : Addr} {oe : Obj} {pn : List (Addr × Obj)} {dd : Addr}
variable {c : C0} {i : Nat} {y n n2 : Str} {p p1 p2 p3 pos : Pos} {b : Bool} {ec : Expr} {v : V} {u : Value}
end
/-! ### == where an exception is handled -/
section
variable {X : Cx}
end
/-! ### the facts, put together -/
section
variable {K : PySem.W.Frag} {mg : Str → Option Value}
theorem excT_mk {x nm q : Str} {C fI fP N : Addr} {bs : List Value} {sn : List Str} {sub : List Value} {ab : Bool} {col : Option Bool} {dd : Option Addr} {k0 k1 k2 k3 k5 : Option Value} (gC : mg x = some (.ref C))
    (xl : K.lookup C = some (excClassObj nm q C N bs [.ref fP, .type "ValueError", .type "Exception", .type "BaseException", .type "object"] true sn sub ab col dd k0 k1 k2 k3 k5 "ValueError.__new__"))
    (sa : PySem.W.findIn K (.ref C) "__setattr__" = some (some (.builtin "object.__setattr__"))) (ga : PySem.W.findIn K (.ref C) "__getattribute__" = some (some (.builtin "BaseException.__getattribute__"))) (gg : PySem.W.findIn K (.ref C) "__getattr__" = some none) (nv : PySem.W.findIn K (.ref C) "value" = some none)
    (iC : PySem.W.findIn K (.ref C) "__init__" = some (some (.ref fI))) (tI : PySem.W.typeIn K (.ref fI) = some (.type "function"))
    (kC : PySem.W.keepIn K (.ref C) = true) (eC : PySem.W.subIn K (.ref C) (.type "BaseException") = some true) (tC : PySem.W.typeIn K (.ref C) = some (.type "type")) (hC : PySem.W.hasDictIn K C = true)
    (ha : PySem.W.findIn K (.ref C) "__class__" = some (some (.builtin "object.__class__"))) (hn : PySem.W.specialIn K (.builtin "object.__class__") "__get__" = some (some (.builtin "getset_descriptor.__get__"))) (ht : PySem.W.takesIn K (.builtin "object.__class__") = some true) (hm : PySem.W.mroIn K C (.type "object") = some true) : ExcT K mg x C fI where
  gC := gC
  oex := ⟨⟨nm, q, N, bs, _, sn, sub, ab, col, dd, k0, k1, k2, k3, k5, xl, by rfl⟩, sa, eC, tC, kC⟩
  xf := ⟨ga, gg, eC, hC⟩
  noV := nv
  iC := iC
  tI := tI
  isE := ⟨ga, gg, eC, hC, ha, hn, ht, hm⟩
/-- isinstance, an own class -/
theorem kit_ref {t : Value} {D : Addr} {b : Bool} (hd : PySem.W.hasDictIn K D = true) (ht : PySem.W.typeIn K (.ref D) = some (.type "type")) (hs : PySem.W.subIn K (.ref D) (.ref D) = some true) (h : PySem.W.subIn K t (.ref D) = some b) : PySem.W.kitOne K t (.ref D) = some b := by
  unfold PySem.W.kitOne
  split
  · rename_i e
    have e := eq_of_beq e
    subst e
    rw [hs] at h
    exact h
  · obtain ⟨cd, hc, _⟩ := PySem.W.any_some hd
    show (if ((PySem.W.clsIn K D).isSome && PySem.W.typeIn K (.ref D) == some (.type "type")) = true then PySem.W.subIn K t (.ref D) else none) = some b
    rw [if_pos (by rw [hc, ht]; rfl)]
    exact h
theorem kit_ve {C : Addr} {b : Bool} (h : PySem.W.subIn K (.ref C) (.type "ValueError") = some b) : PySem.W.kitOne K (.ref C) (.type "ValueError") = some b := by
  unfold PySem.W.kitOne
  rw [if_neg (fun z => by cases eq_of_beq z)]
  show (if PySem.W.kitMeta "ValueError" = true then PySem.W.subIn K (.ref C) (.type "ValueError") else none) = some b
  rw [if_pos (by decide +kernel)]
  exact h
end
end Sm

/-! ## exceptions: the mirrors, evaluated -/
namespace Sm
open PySem L2
section
variable {g g1 g2 g' : G} {r r1 : R} {d x : D} {b : Bool} {i n k : Nat} {fe : G → Option (R × G)} {f B : G → Option O} {fs : G → Option (List R × G)} {F : G → Option RX} {rs : List R} {ds : List D} {C : Str} {cl : List Str} {S : Str → G → Option O} {o : O}
def outX (n : Nat) : Option O → Option RX
  | some (.rt r g) => (retR g r).map fun r' => .ok r' (g.take n)
  | some (.nx g) => some (.ok (.d .non) (g.take n))
  | some (.xc C x g) => some (.xc C x (g.take n))
  | _ => none
def outX2 (n : Nat) (g : G) : Option R → Option RX
  | some r => some (.ok r (g.take n))
  | none => none
theorem dX_run (h : g.length = n) : dX n k f g = outX n (f (g ++ uns (k - n))) := by
  unfold dX
  rw [if_pos h]
  unfold fnX outX
  cases f (g ++ uns (k - n)) with
  | none => rfl
  | some o => cases o <;> rfl
theorem outX_rt : outX n (some (.rt r g)) = outX2 n g (retR g r) := by unfold outX outX2; dsimp only; cases retR g r <;> rfl
def noX1 : Slot → Bool
  | .xs _ => false
  | _ => true
end
end Sm

/-! ## the parts of a composite, by place -/
namespace Sm
open PySem L2
/-- how a part is written: by a number, by a text, by a field -/
inductive Ky where
  | ix | tx (z : Str) | at (C f : Str)
def kAt : List Str → Nat → Str → Bool
  | [], _, _ => false
  | k :: _, 0, z => decide (k = z)
  | _ :: ks, n + 1, z => kAt ks n z
def keyIs : OK → Nat → Ky → Bool
  | .li, _, .ix => true
  | .di ks, n, .tx z => kAt ks n z
  | .ns C ks, n, .at C' f => decide (C = C') && kAt ks n f
  | _, _, _ => false
theorem kAt_get : ∀ {ks : List Str} {n : Nat} {z : Str}, kAt ks n z = true → ks[n]? = some z
  | [], _, _, h => nomatch h
  | k :: _, 0, z, h => by rw [List.getElem?_cons_zero, of_decide_eq_true h]
  | _ :: ks, n + 1, z, h => kAt_get (ks := ks) h
theorem qs_set_fd {d : D} : ∀ (cs : List F) (n : Nat), (qs (cs.set n (.fd d))).Sublist (qs cs)
  | [], _ => .slnil
  | .fd _ :: cs, 0 => List.Sublist.refl _
  | .fl q _ :: cs, 0 => List.sublist_cons_self ..
  | .fd _ :: cs, n + 1 => qs_set_fd cs n
  | .fl q _ :: cs, n + 1 => .cons₂ q (qs_set_fd cs n)
theorem qs_set_fl {q : Addr} {l l' : List D} : ∀ {cs : List F} {n : Nat}, cs[n]? = some (.fl q l) → qs (cs.set n (.fl q l')) = qs cs
  | [], _, h => nomatch h
  | .fd _ :: cs, 0, h => by cases h
  | .fl _ _ :: cs, 0, h => by cases h; rfl
  | .fd _ :: cs, n + 1, h => qs_set_fl (cs := cs) h
  | .fl p _ :: cs, n + 1, h => congrArg (p :: ·) (qs_set_fl (cs := cs) h)
theorem mem_qs {q : Addr} {l : List D} : ∀ {cs : List F}, F.fl q l ∈ cs → q ∈ qs cs
  | [], h => nomatch h
  | x :: r, h => by
    rcases List.mem_cons.mp h with z | z
    · subst z; exact List.mem_cons_self ..
    · exact qs_cons.mpr (.inr (mem_qs z))
theorem mem_qs_at {q : Addr} {l : List D} {cs : List F} {n : Nat} (h : cs[n]? = some (.fl q l)) : q ∈ qs cs := mem_qs (List.mem_of_getElem? h)
section
variable {K : PySem.W.Frag} {mg : Str → Option Value} {c : C0} {m : List Addr} {g : G} {σ : St} {H H' : Hp} {v w : V} {d : D}
theorem CFs.len : ∀ {vs : List V} {cs : List F}, CFs K mg m H vs cs → vs.length = cs.length
  | _, _, .nil => rfl
  | _, _, .cons _ t => congrArg Nat.succ t.len
theorem CFs.get {f : F} : ∀ {vs : List V} {cs : List F} {n : Nat}, CFs K mg m H vs cs → cs[n]? = some f → ∃ v, vs[n]? = some v ∧ CF K mg m H v f
  | _, _, 0, .cons h _, e => by cases e; exact ⟨_, rfl, h⟩
  | _, _, n + 1, .cons _ t, e => CFs.get (n := n) t e
theorem CFs.setF {f : F} (hf : CF K mg m H w f) : ∀ {vs : List V} {cs : List F} (n : Nat), CFs K mg m H vs cs → CFs K mg m H (vs.set n w) (cs.set n f)
  | _, _, 0, .nil => .nil
  | _, _, _ + 1, .nil => .nil
  | _, _, 0, .cons _ t => .cons hf t
  | _, _, n + 1, .cons h t => .cons h (CFs.setF hf n t)
/-- a write to a mutable address that is no part's list -/
theorem CFs.updM {p : Addr} {o : HO} (hp : p ∈ m) : ∀ {vs : List V} {cs : List F}, p ∉ qs cs → CFs K mg m H vs cs → CFs K mg m (upd H p o) vs cs := fun {vs cs} hq h =>
  h.map (fun a u n e => ⟨n, by rw [upd_ne (fun z : a = p => n (by rw [z]; exact hp))]; exact e⟩) fun q z => ⟨(h.mem q z).1, upd_ne fun e => hq (e ▸ z)⟩
/-- a write to one part's list -/
theorem CFs.updQ {q : Addr} {l l' : List D} {ws : List V} (hm : q ∈ m) (hw : FzL K mg m H ws l') : ∀ {vs : List V} {cs : List F} {n : Nat}, CFs K mg m H vs cs → (qs cs).Nodup → cs[n]? = some (.fl q l) → CFs K mg m (upd H q (.lst ws)) vs (cs.set n (.fl q l'))
  | _, _, 0, .cons (f := f) h t, nd, e => by
    cases e
    obtain ⟨e1, e2, _⟩ := h
    exact .cons ⟨e1, e2, ws, upd_same, hw.updM hm⟩ (t.updM hm (List.nodup_cons.mp nd).1)
  | _, _, n + 1, .cons (f := .fd d) h t, nd, e => .cons (Fz.updM hm h) (CFs.updQ hm hw (n := n) t nd e)
  | _, _, n + 1, .cons (f := .fl p l0) h t, nd, e => by
    obtain ⟨n1, n2⟩ := List.nodup_cons.mp nd
    obtain ⟨e1, e2, us, e3, e4⟩ := h
    have hq := mem_qs_at (cs := _) (n := n) (show _ = some (F.fl q l) from e)
    exact .cons ⟨e1, e2, us, by rw [upd_ne fun z : p = q => n1 (by rw [z]; exact hq)]; exact e3, e4.updM hm⟩ (CFs.updQ hm hw (n := n) t n2 e)
theorem lookup_zip {z : Str} : ∀ {ks : List Str} {vs : List V} {n : Nat}, ks.Nodup → ks[n]? = some z → vs[n]? = some v → (ks.zip vs).lookup z = some v
  | [], _, _, _, h, _ => by cases h
  | k :: ks, [], n, _, _, h => by cases h
  | k :: ks, u :: vs, 0, _, h, h' => by
    cases h; cases h'
    rw [List.zip_cons_cons, List.lookup_cons, beq_self_eq_true z]
  | k :: ks, u :: vs, n + 1, nd, h, h' => by
    have hb : (z == k) = false := beq_eq_false_iff_ne.mpr fun e => (List.nodup_cons.mp nd).1 (by rw [← e]; exact List.mem_of_getElem? (l := ks) (i := n) h)
    rw [List.zip_cons_cons, List.lookup_cons, hb]
    exact lookup_zip (List.nodup_cons.mp nd).2 h h'
theorem putF_zip {z : Str} : ∀ {ks : List Str} {vs : List V} {n : Nat}, ks.Nodup → ks[n]? = some z → ks.length = vs.length → L2.putF z w (ks.zip vs) = ks.zip (vs.set n w)
  | [], _, _, _, h, _ => by cases h
  | k :: ks, [], n, _, _, h => by cases h
  | k :: ks, u :: vs, 0, _, h, _ => by
    cases h
    rw [List.zip_cons_cons, L2.putF, if_pos rfl]; rfl
  | k :: ks, u :: vs, n + 1, nd, h, h' => by
    have hn : k ≠ z := fun e => (List.nodup_cons.mp nd).1 (by rw [e]; exact List.mem_of_getElem? (l := ks) (i := n) h)
    rw [List.zip_cons_cons, L2.putF, if_neg hn, putF_zip (List.nodup_cons.mp nd).2 h (Nat.succ.inj h')]; rfl
/-- a composite's object, or one list of it, written -/
theorem Abs.putOb {i : Nat} {b : Bool} {k : OK} {cs cs' : List F} {p : Addr} {o' : HO} {us' : List V} (A : Abs K mg c m g σ H) (hg : g[i]? = some (.ob b k cs)) (hσ : σ[i]? = some (some (.ref p))) (hk : ∀ a o, a ≠ p → a ∉ qs cs → H a = some o → H' a = some o)
    (h1 : H' p = some o') (h2 : HasOb mg o' us' k) (h3 : CFs K mg m H' us' cs') (h4 : (qs cs').Sublist (qs cs)) (ht : ∀ q ∈ qs cs, H' q ≠ none) :
    Abs K mg c m (g.set i (.ob b k cs')) σ H' ∧ Stp m g σ H m (g.set i (.ob b k cs')) σ H' := by
  have nd : (p :: qs cs').Nodup := by
    obtain ⟨p0, _, _, e, _, _, _, _, nd, _⟩ := A.ob i b k cs hg
    rw [hσ] at e; cases e
    exact (h4.cons_cons p).nodup nd
  have h := afterM (r := .d .non) (v := .non) (H2 := H') (g2 := g.set i (.ob b k cs')) A (P := fun a => a = p ∨ a ∈ qs cs) (fun a o n e => hk a o (fun z => n (.inl z)) (fun z => n (.inr z)) e) List.length_set (fun a z => by
    rcases z with z | z
    · subst z; exact ⟨i, _, hg, .inl hσ⟩
    · exact ⟨i, _, hg, .inr z⟩) (fun j => by
    by_cases hj : i = j
    · subst hj
      exact .inr (.inr ⟨b, k, cs, cs', p, o', us', hg, hσ, List.getElem?_set_self (lt_of_get hg), h1, h2, h3, nd, fun q z => h4.subset z⟩)
    · refine .inl ⟨List.getElem?_set_ne hj, fun s q w w' z => hj ?_⟩
      exact A.nn i j _ _ q hg w (by
        rcases z with z | z
        · subst z; exact .inl hσ
        · exact .inr z) w') (fun a h => by
    by_cases z : a = p
    · rw [z, h1]; exact fun z => nomatch z
    · by_cases z' : a ∈ qs cs
      · exact ht a z'
      · cases w : H a with
        | none => exact absurd w (A.trk a h)
        | some o => rw [hk a o z z' w]; exact fun z => nomatch z) .non
  exact ⟨h.1, h.2.1⟩
/-- one list of a composite, written -/
theorem Abs.putFl {i n : Nat} {b : Bool} {k : OK} {cs : List F} {q : Addr} {l l' : List D} {ws : List V} (A : Abs K mg c m g σ H) (hg : g[i]? = some (.ob b k cs)) (hn : cs[n]? = some (.fl q l)) (hw : FzL K mg m H ws l') :
    Abs K mg c m (g.set i (.ob b k (cs.set n (.fl q l')))) σ (upd H q (.lst ws)) ∧ Stp m g σ H m (g.set i (.ob b k (cs.set n (.fl q l')))) σ (upd H q (.lst ws)) := by
  obtain ⟨p, o, us, h1, h2, h3, h4, h5, nd, _⟩ := A.ob i b k cs hg
  have hq := mem_qs_at hn
  have hpq : p ≠ q := fun e => (List.nodup_cons.mp nd).1 (e ▸ hq)
  refine A.putOb hg h1 (o' := o) (us' := us) (fun a o _ n2 e => by rw [upd_ne fun z : a = q => n2 (by rw [z]; exact hq)]; exact e) (by rw [upd_ne hpq]; exact h3) h4 (CFs.updQ (h5.mem q hq).1 hw h5 (List.nodup_cons.mp nd).2 hn) (by rw [qs_set_fl hn]; exact List.Sublist.refl _) fun a z => ?_
  by_cases e : a = q
  · rw [e, upd_same]; exact fun z => nomatch z
  · rw [upd_ne e]; exact (h5.mem a z).2
/-- a part of a composite, written anew with what is frozen -/
theorem Abs.putFd {i n : Nat} {b : Bool} {k : OK} {cs : List F} {p : Addr} {us : List V} {o' : HO} (A : Abs K mg c m g σ H) (hg : g[i]? = some (.ob b k cs)) (hσ : σ[i]? = some (some (.ref p))) (hC : CFs K mg m H us cs) (ho : HasOb mg o' (us.set n v) k) (hv : Fz K mg m H v d) :
    Abs K mg c m (g.set i (.ob b k (cs.set n (.fd d)))) σ (upd H p o') ∧ Stp m g σ H m (g.set i (.ob b k (cs.set n (.fd d)))) σ (upd H p o') := by
  obtain ⟨p0, o, us0, h1, h2, h3, h4, h5, nd, _⟩ := A.ob i b k cs hg
  rw [hσ] at h1; cases h1
  have hp := (List.nodup_cons.mp nd).1
  refine A.putOb hg hσ (o' := o') (us' := us.set n v) (fun a o n1 n2 e => by rw [upd_ne n1]; exact e) upd_same ho (CFs.setF (f := .fd d) (Fz.updM h2 hv) n (hC.updM h2 hp)) (qs_set_fd cs n) fun a z => ?_
  rw [upd_ne fun e : a = p => hp (by rw [← e]; exact z)]
  exact (h5.mem a z).2
end
/-- e is part n of slot i -/
structure PartE (X : Cx) (c : C0) (e : Expr) (i n : Nat) (κ : Ky) : Prop where
  ex : ∃ t : TE, PE X e t ∧ ∀ (m : List Addr) (g : G) (σ : St) (H : Hp) (Q : VK) (b : Bool) (k : OK) (cs : List F) (f : F), Abs X.K X.mg c m g σ H → g[i]? = some (.ob b k cs) → keyIs k n κ = true → cs[n]? = some f → (∀ v, CF X.K X.mg m H v f → Q v H) → t σ H Q
section
variable {X : Cx} {c : C0} {e : Expr} {fe : G → Option (R × G)} {i n kk kn : Nat} {z : Str} {y f C : Str} {p pk pos pos' apos cpos pn pl : Pos} {K0 : Nat} {κ : Ky} {st : Stmt}
theorem parF {Ca : Addr} (hC : X.mg C = some (.ref Ca)) (cl : Cls X.K Ca) (na : NoAttr X.K Ca f) (ho : PE X (.Name y p) (tVar i)) (hb : attributeBase (.Name y p) f X.env (eval (.Name y p) X.env) = eval (.Name y p) X.env := by rfl) : PartE X c (.Attribute (.Name y p) f pos) i n (.at C f) :=
  ⟨_, pe_fld ho hb, fun m g σ H Q b k cs f' A hg hk hn q => by
    obtain ⟨a, o, vs, h1, h2, h3, h4, h5, h6, _⟩ := A.ob i b k cs hg
    obtain ⟨v, h7, h8⟩ := h5.get hn
    cases k with
    | di ks => cases hk
    | li => cases hk
    | ns C' ks =>
      obtain ⟨hk1, hk2⟩ := (Bool.and_eq_true _ _).mp hk
      have e := of_decide_eq_true hk1
      subst e
      obtain ⟨k1, k2, Ca', dx, hC', rfl⟩ := h4
      rw [hC] at hC'
      cases hC'
      exact ⟨_, h1, a, Ca, dx, _, v, rfl, h3, cl, na, lookup_zip k1 (kAt_get hk2) h7, q v h8⟩⟩
/-- what a part is -/
def Rof (i : Nat) : F → R
  | .fd d => .d d
  | .fl q _ => .pq i q
def ePart (i n : Nat) (κ : Ky) : G → Option (R × G) := fun g => match g[i]? with
  | some (.ob _ k cs) => if keyIs k n κ = true then (cs[n]?).map fun f => (Rof i f, g) else none
  | _ => none
theorem se_part (h : PartE X c e i n κ) : SE X c e (ePart i n κ) := by
  obtain ⟨t, h1, h2⟩ := h.ex
  refine h1.imp fun σ H Q q => ?_
  obtain ⟨m, g, r, g', A, e, k⟩ := q
  unfold ePart at e
  split at e
  · rename_i b kd cs hg
    split at e
    · rename_i hk
      obtain ⟨f, hn, e⟩ := Option.map_eq_some_iff.mp e
      cases e
      refine h2 m g σ H Q b kd cs f A hg hk hn fun v hv => k v m H A Stp.refl ?_ ?_
      · cases f with
        | fd d => exact hv
        | fl q l => exact hv.1
      · cases f with
        | fd d => exact fun _ z => nomatch z
        | fl q l => exact fun _ z => nomatch z
    · cases e
  · cases e
/-! ### parts stored -/
def sPut (i n : Nat) (κ : Ky) (fe : G → Option (R × G)) : G → Option O := fun g => (fe g).bind fun p => (frz p.2 p.1).bind fun q => match q.2[i]? with
  | some (.ob b k cs) => if keyIs k n κ = true ∧ n < cs.length ∧ cs.length ≤ 900 then some (.nx (q.2.set i (.ob b k (cs.set n (.fd q.1))))) else none
  | _ => none
def PutAt (X : Cx) (c : C0) (i n : Nat) (κ : Ky) (D : Ends) (σ : St) (v : V) (H1 : Hp) : Prop := ∃ a o us k, σ[i]? = some (some (.ref a)) ∧ H1 a = some o ∧ HasOb X.mg o us k ∧ keyIs k n κ = true ∧ us.length ≤ 900 ∧ n < us.length ∧ ∀ o', HasOb X.mg o' (us.set n v) k → D.nx σ (upd H1 a o')
theorem put_ok {D : Ends} {σ : St} {H : Hp} {Q : VK} (q : tS X.K X.mg c (sPut i n κ fe) D σ H) (k : ∀ v H1, PutAt X c i n κ D σ v H1 → Q v H1) : tE X.K X.mg c fe σ H Q := by
  obtain ⟨m, g, o, A, e, kk⟩ := q
  unfold sPut at e
  obtain ⟨⟨r1, g1⟩, e1, e⟩ := Option.bind_eq_some_iff.mp e
  obtain ⟨⟨d, g2⟩, e2, e⟩ := Option.bind_eq_some_iff.mp e
  dsimp only at e
  split at e
  · rename_i b kd cs hg
    split at e
    · rename_i hh
      cases e
      refine ⟨m, g, r1, g1, A, e1, fun v m1 H1 A1 S1 V1 N1 => k v H1 ?_⟩
      obtain ⟨m2, A2, S2, F2, _⟩ := frz_ok S1 A1 V1.w N1 e2
      obtain ⟨a, o, us, h1, h2, h3, h4, h5, _⟩ := A2.ob i b kd cs hg
      refine ⟨a, o, us, kd, h1, h3, h4, hh.1, by rw [h5.len]; exact hh.2.2, by rw [h5.len]; exact hh.2.1, fun o' ho => ?_⟩
      obtain ⟨A3, S3⟩ := A2.putFd hg h1 h5 ho F2
      exact kk m2 σ _ A3 (S2.trans S3)
    · cases e
  · cases e
theorem ss_putF {Ca : Addr} (hC : X.mg C = some (.ref Ca)) (cl : Cls X.K Ca) (na : NoAttr X.K Ca f) (ho : PE X (.Name y p) (tVar i)) (he : SE X c e fe) (hs : swapsWith e (some (.Attribute (.Name y p) f pos)) pos'.line X.env = pure false := by rfl) :
    SS X c (.Assign [.Attribute (.Name y p) f pos] e pos') (sPut i n (.at C f) fe) := (ps_fld ho he hs).imp fun D σ H q => put_ok q fun v H1 ⟨a, o, us, k, h1, h2, h3, hk, hl, hn, kq⟩ => by
  cases k with
  | li => cases hk
  | di ks => cases hk
  | ns C' ks =>
    obtain ⟨hk1, hk2⟩ := (Bool.and_eq_true _ _).mp hk
    have e := of_decide_eq_true hk1
    subst e
    obtain ⟨k1, k2, Ca', dx, hC', rfl⟩ := h3
    have hC2 := hC
    rw [hC'] at hC2
    cases hC2
    refine ⟨_, h1, a, Ca, dx, _, rfl, h2, cl, na, by rw [List.length_zip]; exact Nat.lt_of_le_of_lt (Nat.min_le_right _ _) (Nat.lt_of_le_of_lt hl (by decide)), ?_⟩
    rw [putF_zip k1 (kAt_get hk2) k2]
    exact kq _ ⟨k1, by rw [List.length_set]; exact k2, Ca, dx, hC', rfl⟩
end
end Sm

/-! ## the lists that are parts: append, pop, insert, stores -/
namespace Sm
open PySem L2
section
variable {X : Cx} {c : C0} {e o ix : Expr} {fe fi : G → Option (R × G)} {i n kk kn : Nat} {z : Str} {y f C : Str} {p pk pos pos' apos cpos pn pl : Pos} {K0 : Nat} {κ : Ky} {st : Stmt}
/-- the list at part n, its address -/
def flAt (g : G) (i n : Nat) (κ : Ky) : Option (Addr × List D) := match g[i]? with
  | some (.ob _ k cs) => if keyIs k n κ = true then match cs[n]? with
    | some (.fl q l) => some (q, l)
    | _ => none else none
  | _ => none
/-- that list, written -/
def flSet (g : G) (i n : Nat) (q : Addr) (l : List D) : G := match g[i]? with
  | some (.ob b k cs) => g.set i (.ob b k (cs.set n (.fl q l)))
  | _ => g
theorem flAt_inv {g : G} {q : Addr} {l : List D} (h : flAt g i n κ = some (q, l)) : ∃ b k cs, g[i]? = some (.ob b k cs) ∧ keyIs k n κ = true ∧ cs[n]? = some (.fl q l) := by
  unfold flAt at h
  split at h
  · split at h
    · split at h
      · cases h
        exact ⟨_, _, _, ‹_›, ‹_›, ‹_›⟩
      · cases h
    · cases h
  · cases h
theorem fl_ok {K : PySem.W.Frag} {mg : Str → Option Value} {m : List Addr} {g : G} {σ : St} {H : Hp} {q : Addr} {l : List D} (A : Abs K mg c m g σ H) (h : flAt g i n κ = some (q, l)) : q ∈ m ∧ ∃ ws, H q = some (.lst ws) ∧ FzL K mg m H ws l ∧ tyV K "list" (.ref q) H ∧
    ∀ ws' l', FzL K mg m H ws' l' → Abs K mg c m (flSet g i n q l') σ (upd H q (.lst ws')) ∧ Stp m g σ H m (flSet g i n q l') σ (upd H q (.lst ws')) := by
  obtain ⟨b, k, cs, hg, hk, hn⟩ := flAt_inv h
  obtain ⟨a, o, us, h1, h2, h3, h4, h5, _⟩ := A.ob i b k cs hg
  obtain ⟨v, h6, h7, h8, ws, h9, h10⟩ := h5.get hn
  refine ⟨h8, ws, h9, h10, .inl ⟨rfl, ws, .inl (.of h9)⟩, fun ws' l' hw => ?_⟩
  have := A.putFl hg hn hw
  unfold flSet
  rw [hg]
  exact this
theorem PartE.to (h : PartE X c o i n κ) : ∃ t, PE X o t ∧ ∀ (m : List Addr) (g : G) (σ : St) (H : Hp) (Q : VK) (q : Addr) (l : List D), Abs X.K X.mg c m g σ H → flAt g i n κ = some (q, l) → Q (.ref q) H → t σ H Q := by
  obtain ⟨t, h1, h2⟩ := h.ex
  refine ⟨t, h1, fun m g σ H Q q l A hf hq => ?_⟩
  obtain ⟨b, k, cs, hg, hk, hn⟩ := flAt_inv hf
  exact h2 m g σ H Q b k cs _ A hg hk hn fun v hv => by rw [hv.1]; exact hq
def eAppP (i n : Nat) (κ : Ky) (fe : G → Option (R × G)) : G → Option (R × G) := fun g => match flAt g i n κ with
  | some (q, _) => (fe g).bind fun p => (frz p.2 p.1).bind fun s => match flAt s.2 i n κ with
    | some (q', l) => if q' = q ∧ l.length ≤ 100000 then some (.d .non, flSet s.2 i n q (l ++ [s.1])) else none
    | _ => none
  | _ => none
def ePopAtP (i n : Nat) (κ : Ky) (fe : G → Option (R × G)) : G → Option (R × G) := fun g => match flAt g i n κ with
  | some (q, _) => (fe g).bind fun p => match p.1, flAt p.2 i n κ with
    | .d (.int j), some (q', l) => if q' = q ∧ 0 ≤ j ∧ j < 100000 then match l[j.toNat]? with
      | some d => some (.d d, flSet p.2 i n q (l.eraseIdx j.toNat))
      | none => none else none
    | _, _ => none
  | _ => none
theorem se_popAtP (h : PartE X c o i n κ) (he : SE X c e fe)
    (hbase : attributeBase o "pop" X.env (eval o X.env) = eval o X.env := by rfl)
    (hfew : ((backTo pos (starEach [e] X.env)).all (fun x => !x.1) && (backToKw pos (keywordEach [] X.env)).all (fun x => x.1.isSome)
      && decide (([e] : List Expr).length + ([] : List Keyword).length + (if ([] : List Keyword).isEmpty then 0 else 1) < 30)) = true := by rfl)
    (hline : (apos.endLine == pos.line) = true := by rfl) (hs : starEach [e] X.env = (false, eval e X.env) :: starEach [] X.env := by rfl) (hplain : (backTo pos (starEach [] X.env)).any (·.1) = false := by rfl) :
    SE X c (.Call (.Attribute o "pop" apos) [e] [] pos) (ePopAtP i n κ fe) := by
  obtain ⟨t, ho, ht⟩ := h.to
  refine (pe_bm PySem.F.plainAttrs_list PySem.F.slot_list_pop PySem.F.type_list_pop mt_popAt ho (pa_cons he pa_nil hs) hbase hfew hline hs hplain).imp fun σ H Q q => ?_
  obtain ⟨m, g, r, g', A, e, k⟩ := q
  unfold ePopAtP at e
  split at e
  · rename_i q0 l0 hf
    obtain ⟨⟨r1, g1⟩, e1, e⟩ := Option.bind_eq_some_iff.mp e
    dsimp only at e
    split at e
    · rename_i j q1 l hf2
      split at e
      · rename_i hh
        obtain ⟨rfl, hz⟩ := hh
        split at e
        · rename_i d hd
          cases e
          refine ht m g σ H _ _ _ A hf ⟨(fl_ok A hf).2.choose_spec.2.2.1, m, g, _, g1, A, e1, fun v1 m1 H1 A1 S1 V1 N1 => ?_⟩
          have V1 : Fz X.K X.mg m1 H1 v1 (.int j) := V1
          cases V1
          obtain ⟨hm, ws, h3, h4, _, h5⟩ := fl_ok A1 hf2
          obtain ⟨v, h7, h8⟩ := h4.get hd
          obtain ⟨A3, S3⟩ := h5 _ _ (h4.erase j.toNat)
          exact ⟨q1, ws, j, j.toNat, v, rfl, rfl, h3, by omega, by omega, seqIx hz.1 (lt_of_get h7), h7, k v m1 _ A3 (S1.trans S3) (h8.updM hm) fun _ z => nomatch z⟩
        · cases e
      · cases e
    · cases e
  · cases e
theorem FzL.insert {K : PySem.W.Frag} {mg : Str → Option Value} {m : List Addr} {H : Hp} {v : V} {d : D} {vs : List V} {ds : List D} (h : FzL K mg m H vs ds) (hv : Fz K mg m H v d) (n : Nat) : FzL K mg m H (vs.take n ++ [v] ++ vs.drop n) (ds.take n ++ [d] ++ ds.drop n) :=
  FzL.app (FzL.app (h.take n) (.one hv)) (h.drop n)
/-- part.insert(index, item) -/
def eInsP (i n : Nat) (κ : Ky) (fi fe : G → Option (R × G)) : G → Option (R × G) := fun g => match flAt g i n κ with
  | some (q, _) => (fi g).bind fun p => (fe p.2).bind fun s => (frz s.2 s.1).bind fun u => match p.1, flAt u.2 i n κ with
    | .d (.int j), some (q', l) => if q' = q ∧ 0 ≤ j ∧ j < 100000 ∧ l.length ≤ 100000 then some (.d .non, flSet u.2 i n q (l.take j.toNat ++ [u.1] ++ l.drop j.toNat)) else none
    | _, _ => none
  | _ => none
theorem se_insP (h : PartE X c o i n κ) (hi : SE X c ix fi) (he : SE X c e fe)
    (hbase : attributeBase o "insert" X.env (eval o X.env) = eval o X.env := by rfl)
    (hfew : ((backTo pos (starEach [ix, e] X.env)).all (fun x => !x.1) && (backToKw pos (keywordEach [] X.env)).all (fun x => x.1.isSome)
      && decide (([ix, e] : List Expr).length + ([] : List Keyword).length + (if ([] : List Keyword).isEmpty then 0 else 1) < 30)) = true := by rfl)
    (hline : (apos.endLine == pos.line) = true := by rfl) (hs : starEach [ix, e] X.env = (false, eval ix X.env) :: starEach [e] X.env := by rfl) (hs1 : starEach [e] X.env = (false, eval e X.env) :: starEach [] X.env := by rfl) (hplain : (backTo pos (starEach [e] X.env)).any (·.1) = false := by rfl) :
    SE X c (.Call (.Attribute o "insert" apos) [ix, e] [] pos) (eInsP i n κ fi fe) := by
  obtain ⟨t, ho, ht⟩ := h.to
  refine (pe_bm PySem.F.plainAttrs_list PySem.F.slot_list_insert PySem.F.type_list_insert mt_insert ho (pa_cons hi (pa_cons he pa_nil hs1) hs) hbase hfew hline hs hplain).imp fun σ H Q q => ?_
  obtain ⟨m, g, r, g', A, e, k⟩ := q
  unfold eInsP at e
  split at e
  · rename_i q0 l0 hf
    obtain ⟨⟨r1, g1⟩, e1, ea⟩ := Option.bind_eq_some_iff.mp e
    obtain ⟨⟨r2, g2⟩, e2, eb⟩ := Option.bind_eq_some_iff.mp ea
    obtain ⟨⟨d, g3⟩, e3, ec⟩ := Option.bind_eq_some_iff.mp eb
    clear e ea eb
    dsimp only at ec
    split at ec
    · rename_i j q1 l hf2
      split at ec
      · rename_i hh
        obtain ⟨rfl, hz, hz2, hl⟩ := hh
        cases ec
        refine ht m g σ H _ _ _ A hf ⟨(fl_ok A hf).2.choose_spec.2.2.1, m, g, _, g1, A, e1, fun v1 m1 H1 A1 S1 V1 N1 => ⟨m1, g1, r2, g2, A1, e2, fun v2 m2 H2 A2 S2 V2 N2 => ?_⟩⟩
        have V1 : Fz X.K X.mg m1 H1 v1 (.int j) := V1
        cases V1
        obtain ⟨m3, A3, S3, F3, _⟩ := frz_ok S2 A2 V2.w N2 e3
        obtain ⟨hm, ws, h3, h4, _, h5⟩ := fl_ok A3 hf2
        obtain ⟨A4, S4⟩ := h5 _ _ (h4.insert F3 j.toNat)
        exact ⟨q1, ws, j, v2, rfl, rfl, h3, by rw [h4.length]; exact lt_size hl, hz, by omega, k .non m3 _ A4 ((S1.trans S3).trans S4) .non fun _ z => nomatch z⟩
      · cases ec
    · cases ec
  · cases e
/-- part[e1] = e2 -/
def sSetIxP (i n : Nat) (κ : Ky) (fi fe : G → Option (R × G)) : G → Option O := fun g => (fe g).bind fun p => (frz p.2 p.1).bind fun s => match flAt s.2 i n κ with
  | some (q, _) => (fi s.2).bind fun u => match u.1, flAt u.2 i n κ with
    | .d (.int j), some (q', l) => if q' = q then match ixN l.length j with
      | some j' => some (.nx (flSet u.2 i n q (l.set j' s.1)))
      | none => none else none
    | _, _ => none
  | _ => none
/-- d['k'] += e, d[k] an int -/
def sAugP (i n : Nat) (κ : Ky) (fe : G → Option (R × G)) : G → Option O := fun g => match g[i]? with
  | some (.ob _ k cs) => match cs[n]? with
    | some (.fd (.int a)) => if keyIs k n κ = true then match fe g with
      | some (.d (.int w), g') => match g'[i]? with
        | some (.ob b k' cs') => if keyIs k' n κ = true ∧ n < cs'.length ∧ cs'.length ≤ 900 then some (.nx (g'.set i (.ob b k' (cs'.set n (.fd (.int (a + w))))))) else none
        | _ => none
      | _ => none else none
    | _ => none
  | _ => none
end
end Sm

/-! ## composites that are made -/
namespace Sm
open PySem L2
/-- a part without its address -/
inductive PF where
  | pd (d : D) | pl (l : List D)
def strip : List F → List PF
  | [] => []
  | .fd d :: cs => .pd d :: strip cs
  | .fl _ l :: cs => .pl l :: strip cs
section
variable {K : PySem.W.Frag} {mg : Str → Option Value} {c : C0} {m m1 m2 : List Addr} {g g1 g2 : G} {σ σ1 σ2 : St} {H H1 H2 : Hp} {v : V} {r : R} {d : D}
theorem Abs.moreL (A : Abs K mg c m g σ H) (x : Ext H H1) {l : List Addr} (hp : ∀ p ∈ l, H p = none) (hq : ∀ p ∈ l, H1 p ≠ none) : Abs K mg c (l ++ m) g σ H1 := by
  have k : ∀ a o, a ∉ m → H a = some o → a ∉ l ++ m ∧ H1 a = some o := fun a o n e => ⟨fun z => (List.mem_append.mp z).elim (fun z => by rw [hp a z] at e; cases e) n, x a o e⟩
  refine ⟨A.len, fun i d h => let ⟨v, h1, h2⟩ := A.fz i d h; ⟨v, h1, h2.map k⟩, fun i b l h => let ⟨q, vs, h1, h2, h3, h4, h5⟩ := A.ol i b l h; ⟨q, vs, h1, List.mem_append_right _ h2, x _ _ h3, h4.map k, h5⟩, A.nn, fun a h => ?_, (A.ext x).keep, fun a h => ⟨List.mem_append_right _ (A.sub a h).1, (A.sub a h).2⟩, A.pas, A.pin, fun i b kk cs h => ?_, A.pqs, fun i d h => ?_⟩
  · rcases List.mem_append.mp h with h | h
    · exact hq a h
    · exact (A.ext x).trk a h
  · obtain ⟨q, o, vs, h1, h2, h3, h4, h5, h6, h7⟩ := A.ob i b kk cs h
    refine ⟨q, o, vs, h1, List.mem_append_right _ h2, x _ _ h3, h4, h5.map k fun a z => ⟨List.mem_append_right _ (h5.mem a z).1, ?_⟩, h6, h7⟩
    cases e : H a with
    | none => exact absurd e (h5.mem a z).2
    | some o' => exact x a o' e
  · obtain ⟨h1, h2, v, h3, h4⟩ := A.xs i d h
    exact ⟨h1, (k _ _ h2 h3).1, v, x _ _ h3, h4.map k⟩
theorem Stp.moreL (x : Ext H H1) {l : List Addr} (hp : ∀ p ∈ l, H p = none) : Stp m g σ H (l ++ m) g σ H1 := ⟨fun a h => by
  rcases List.mem_append.mp h with h | h
  · exact .inr (hp a h)
  · exact .inl h, fun a o _ h => x a o h, fun _ h _ => .inl (List.mem_append_right _ h), fun _ h => .inl h, (Stp.ext (m := m) (g := g) (σ := σ) x).tk⟩
/-- v is a composite that nobody owns; its addresses were free or owned at the start -/
def NewOb (K : PySem.W.Frag) (mg : Str → Option Value) (c : C0) (g0 : G) (σ0 : St) (H0 : Hp) (m : List Addr) (g : G) (σ : St) (H : Hp) (v : V) (k : OK) (cs : List F) : Prop :=
  ∃ p o vs, v = .ref p ∧ p ∈ m ∧ H p = some o ∧ HasOb mg o vs k ∧ CFs K mg m H vs cs ∧ (p :: qs cs).Nodup ∧ ∀ a, (a = p ∨ a ∈ qs cs) → ¬ Own g σ a ∧ c.H0 a = none ∧ (Own g0 σ0 a ∨ H0 a = none)
theorem NewOb.store {i : Nat} {k : OK} {cs : List F} {m0 : List Addr} {g0 : G} {σ0 : St} {H0 : Hp} (S : Stp m0 g0 σ0 H0 m g σ H) (A : Abs K mg c m g σ H) (hn : notT g i = true) (h : NewOb K mg c g0 σ0 H0 m g σ H v k cs) :
    Abs K mg c m (g.set i (.ob false k cs)) (σ.set i (some v)) H ∧ Stp m0 g0 σ0 H0 m (g.set i (.ob false k cs)) (σ.set i (some v)) H := by
  obtain ⟨p, o, us, rfl, hm, hp, ho, hc, nd, fr⟩ := h
  obtain ⟨hi, hn, hn'⟩ := notT_lt hn
  have hself : (σ.set i (some (.ref p)))[i]? = some (some (.ref p)) := List.getElem?_set_self (by rw [← A.len]; exact hi)
  have mine : ∀ a, SOwn (.ob false k cs) (σ.set i (some (.ref p)))[i]? a → a = p ∨ a ∈ qs cs := fun a h => by
    rcases h with h | h
    · rw [hself] at h; cases h; exact .inl rfl
    · exact .inr h
  refine ⟨⟨by rw [List.length_set, List.length_set]; exact A.len, fun j x e => ?_, fun j b l e => ?_, fun j kk s t q e e' z z' => ?_, A.trk, A.keep, A.sub, A.pas_set hn hn', fun j v h => (get_set h).elim (fun z => by cases z.2) fun z => by rw [List.getElem?_set_ne z.1]; exact A.pin j v z.2, fun j b kk cs' e => ?_, A.pqs, fun j x e => ?_⟩, ⟨S.fr, S.kp, S.mo, fun a z => ?_, S.tk⟩⟩
  · rcases get_set e with ⟨rfl, q⟩ | ⟨ne, q⟩
    · cases q
    · rw [List.getElem?_set_ne ne]
      exact A.fz j x q
  · rcases get_set e with ⟨rfl, q⟩ | ⟨ne, q⟩
    · cases q
    · rw [List.getElem?_set_ne ne]
      exact A.ol j b l q
  · rcases get_set e with ⟨rfl, w⟩ | ⟨ne, w⟩
    · cases w
      rcases get_set e' with ⟨rfl, w'⟩ | ⟨ne', w'⟩
      · rfl
      · rw [List.getElem?_set_ne ne'] at z'
        exact absurd ⟨kk, _, w', z'⟩ (fr q (mine q z)).1
    · rcases get_set e' with ⟨rfl, w'⟩ | ⟨ne', w'⟩
      · cases w'
        rw [List.getElem?_set_ne ne] at z
        exact absurd ⟨j, _, w, z⟩ (fr q (mine q z')).1
      · rw [List.getElem?_set_ne ne] at z
        rw [List.getElem?_set_ne ne'] at z'
        exact A.nn j kk _ _ q w w' z z'
  · rcases get_set e with ⟨rfl, q⟩ | ⟨ne, q⟩
    · cases q
      exact ⟨p, o, us, hself, hm, hp, ho, hc, nd, (fr p (.inl rfl)).2.1, fun q z => (fr q (.inr z)).2.1⟩
    · rw [List.getElem?_set_ne ne]
      exact A.ob j b kk cs' q
  · rcases get_set e with ⟨rfl, q⟩ | ⟨ne, q⟩
    · cases q
    · rw [List.getElem?_set_ne ne]
      exact A.xs j x q
  · obtain ⟨j, s, h1, h2⟩ := z
    rcases get_set h1 with ⟨rfl, e⟩ | ⟨ne, e⟩
    · cases e
      exact (fr a (mine a h2)).2.2
    · rw [List.getElem?_set_ne ne] at h2
      exact S.ow a ⟨j, s, e, h2⟩
/-! ### a slot forgotten -/
theorem own_lose {i : Nat} {a : Addr} (h : Own (g.set i .un) σ a) : Own g σ a := by
  obtain ⟨j, s, h1, h2⟩ := h
  rcases get_set h1 with ⟨_, e⟩ | ⟨_, e⟩
  · cases e; exact h2.elim
  · exact ⟨j, s, e, h2⟩
theorem Abs.lose {i : Nat} (A : Abs K mg c m g σ H) (hp : c.pa i = none) : Abs K mg c m (g.set i .un) σ H := by
  refine ⟨by rw [List.length_set]; exact A.len, fun j x e => ?_, fun j b l e => ?_, fun j k s t q e e' z z' => ?_, A.trk, A.keep, A.sub, fun j p e => ?_, fun j v e => ?_, fun j b k cs e => ?_, A.pqs, fun j x e => ?_⟩
  · exact (get_set e).elim (fun z => by cases z.2) fun z => A.fz j x z.2
  · exact (get_set e).elim (fun z => by cases z.2) fun z => A.ol j b l z.2
  · rcases get_set e with ⟨_, w⟩ | ⟨_, w⟩
    · cases w; exact z.elim
    · rcases get_set e' with ⟨_, w'⟩ | ⟨_, w'⟩
      · cases w'; exact z'.elim
      · exact A.nn j k _ _ q w w' z z'
  · have ne : i ≠ j := fun z => by rw [← z, hp] at e; cases e
    rw [List.getElem?_set_ne ne]
    exact A.pas j p e
  · exact (get_set e).elim (fun z => by cases z.2) fun z => A.pin j v z.2
  · exact (get_set e).elim (fun z => by cases z.2) fun z => A.ob j b k cs z.2
  · exact (get_set e).elim (fun z => by cases z.2) fun z => A.xs j x z.2
theorem Stp.forget {i : Nat} (S : Stp m g σ H m1 g1 σ1 H1) : Stp m g σ H m1 (g1.set i .un) σ1 H1 := ⟨S.fr, S.kp, S.mo, fun a h => S.ow a (own_lose h), S.tk⟩
theorem VR.forget {i : Nat} (h : VR K mg c m g σ H v r) : VR K mg c m (g.set i .un) σ H v r := by
  cases r with
  | nw l =>
    obtain ⟨p, vs, e, hm, hp, hv, ho, h0⟩ := h
    exact ⟨p, vs, e, hm, hp, hv, fun w => ho (own_lose w), h0⟩
  | d x => exact h
  | sl j => exact h
  | pq j q => exact h
theorem un_get {n i : Nat} {s : Slot} (h : (List.replicate n Slot.un)[i]? = some s) : s = .un := by
  rw [List.getElem?_replicate] at h
  split at h
  · cases h; rfl
  · cases h
theorem own_all {n : Nat} {a : Addr} (h : Own (List.replicate n Slot.un) σ a) : False := by
  obtain ⟨j, s, h1, h2⟩ := h
  rw [un_get h1] at h2
  exact h2
theorem Abs.loseAll (A : Abs K mg c m g σ H) (hp : ∀ i, c.pa i = none) : Abs K mg c m (List.replicate g.length .un) σ H := by
  refine ⟨by rw [List.length_replicate]; exact A.len, fun j x e => ?_, fun j b l e => ?_, fun j k s t q e e' z z' => ?_, A.trk, A.keep, A.sub, fun j p e => ?_, fun j v e => ?_, fun j b k cs e => ?_, A.pqs, fun j x e => ?_⟩
  · cases un_get e
  · cases un_get e
  · rw [un_get e] at z; exact z.elim
  · rw [hp j] at e; cases e
  · cases un_get e
  · cases un_get e
  · cases un_get e
theorem Stp.loseAll {n : Nat} (S : Stp m g σ H m1 g1 σ1 H1) : Stp m g σ H m1 (List.replicate n .un) σ1 H1 := ⟨S.fr, S.kp, S.mo, fun a h => (own_all h).elim, S.tk⟩
theorem VR.loseAll {n : Nat} (h : VR K mg c m g σ H v r) : VR K mg c m (List.replicate n .un) σ H v r := by
  cases r with
  | nw l =>
    obtain ⟨p, vs, e, hm, hp, hv, ho, h0⟩ := h
    exact ⟨p, vs, e, hm, hp, hv, fun w => own_all w, h0⟩
  | d x => exact h
  | sl j => exact h
  | pq j q => exact h
/-- all that the slots hold is forgotten -/
def forgetO : O → O
  | .nx g => .nx (List.replicate g.length .un)
  | .rt r g => .rt r (List.replicate g.length .un)
  | .bk g => .bk (List.replicate g.length .un)
  | .ct g => .ct (List.replicate g.length .un)
  | .xc C x g => .xc C x (List.replicate g.length .un)
theorem Fin.forget {D : Ends} {o : O} (hp : ∀ i, c.pa i = none) (h : Fin K mg c D m g σ H (forgetO o)) : Fin K mg c D m g σ H o := by
  cases o with
  | nx g1 => exact fun m' σ' H' A S => h m' σ' H' (A.loseAll hp) S.loseAll
  | bk g1 => exact fun m' σ' H' A S => h m' σ' H' (A.loseAll hp) S.loseAll
  | ct g1 => exact fun m' σ' H' A S => h m' σ' H' (A.loseAll hp) S.loseAll
  | rt r g1 => exact fun v m' σ' H' A V => h v m' σ' H' (A.loseAll hp) V.loseAll
  | xc C x g1 => exact fun cls d m' σ' H' A S X => h cls d m' σ' H' (A.loseAll hp) S.loseAll X
theorem Fin.from {D : Ends} {o : O} (S1 : Stp m g σ H m1 g1 σ1 H1) (k : Fin K mg c D m g σ H o) : Fin K mg c D m1 g1 σ1 H1 o := by
  cases o with
  | nx g2 => exact fun m2 σ2 H2 A2 S2 => k m2 σ2 H2 A2 (S1.trans S2)
  | bk g2 => exact fun m2 σ2 H2 A2 S2 => k m2 σ2 H2 A2 (S1.trans S2)
  | ct g2 => exact fun m2 σ2 H2 A2 S2 => k m2 σ2 H2 A2 (S1.trans S2)
  | xc C x g2 => exact fun cls d m2 σ2 H2 A2 S2 => k cls d m2 σ2 H2 A2 (S1.trans S2)
  | rt r g2 => exact k
end
/-- an expression that makes a composite -/
abbrev MN := G → Option ((OK × List PF) × G)
def tN (K : PySem.W.Frag) (mg : Str → Option Value) (c : C0) (f : MN) : TE := fun σ H Q => ∃ m g k ps g', Abs K mg c m g σ H ∧ f g = some ((k, ps), g') ∧
  ∀ v m' H' cs, strip cs = ps → Abs K mg c m' g' σ H' → Stp m g σ H m' g' σ H' → NewOb K mg c g σ H m' g' σ H' v k cs → Q v H'
abbrev SN (X : Cx) (c : C0) (e : Expr) (f : MN) : Prop := PE X e (tN X.K X.mg c f)
section
variable {X : Cx} {c : C0} {e : Expr} {fe : MN} {fr : G → Option O} {rest : List Stmt} {pos pos' : Pos} {i : Nat} {x : Str}
end
/-! ### defs that make composites -/
structure RetN (K : PySem.W.Frag) (mg : Str → Option Value) (m : List Addr) (H : Hp) (k : OK) (ps : List PF) (v : V) (H' : Hp) : Prop where
  keep : ∀ a o, H a = some o → H' a = some o
  ob : ∃ p o vs cs, v = .ref p ∧ H' p = some o ∧ HasOb mg o vs k ∧ strip cs = ps ∧ CFs K mg ((p :: qs cs) ++ m) H' vs cs ∧ (p :: qs cs).Nodup ∧ ∀ a ∈ p :: qs cs, H a = none
def spN (K : PySem.W.Frag) (mg : Str → Option Value) (n : Nat) (F : MN) : Sp := fun vs H Q _ => vs.length = n ∧ ∃ m ds k ps g', FzL K mg m H vs ds ∧ (∀ a ∈ m, H a ≠ none) ∧ F (ds.map .fz) = some ((k, ps), g') ∧ ∀ v H', RetN K mg m H k ps v H' → Q v H'
section
variable {X : Cx} {c : C0} {e : Expr} {fe : MN} {f : G → Option O} {st : Stmt} {rest : List Stmt} {pos : Pos}
end
section
variable {P : Program} {w : World} {K : PySem.W.Frag} {mg : Str → Option Value} {base : Heap}
end
/-- a call of such a def -/
def noPs : List PF → Bool
  | [] => true
  | .pd d :: ps => noL d && noPs ps
  | .pl l :: ps => noLs l && noPs ps
theorem noPs_noFs : ∀ {cs : List F}, noPs (strip cs) = true → noFs cs = true
  | [], _ => rfl
  | .fd d :: cs, h => by
    obtain ⟨h1, h2⟩ := (Bool.and_eq_true _ _).mp h
    exact (Bool.and_eq_true _ _).mpr ⟨h1, noPs_noFs h2⟩
  | .fl q l :: cs, h => by
    obtain ⟨h1, h2⟩ := (Bool.and_eq_true _ _).mp h
    exact (Bool.and_eq_true _ _).mpr ⟨h1, noPs_noFs h2⟩
def eCallN (F : MN) (fs : G → Option (List R × G)) : MN := fun g => (fs g).bind fun p => (ldsC p.2 p.1).bind fun ds => (F (ds.map .fz)).bind fun q => if noPs q.1.2 = true then some (q.1, p.2) else none
section
variable {X : Cx} {c : C0} {e : Expr} {es : List Expr} {fs : G → Option (List R × G)} {pos p : Pos} {F : MN} {n : Nat} {σ : St} {H : Hp} {Q : VK}
theorem callN_ok (hn : ∀ g r g', F g = some (r, g') → g.length = n) (q : tN X.K X.mg c (eCallN F fs) σ H Q) : tA X.K X.mg c fs σ H fun vs H1 => spN X.K X.mg n F (vs ++ []) H1 Q E0 := by
  obtain ⟨m, g, k, ps, g', A, e, kq⟩ := q
  unfold eCallN at e
  obtain ⟨⟨rs, g1⟩, e1, e2⟩ := Option.bind_eq_some_iff.mp e
  obtain ⟨ds, e3, e4⟩ := Option.bind_eq_some_iff.mp e2
  obtain ⟨⟨⟨k1, ps1⟩, gc⟩, e5, e6⟩ := Option.bind_eq_some_iff.mp e4
  dsimp only at e6
  split at e6
  · rename_i hno
    cases e6
    refine ⟨m, g, rs, g', A, e1, fun vs m1 H1 A1 S1 V1 N1 => ?_⟩
    show spN X.K X.mg n F (vs ++ []) H1 Q E0
    rw [List.append_nil]
    obtain ⟨m2, A2, S2, M2, V2, W2⟩ := dropNw S1 A1 V1.w N1
    have F2 := args_fz A2 (is := lent rs) V2 (fun _ z => z) W2 e3
    have hl : vs.length = n := by
      have := hn _ _ _ e5
      rw [List.length_map, ← F2.length] at this
      exact this
    refine ⟨hl, _, ds, k, ps, gc, F2, fun a h => A2.trk a (mem_lessL.mp h).1, e5, fun v H2 ret => ?_⟩
    have x : Ext H1 H2 := ret.keep
    obtain ⟨p, o, us, cs, rfl, hp, ho, hcs, hc, nd, fr⟩ := ret.ob
    have hq : ∀ a ∈ p :: qs cs, H2 a ≠ none := fun a h => by
      rcases List.mem_cons.mp h with h | h
      · rw [h, hp]; exact fun z => nomatch z
      · exact (hc.mem a h).2
    have A3 := A2.moreL x fr hq
    have S3 : Stp m2 g' σ H1 ((p :: qs cs) ++ m2) g' σ H2 := Stp.moreL x fr
    have no : ∀ a ∈ p :: qs cs, ¬ Own _ σ a := fun a h w => A2.trk a (A2.own_mem w) (fr a h)
    refine kq (.ref p) _ H2 cs hcs A3 (S2.trans S3) ⟨p, o, us, rfl, List.mem_append_left _ List.mem_cons_self, hp, ho, ?_, nd, fun a h => ?_⟩
    · refine CFs.noL (fun a h => ?_) (fun a h => ?_) hc (noPs_noFs (by rw [hcs]; exact hno))
      · rcases List.mem_append.mp h with h | h
        · exact .inl (List.mem_append_left _ h)
        · by_cases z : a ∈ bAd g' σ (lent rs)
          · obtain ⟨j, s, _, h1, h2⟩ := bAd_of z
            obtain ⟨o, h3, h4⟩ := A2.nt h1 h2
            exact .inr ⟨o, x _ _ h3, h4⟩
          · exact .inl (List.mem_append_right _ (mem_lessL.mpr ⟨h, z⟩))
      · rcases List.mem_append.mp h with h | h
        · exact List.mem_append_left _ h
        · exact List.mem_append_right _ (mem_lessL.mp h).1
    · have h : a ∈ p :: qs cs := List.mem_cons.mpr h
      refine ⟨no a h, A2.h0 (fr a h), .inr ?_⟩
      cases z : H a with
      | none => rfl
      | some o => exact absurd (fr a h) (S2.tk a (by rw [z]; exact fun z => nomatch z))
  · cases e6
variable {k : Nat} {f : Addr} {fd : FuncData} {ps : List Str} {x : Str} {nn : Nat} {B : MN}
end
end Sm

/-! ## displays that make composites: lists of slots are moved into them -/
namespace Sm
open PySem L2
section
variable {K : PySem.W.Frag} {mg : Str → Option Value} {c : C0} {m m1 m2 : List Addr} {σ σ1 σ2 : St} {H H1 H2 : Hp} {v : V} {r : R} {d : D}
end
section
variable {X : Cx} {c : C0} {e : Expr} {es : List Expr} {fe : G → Option (R × G)} {fs : G → Option (List R × G)} {pos : Pos} {keys : List (Option Expr)} {vals : List Expr}
end
end Sm

/-! ## comprehensions of two clauses -/
namespace Sm
open PySem L2
/-! ### what is walked stands still as long as what is frozen stands -/
section
variable (K : PySem.W.Frag) (mg : Str → Option Value) (c : C0)
def FzK (m : List Addr) (H : Hp) (m' : List Addr) (H' : Hp) : Prop := ∀ a o, a ∉ m → H a = some o → a ∉ m' ∧ H' a = some o
end
theorem FzK.refl {m : List Addr} {H : Hp} : FzK m H m H := fun _ _ n e => ⟨n, e⟩
theorem FzK.trans {m m1 m2 : List Addr} {H H1 H2 : Hp} (a : FzK m H m1 H1) (b : FzK m1 H1 m2 H2) : FzK m H m2 H2 := fun x o n e => b x o (a x o n e).1 (a x o n e).2
section
variable {X : Cx} {c : C0} {tg e : Expr} {fe : G → Option (R × G)}
end
section
variable {X : Cx} {c : C0} {fi fi1 : G → Option (List D × G)} {gf gf1 : D → G → Option G} {ft ft1 : G → Option (Bool × G)} {fe : G → Option (R × G)} {ws ws1 : List Nat}
end
end Sm

namespace Sm
open PySem L2
section
variable {X : Cx} {c : C0} {e ix elt tg iter tg1 iter1 : Expr} {pos : Pos} {fi fi1 : G → Option (List D × G)} {gf gf1 : D → G → Option G} {ft ft1 : G → Option (Bool × G)} {fe fx : G → Option (R × G)} {ws ws1 : List Nat}
/-! ### extend, insert on a list that a slot owns -/
def eExt (i : Nat) (fe : G → Option (R × G)) : G → Option (R × G) := fun g => match g[i]? with
  | some (.ol _ _) => (fe g).bind fun p => match ld p.2 p.1, p.2[i]? with
    | some (.lst z), some (.ol b l) => if l.length + z.length ≤ 100000 then some (.d .non, p.2.set i (.ol b (l ++ z))) else none
    | _, _ => none
  | _ => none
def eIns (i : Nat) (fx fe : G → Option (R × G)) : G → Option (R × G) := fun g => match g[i]? with
  | some (.ol _ _) => (fx g).bind fun p => (fe p.2).bind fun s => (frz s.2 s.1).bind fun u => match p.1, u.2[i]? with
    | .d (.int j), some (.ol b l) => if 0 ≤ j ∧ j < 100000 ∧ l.length ≤ 100000 then some (.d .non, u.2.set i (.ol b (l.take j.toNat ++ [u.1] ++ l.drop j.toNat))) else none
    | _, _ => none
  | _ => none
end
end Sm

/-! ## instances: fields that are read, methods -/
namespace Sm
open PySem L2
theorem FzF.look {K : PySem.W.Frag} {mg : Str → Option Value} {m : List Addr} {H : Hp} {f : Str} {d : D} : ∀ {vs : List (Str × V)} {ds : List (Str × D)}, FzF K mg m H vs ds → ds.lookup f = some d → ∃ v, vs.lookup f = some v ∧ Fz K mg m H v d
  | _, _, .nil, e => by cases e
  | _, _, .cons (f := k) (v := v) (d := x) h t, e => by
    rw [List.lookup_cons] at e
    split at e
    · cases e
      rename_i hb
      exact ⟨v, by rw [List.lookup_cons, hb], h⟩
    · rename_i hb
      obtain ⟨w, h1, h2⟩ := t.look e
      exact ⟨w, by rw [List.lookup_cons, hb]; exact h1, h2⟩
theorem FzF.keys {K : PySem.W.Frag} {mg : Str → Option Value} {m : List Addr} {H : Hp} : ∀ {vs : List (Str × V)} {ds : List (Str × D)}, FzF K mg m H vs ds → vs.map (·.1) = ds.map (·.1)
  | _, _, .nil => rfl
  | _, _, .cons h t => congrArg (_ :: ·) t.keys
theorem lookup_no {α : Type} {m : Str} : ∀ {fs : List (Str × α)}, m ∉ fs.map (·.1) → fs.lookup m = none
  | [], _ => rfl
  | (k, x) :: fs, h => by
    have hb : (m == k) = false := beq_eq_false_iff_ne.mpr fun e => h (by rw [e]; exact List.mem_cons_self)
    rw [List.lookup_cons, hb]
    exact lookup_no fun z => h (List.mem_cons_of_mem _ z)
/-- field n of the frozen instances of C -/
def fldAt : List (Str × D) → Nat → Str → Option D
  | [], _, _ => none
  | p :: _, 0, f => if p.1 = f then some p.2 else none
  | _ :: ps, n + 1, f => fldAt ps n f
theorem fldAt_ok {f : Str} {d : D} : ∀ {ps : List (Str × D)} {n : Nat}, (ps.map (·.1)).Nodup → fldAt ps n f = some d → ps.lookup f = some d
  | [], _, _, h => by cases h
  | p :: ps, 0, nd, h => by
    unfold fldAt at h
    split at h
    · cases h
      rename_i e
      obtain ⟨k, x⟩ := p
      have e : k = f := e
      subst e
      rw [List.lookup_cons, beq_self_eq_true]
    · cases h
  | p :: ps, n + 1, nd, h => by
    obtain ⟨k, x⟩ := p
    obtain ⟨n1, n2⟩ := List.nodup_cons.mp nd
    have h2 := fldAt_ok (ps := ps) (n := n) n2 h
    have hb : (f == k) = false := beq_eq_false_iff_ne.mpr fun e => by
      rw [lookup_no (by rw [e]; exact n1)] at h2; cases h2
    rw [List.lookup_cons, hb]
    exact h2
def eFld (C : Str) (n : Nat) (f : Str) (fo : G → Option (R × G)) : G → Option (R × G) := fun g => match fo g with
  | some (r, g1) => match ld g1 r with
    | some (.ins C' fs) => if C' = C ∧ (fs.map (·.1)).Nodup then (fldAt fs n f).map fun d => (.d d, g1) else none
    | _ => none
  | none => none
section
variable {X : Cx} {c : C0} {e o : Expr} {es : List Expr} {pos apos : Pos} {fo : G → Option (R × G)} {fs : G → Option (List R × G)} {C f mth : Str} {Ca fa : Addr} {n k nn : Nat} {fd : FuncData} {ps : List Str} {B : G → Option O}
theorem vw_ins {K : PySem.W.Frag} {mg : Str → Option Value} {m : List Addr} {H : Hp} {v : V} {C : Str} {fs : List (Str × D)} (h : Vw K mg m H v (.ins C fs)) : Fz K mg m H v (.ins C fs) := h
theorem se_fld (hC : X.mg C = some (.ref Ca)) (cl : Cls X.K Ca) (na : NoAttr X.K Ca f) (ho : SE X c o fo) (hb : attributeBase o f X.env (eval o X.env) = eval o X.env := by rfl) : SE X c (.Attribute o f pos) (eFld C n f fo) := (pe_fld ho hb).imp fun σ H Q q => by
  obtain ⟨m, g, r, g', A, e, k⟩ := q
  unfold eFld at e
  split at e
  · rename_i r1 g1 e1
    split at e
    · rename_i C' fs hl
      split at e
      · rename_i hh
        obtain ⟨rfl, nd⟩ := hh
        obtain ⟨d, h1, h2⟩ := Option.map_eq_some_iff.mp e
        cases h2
        refine ⟨m, g, r1, g', A, e1, fun v m1 H1 A1 S1 V1 N1 => ?_⟩
        have F1 := vw_ins (VR.ld A1 V1 hl)
        cases F1 with
        | ins h e hc t =>
          rename_i a Cb dx fvs
          rw [hC] at hc
          cases hc
          obtain ⟨w, h3, h4⟩ := t.look (fldAt_ok nd h1)
          exact ⟨a, Ca, dx, fvs, w, rfl, e, cl, na, h3, k w m1 H1 A1 S1 h4 fun _ z => nomatch z⟩
      · cases e
    · cases e
  · cases e
/-- r is an instance of C that has no field of that name -/
def recIs (C mth : Str) (g : G) : R → Bool
  | .d (.ins C' fs) => decide (C' = C) && decide (mth ∉ fs.map (·.1))
  | .sl i => match g[i]? with
    | some (.ob _ (.ns C' ks) _) => decide (C' = C) && decide (mth ∉ ks)
    | some (.fz (.ins C' fs)) => decide (C' = C) && decide (mth ∉ fs.map (·.1))
    | _ => false
  | _ => false
theorem rec_ok {m : List Addr} {g : G} {σ : St} {H : Hp} {v : V} {r : R} (hC : X.mg C = some (.ref Ca)) (A : Abs X.K X.mg c m g σ H) (V1 : VR X.K X.mg c m g σ H v r) (h : recIs C mth g r = true) : ∃ a dx fs, v = .ref a ∧ H a = some (.ins Ca dx fs) ∧ fs.lookup mth = none := by
  have fzCase : ∀ {C' : Str} {fs : List (Str × D)}, Fz X.K X.mg m H v (.ins C' fs) → (decide (C' = C) && decide (mth ∉ fs.map (·.1))) = true → ∃ a dx fs, v = .ref a ∧ H a = some (.ins Ca dx fs) ∧ fs.lookup mth = none := fun {C' fs} F h => by
    obtain ⟨h1, h2⟩ := (Bool.and_eq_true _ _).mp h
    have e := of_decide_eq_true h1
    subst e
    cases F with
    | ins h e hc t =>
      rename_i a Cb dx fvs
      rw [hC] at hc
      cases hc
      exact ⟨a, dx, fvs, rfl, e, lookup_no (by rw [t.keys]; exact of_decide_eq_true h2)⟩
  cases r with
  | d x =>
    cases x with
    | ins C' fs => exact fzCase V1 h
    | _ => cases h
  | sl i =>
    have hv : σ[i]? = some (some v) := V1
    unfold recIs at h
    dsimp only at h
    split at h
    · rename_i b C' ks cs hg
      obtain ⟨h1, h2⟩ := (Bool.and_eq_true _ _).mp h
      have e := of_decide_eq_true h1
      subst e
      obtain ⟨p, o, us, h3, h4, h5, ⟨h6, h7, Cb, dx, h8, rfl⟩, _⟩ := A.ob i b _ cs hg
      rw [hv] at h3; cases h3
      rw [hC] at h8
      cases h8
      exact ⟨p, dx, _, rfl, h5, lookup_no (by rw [List.map_fst_zip (Nat.le_of_eq h7)]; exact of_decide_eq_true h2)⟩
    · rename_i C' fs hg
      obtain ⟨w, h1, h2⟩ := A.fz i _ hg
      rw [hv] at h1; cases h1
      exact fzCase h2 h
    · cases h
  | nw l => cases h
  | pq i q => cases h
/-- the arguments of a method: the instance first -/
def recA (C mth : Str) (fo : G → Option (R × G)) (fs : G → Option (List R × G)) : G → Option (List R × G) := fun g => match fo g with
  | some (r, g1) => if recIs C mth g1 r = true then (fs g1).bind fun p => some (r :: p.1, p.2) else none
  | none => none
theorem tA_rec {σ : St} {H : Hp} {QA : List V → Hp → Prop} (hC : X.mg C = some (.ref Ca)) (q : tA X.K X.mg c (recA C mth fo fs) σ H QA) :
    tE X.K X.mg c fo σ H fun x H1 => ∃ a dx fs', x = .ref a ∧ H1 a = some (.ins Ca dx fs') ∧ fs'.lookup mth = none ∧ tA X.K X.mg c fs σ H1 fun vs H2 => QA (x :: vs) H2 := by
  obtain ⟨m, g, rs, g', A, e, k⟩ := q
  unfold recA at e
  split at e
  · rename_i r1 g1 e1
    split at e
    · rename_i hr
      obtain ⟨⟨rs1, g2⟩, e2, e⟩ := Option.bind_eq_some_iff.mp e
      cases e
      refine ⟨m, g, r1, g1, A, e1, fun v m1 H1 A1 S1 V1 N1 => ?_⟩
      obtain ⟨a, dx, fs', h1, h2, h3⟩ := rec_ok hC A1 V1 hr
      refine ⟨a, dx, fs', h1, h2, h3, m1, g1, rs1, _, A1, e2, fun vs m2 H2 A2 S2 V2 N2 => ?_⟩
      exact k (v :: vs) m2 H2 A2 (S1.trans S2) ⟨V1.step A1 S2, V2⟩ ⟨N1, Nws.back S1 N2⟩
    · cases e
  · cases e
theorem tA_nil {σ : St} {H : Hp} {QA : List V → Hp → Prop} (q : tA X.K X.mg c aNil σ H QA) : tNil σ H QA := by
  obtain ⟨m, g, rs, g', A, e, k⟩ := q
  cases e
  exact k [] m H A Stp.refl trivial trivial
abbrev eMeth0 (C mth : Str) (F : G → Option (R × G)) (fo : G → Option (R × G)) (fs : G → Option (List R × G)) : G → Option (R × G) := eCall0 F (recA C mth fo fs)
abbrev eMeth1 (C mth : Str) (F : G → Option (R × G)) (fo : G → Option (R × G)) (fs : G → Option (List R × G)) : G → Option (R × G) := eCall1 F (recA C mth fo fs)
theorem tNil_of {σ : St} {H : Hp} {Q : VK} {sp : Sp} {Ca : Addr} {te : TE} (q : tE X.K X.mg c fo σ H fun x H1 => ∃ a dx fs', x = .ref a ∧ H1 a = some (.ins Ca dx fs') ∧ fs'.lookup mth = none ∧ tA X.K X.mg c aNil σ H1 fun vs H2 => sp (x :: vs ++ []) H2 Q E0) :
    tE X.K X.mg c fo σ H fun x H1 => ∃ a dx fs', x = .ref a ∧ H1 a = some (.ins Ca dx fs') ∧ fs'.lookup mth = none ∧ tNil σ H1 fun vs H2 => sp (x :: (vs ++ [])) H2 Q E0 := by
  obtain ⟨m, g, r, g', A, e, k⟩ := q
  refine ⟨m, g, r, g', A, e, fun v m1 H1 A1 S1 V1 N1 => ?_⟩
  obtain ⟨a, dx, fs', h1, h2, h3, h4⟩ := k v m1 H1 A1 S1 V1 N1
  exact ⟨a, dx, fs', h1, h2, h3, tA_nil h4⟩
theorem se_meth00 {pl : Sem Bool} (hC : X.mg C = some (.ref Ca)) (cl : Cls X.K Ca) (hm : Meth X.K Ca mth fa) (F : FnOk X.prog X.w X.K X.mg X.base CX0 k fa fd ps (spM X.K X.mg n (dM n nn B))) (hr : Room k X.A) (hb : Binds X.K fd ps []) (ho : SE X c o fo)
    (ht : eval (.Call (.Attribute o mth apos) [] [] pos) X.env = (do
      let ov ← eval o X.env
      standAt apos.atName
      let (f, first) ← holding [ov] (getMethod ov mth pl)
      callWith pos f first (backTo pos (starEach [] X.env)) (backToKw pos (keywordEach [] X.env))) := by rfl) :
    SE X c (.Call (.Attribute o mth apos) [] [] pos) (eMeth0 C mth (dM n nn B) fo aNil) := (pe_meth0 ho cl hm F hr hb .nil pass0 ht).imp fun σ H Q q => tNil_of (te := tC .non) (tA_rec hC (call0_ok dM_len q))
theorem se_meth10 {pl : Sem Bool} (hC : X.mg C = some (.ref Ca)) (cl : Cls X.K Ca) (hm : Meth X.K Ca mth fa) (F : FnOk X.prog X.w X.K X.mg X.base CX0 k fa fd ps (spM X.K X.mg n (dM n nn B))) (hr : Room k X.A) (hb : Binds X.K fd ps []) (ho : SE X c o fo)
    (ht : eval (.Call (.Attribute o mth apos) [] [] pos) X.env = (do
      let ov ← eval o X.env
      standAt apos.atName
      let (f, first) ← holding [ov] (getMethod ov mth pl)
      callWith pos f first (backTo pos (starEach [] X.env)) (backToKw pos (keywordEach [] X.env))) := by rfl) :
    SE X c (.Call (.Attribute o mth apos) [] [] pos) (eMeth1 C mth (dM n nn B) fo aNil) := (pe_meth0 ho cl hm F hr hb .nil pass0 ht).imp fun σ H Q q => tNil_of (te := tC .non) (tA_rec hC (call1_ok dM_len q))
end
end Sm

/-! ## instances made: Slice (frozen at once), Form (its lists its own) -/
namespace Sm
open PySem L2
def sliceF (a b l : D) : List (Str × D) := [("skip", a), ("chop", b), ("sizes", l)]
section
variable {X : Cx} {c : C0} {C f E : Addr} {p0 p1 p2 p3 p4 p5 p6 p7 p8 p9 : Pos} {K : PySem.W.Frag}
theorem putF_n1 {f g : Str} {x y : V} (h : f ≠ g) : L2.putF g y [(f, x)] = [(f, x), (g, y)] := by
  unfold L2.putF
  rw [if_neg h]; rfl
theorem putF_n2 {f g k : Str} {x y z : V} (h : f ≠ k) (h' : g ≠ k) : L2.putF k z [(f, x), (g, y)] = [(f, x), (g, y), (k, z)] := by
  unfold L2.putF
  rw [if_neg h, putF_n1 h']
end
theorem fz_seqs {K : PySem.W.Frag} {mg : Str → Option Value} {m : List Addr} {H : Hp} {v : V} {d : D} {l : List D} (h : Fz K mg m H v d) (e : listD [d] = some (.nw l)) : ∃ b ws, v = .ref b ∧ (SqL K H b ws ∨ SqT K H b ws) ∧ FzL K mg m H ws l := by
  cases h with
  | lst h1 h2 t => cases e; exact ⟨_, _, rfl, .inl (.of h2), t⟩
  | sls h1 t =>
    cases e
    rcases h1 with ⟨h1, o, h2⟩ | h1
    · exact ⟨_, _, rfl, .inl (.inl (.inr ⟨o, h2⟩)), t⟩
    · exact ⟨_, _, rfl, .inl (sqL_any h1), t⟩
  | tup h1 t =>
    cases e
    rcases h1 with ⟨_, h1 | ⟨o, h1⟩⟩ | h1
    · exact ⟨_, _, rfl, .inr (.inl (.inl h1)), t⟩
    · exact ⟨_, _, rfl, .inr (.inl (.inr ⟨o, h1⟩)), t⟩
    · exact ⟨_, _, rfl, .inr (sqT_any h1), t⟩
  | _ => cases e
section
variable {X : Cx} {c : C0} {C f : Addr} {fd : FuncData} {ps : List Str} {k : Nat} {e : Expr} {es : List Expr} {pos p : Pos} {fs : G → Option (List R × G)}
end
/-! ### Form -/
section
variable {X : Cx} {c : C0} {C Cs f fS E0' : Addr} {fd fdS : FuncData} {ps psS : List Str} {k : Nat} {pos p : Pos}
end
end Sm

/-! ## a written dict of texts, read -/
namespace Sm
open PySem L2
def eSD (tb : List (Str × Str)) (fi : G → Option (R × G)) : G → Option (R × G) := fun g => match fi g with
  | some (.d (.str z), g1) => (tb.lookup z).map fun s => (.d (.str s), g1)
  | _ => none
section
variable {X : Cx} {c : C0} {i : Expr} {x : Str} {p : Addr} {p0 pos : Pos} {fi : G → Option (R × G)} {tb : List (Str × Str)}
end
section
variable {K : PySem.W.Frag} {w : World} {a : Addr} {es : Array DictEntry} {n : Nat}
theorem kdct_of {x s : Str} {t : Tok} (hl : K.lookup a = some ⟨.type "dict", none, .dict es n, #[]⟩) (hk : PySem.W.KeysLit w.params es.toList) (e : PySem.W.nsIn K a x = some (some (.str s t))) : KDct K w a x (.str s) := ⟨es, n, _, hl, hk, e, ⟨t, rfl⟩⟩
end
end Sm

/-! ## two names are set, the second to a fresh list -/
namespace Sm
open PySem L2
def sParN (i j : Nat) (fa fb : G → Option (R × G)) : G → Option O := fun g => (fa g).bind fun p => match p.1 with
  | .d d => (fb p.2).bind fun q => match q.1 with
    | .nw l => if notT q.2 i = true ∧ notT q.2 j = true then some (.nx ((q.2.set i (.fz d)).set j (.ol false l))) else none
    | _ => none
  | _ => none
section
variable {X : Cx} {c : C0} {a b : Expr} {pos : Pos} {fa fb : G → Option (R × G)}
end
/-- three names are set -/
def sPar3 (i j k : Nat) (fs : G → Option (List R × G)) : G → Option O := fun g => (fs g).bind fun p => match p.1 with
  | [.d d1, .d d2, .d d3] => if notT p.2 i = true ∧ notT p.2 j = true ∧ notT p.2 k = true then some (.nx (((p.2.set i (.fz d1)).set j (.fz d2)).set k (.fz d3))) else none
  | _ => none
section
variable {X : Cx} {c : C0} {a b e : Expr} {pos : Pos} {fs : G → Option (List R × G)}
end
end Sm

/-! ## l.count(x), l.index(x) -/
namespace Sm
open PySem L2 PySem.Spec PyProof.Rows
section
variable {X : Cx} {c : C0} {o e : Expr} {pos : Pos} {fo fe : G → Option (R × G)}
end
section
variable {X : Cx}
end
end Sm

/-! ## a call by keywords of what could raise and does not -/
namespace Sm
open PySem L2
section
variable {X : Cx} {c : C0} {kws : List Keyword} {fs : G → Option (List R × G)}
variable {k : Nat} {f : Addr} {fd : FuncData} {ps ks : List Str} {perm : List Nat} {x : Str} {p pos : Pos} {n nn : Nat} {B : G → Option O}
end
end Sm

/-! ## a def called with no arguments -/
namespace Sm
open PySem PySem.Calls TL L2
section
variable {X : Cx} {c : C0} {k : Nat} {f : Addr} {fd : FuncData} {ps : List Str} {x : Str} {p pos : Pos} {n nn : Nat} {B : G → Option O}
end
end Sm

/-! ## a part of an owned dict by a text that is found only when it runs -/
namespace Sm
open PySem L2
section
variable {X : Cx} {c : C0} {e : Expr} {fe : G → Option (R × G)} {i K0 : Nat} {y : Str} {p pos : Pos}
end
end Sm

/-! ## isinstance(data, a built-in type) -/
namespace Sm
open PySem L2
section
variable {X : Cx} {c : C0} {e : Expr} {fe : G → Option (R × G)} {T : String} {x : Str} {p pos tp : Pos}
end
end Sm

/-! ## a comprehension over an owned list that stays owned -/
namespace Sm
open PySem L2
section
variable {K : PySem.W.Frag} {mg : Str → Option Value} {c : C0} {m : List Addr} {g : G} {σ : St} {H : Hp} {i : Nat} {l : List D} {p : Addr}
end
section
variable {X : Cx} {c : C0} {e : Expr} {i : Nat} {gf : D → G → Option G} {ft : G → Option (Bool × G)} {fe : G → Option (R × G)} {vs : List Nat}
end
end Sm

/-! ## list(zip(a, b)) -/
namespace Sm
open PySem L2 PyProof.Rows
section
variable {P : Program} {w : World} {A : Around} {E : Value → Shared → Prop}
/-- the zip between two draws: S, the list that is filled, is apart -/
structure ZipSt (z TI TO i1 i2 l1 l2 S : Nat) (xs ys : Array Value) (i : Nat) (h : Heap) : Prop where
  ti : IsPair h TI (.ref i1) (.ref i2)
  a : h.IsListIter i1 l1 i
  b : h.IsListIter i2 l2 i
  la : h.IsList l1 xs
  lb : h.IsList l2 ys
  zz : (∃ u v, IsZip h z TI TO .none ∧ IsPair h TO u v) ∨ ∃ T f o, IsZipHeld h z TI TO T f ∧ h.get? T = some o ∧ T ≠ z ∧ T ≠ i1 ∧ T ≠ i2 ∧ T ≠ S
theorem ZipSt.keep {z TI TO i1 i2 l1 l2 S : Nat} {xs ys : Array Value} {i : Nat} {h h' : Heap} (Z : ZipSt z TI TO i1 i2 l1 l2 S xs ys i h) (hS : S ∉ [z, TI, TO, i1, i2, l1, l2]) (k : ∀ b o, b ≠ S → h.get? b = some o → h'.get? b = some o) : ZipSt z TI TO i1 i2 l1 l2 S xs ys i h' := by
  simp only [List.mem_cons, List.not_mem_nil, or_false, not_or] at hS
  obtain ⟨s1, s2, s3, s4, s5, s6, s7⟩ := hS
  refine ⟨k _ _ (Ne.symm s2) Z.ti, Z.a.at fun o e => k _ o (Ne.symm s4) e, Z.b.at fun o e => k _ o (Ne.symm s5) e, Z.la.at fun o e => k _ o (Ne.symm s6) e, Z.lb.at fun o e => k _ o (Ne.symm s7) e, ?_⟩
  rcases Z.zz with ⟨u, v, h1, h2⟩ | ⟨T, f, o, h1, h2, h3, h4, h5, h6⟩
  · exact .inl ⟨u, v, k _ _ (Ne.symm s1) h1, k _ _ (Ne.symm s3) h2⟩
  · exact .inr ⟨T, f, o, k _ _ (Ne.symm s1) h1, k _ _ h6 h2, h3, h4, h5, h6⟩
/-- what has been gathered: pairs, each a tuple at an address of its own that was free at first -/
def Pairs (B : Nat) (xs ys acc : Array Value) (i : Nat) (h : Heap) : Prop := ∃ ts : List Nat, acc = (ts.map Value.ref).toArray ∧ ts.length = i ∧ ts.Nodup ∧ ∀ (j t : Nat), ts[j]? = some t → ∃ (x y : Value), xs[j]? = some x ∧ ys[j]? = some y ∧ IsPair h t x y ∧ B ≤ t
theorem Pairs.size {B : Nat} {xs ys acc : Array Value} {i : Nat} {h : Heap} (p : Pairs B xs ys acc i h) : acc.size = i := by
  obtain ⟨ts, rfl, h1, _⟩ := p
  rw [List.size_toArray, List.length_map, h1]
theorem Pairs.keep {B : Nat} {xs ys acc : Array Value} {i : Nat} {h h' : Heap} (p : Pairs B xs ys acc i h) (k : ∀ (b : Nat) o, B ≤ b → h.get? b = some o → h'.get? b = some o) : Pairs B xs ys acc i h' := by
  obtain ⟨ts, h1, h2, h3, h4⟩ := p
  refine ⟨ts, h1, h2, h3, fun j t e => ?_⟩
  obtain ⟨x, y, a, b, c, d⟩ := h4 j t e
  exact ⟨x, y, a, b, k t _ d c, d⟩
theorem Pairs.push {B : Nat} {xs ys acc : Array Value} {i : Nat} {h h' : Heap} {x y : Value} (p : Pairs B xs ys acc i h) (hB : B ≤ h.objs.size) (hx : xs[i]? = some x) (hy : ys[i]? = some y) (hp : IsPair h' h.objs.size x y) (k : ∀ (b : Nat) o, B ≤ b → h.get? b = some o → h'.get? b = some o) : Pairs B xs ys (acc.push (.ref h.objs.size)) (i + 1) h' := by
  obtain ⟨ts, h1, h2, h3, h4⟩ := p
  refine ⟨ts ++ [h.objs.size], ?_, by rw [List.length_append, h2]; rfl, ?_, fun j t e => ?_⟩
  · rw [h1, List.push_toArray, List.map_append]; rfl
  · rw [List.nodup_append]
    refine ⟨h3, by simp, fun a ha b hb e => ?_⟩
    obtain ⟨j, hj⟩ := List.mem_iff_getElem?.mp ha
    obtain ⟨_, _, _, _, c, _⟩ := h4 j a hj
    have := Heap.lt_size c
    rw [e, List.mem_singleton.mp hb] at this
    exact Nat.lt_irrefl _ this
  · rcases Nat.lt_trichotomy j ts.length with q | q | q
    · rw [List.getElem?_append_left q] at e
      obtain ⟨x', y', a, b, c, d⟩ := h4 j t e
      exact ⟨x', y', a, b, k t _ d c, d⟩
    · subst q
      rw [List.getElem?_append_right (Nat.le_refl _), Nat.sub_self] at e
      cases e
      rw [h2]
      exact ⟨x, y, hx, hy, hp, hB⟩
    · rw [List.getElem?_eq_none (by rw [List.length_append]; show ts.length + 1 ≤ j; omega)] at e
      cases e
end
section
variable {X : Cx}
end
end Sm

/-! ## list(zip(a, b)) of data; defs that are called where no guard runs (so that they may call repr) -/
namespace Sm
open PySem L2 PyProof.Rows
section
variable {X : Cx} {c : C0} {e e2 : Expr} {fa fb : G → Option (R × G)} {p0 p pos pos0 : Pos}
end
/-! ### defs called where no guard runs -/
structure FnOkG (P : Program) (w : World) (K : PySem.W.Frag) (mg : Str → Option Value) (base : Heap) (k : Nat) (f : Addr) (fd : FuncData) (ps : List Str) (sp : Sp) : Prop where
  len : ∀ vs H Q E, sp vs H Q E → vs.length = ps.length
  run : ∀ (A : Around) (outer : List Env) (s : Shared) (H : Hp) (args : Args) (us : List Value) (vs : List V) (Q : VK) (E : XK), A.guards = some [] → Room k A → Env0 P w K mg base A outer s H → BindsTo s fd args (ps.zip us) → Vals vs us → sp vs H Q E →
    codeAny (model P w) A (.call (.ref f) args) (CR CX0 outer P w H s Q E) s
section
variable {P : Program} {w : World} {K : PySem.W.Frag} {mg : Str → Option Value} {base : Heap}
end
section
variable {X : Cx} {c : C0} {k n nn : Nat} {f : Addr} {fd : FuncData} {ps : List Str} {sp : Sp} {x : Str} {p pos : Pos} {e : Expr} {es : List Expr} {t : TA} {fs : G → Option (List R × G)} {B : G → Option O}
end
/-! ### x //= d -/
section
variable {X : Cx}
end
end Sm

/-! ## instances made: Live, frozen at once (its arguments checked, its lines run) -/
namespace Sm
open PySem L2
abbrev rLst (K : PySem.W.Frag) : List V → Hp → VK → Prop := fun xs H Q => ∃ p ys, xs = [.ref p] ∧ (SqL K H p ys ∨ SqT K H p ys) ∧ ∀ l, H l = none → Q (.ref l) (upd H l (.lst ys))
abbrev tLvJ (X : Cx) (t0 t1 t2 t3 : TE) : TS := fun D σ H => tDrop t0 { D with nx := fun σ H => sFld X.K (tVar 0) t1 "chain" { D with nx := fun σ H => sFld X.K (tVar 0) t2 "present" { D with nx := sFld X.K (tVar 0) t3 "known" D } σ H } σ H } σ H
abbrev tLvI (X : Cx) (t0 t1 t2 t3 : TE) : TS := tSeq (tDrop t0) (tSeq (sFld X.K (tVar 0) t1 "chain") (tSeq (sFld X.K (tVar 0) t2 "present") (sFld X.K (tVar 0) t3 "known")))
section
variable {X : Cx} {c : C0} {C f : Addr} {Fc : G → Option (R × G)} {Fr : G → Option (R × G)}
variable {fd : FuncData} {ps : List Str} {k : Nat} {e : Expr} {es : List Expr} {pos p : Pos} {fs : G → Option (List R × G)}
end
end Sm

/-! ## Live, made as an owned composite -/
namespace Sm
open PySem L2
def spLO (K : PySem.W.Frag) (mg : Str → Option Value) (C : Addr) (Fc : G → Option (R × G)) (Fr : G → Option (R × G)) : Sp := fun vs H Q _ => ∃ p dx v1 v2 m dp dl lp ll lr r0 g0 gr, vs = [.ref p, v1, v2] ∧ H p = some (.ins C dx []) ∧ p ∉ m ∧ (∀ a ∈ m, H a ≠ none) ∧
  Fz K mg (p :: m) H v1 dp ∧ Fz K mg (p :: m) H v2 dl ∧ Fc [.fz dp] = some (r0, g0) ∧ Fr [.fz dp, .fz dl] = some (.nw lr, gr) ∧ listD [dp] = some (.nw lp) ∧ listD [dl] = some (.nw ll) ∧ (noLs lp = true ∧ noLs ll = true ∧ noLs lr = true) ∧
  ∀ H' q1 q2 q3 ws1 ws2 ws3, (∀ a o, a ≠ p → H a = some o → H' a = some o) → H' p = some (.ins C dx [("chain", .ref q1), ("present", .ref q2), ("known", .ref q3)]) → (H q1 = none ∧ H q2 = none ∧ H q3 = none) → (q1 ≠ p ∧ q2 ≠ p ∧ q3 ≠ p ∧ q2 ≠ q1 ∧ q3 ≠ q1 ∧ q3 ≠ q2) →
    H' q1 = some (.lst ws1) → H' q2 = some (.lst ws2) → H' q3 = some (.lst ws3) → FzL K mg (p :: q1 :: q2 :: q3 :: m) H' ws1 lp → FzL K mg (p :: q1 :: q2 :: q3 :: m) H' ws2 ll → FzL K mg (p :: q1 :: q2 :: q3 :: m) H' ws3 lr → Q .non H'
section
variable {X : Cx} {c : C0} {C f : Addr} {Fc : G → Option (R × G)} {Fr : G → Option (R × G)}
theorem live_initO {D : Ends} {vs : List V} {H : Hp} {Q : VK} {E : XK} {σ : St} (hC : X.mg "Live" = some (.ref C)) (cl : Cls X.K C) (n1 : NoAttr X.K C "chain") (n2 : NoAttr X.K C "present") (n3 : NoAttr X.K C "known") (hσ : ∃ rest, σ = vs.map some ++ rest) (hn : D.nx = fun _ H' => Q .non H') (h : spLO X.K X.mg C Fc Fr vs H Q E) :
    tLvI X (tCall (spM X.K X.mg 1 Fc) [] E0 (tCons (tVar 1) tNil)) (tCB (rLst X.K) (tCons (tVar 1) tNil)) (tCB (rLst X.K) (tCons (tVar 2) tNil)) (tCall (spM X.K X.mg 2 Fr) [] E0 (tCons (tVar 1) (tCons (tVar 2) tNil))) D σ H := by
  obtain ⟨p, dx, v1, v2, m, dp, dl, lp, ll, lr, r0, g0, gr, rfl, hp, pm, tk, F1, F2, e0, e1, e2, e3, ⟨hn1, hn2, hn3⟩, k⟩ := h
  obtain ⟨rest, rfl⟩ := hσ
  show tLvJ X _ _ _ _ D _ H
  have tkp : ∀ a ∈ p :: m, H a ≠ none := fun a h => by
    rcases List.mem_cons.mp h with h | h
    · rw [h, hp]; exact fun z => nomatch z
    · exact tk a h
  refine ⟨v1, rfl, ?_⟩
  show spM X.K X.mg 1 Fc [v1] H _ E0
  refine ⟨rfl, p :: m, [.fz dp], r0, g0, arg0 (ds := [dp]) (.cons F1 .nil) tkp, e0, fun v H1 ret => ?_⟩
  have x1 : Ext H H1 := fun a o h => ret.keep a o (fun i s z w => by obtain ⟨d', _, h2⟩ := fzs_get (ds := [dp]) z; cases h2; exact w) h
  have hp1 := x1 p _ hp
  have F11 := F1.ext x1
  have F21 := F2.ext x1
  clear ret
  obtain ⟨b1, ws1, hv1, s1, l1⟩ := fz_seqs F11 e2
  refine ⟨v1, rfl, b1, ws1, by rw [hv1], s1, fun q1 hq1 => ?_⟩
  have qp1 : q1 ≠ p := fun e => by rw [e, hp1] at hq1; cases hq1
  refine ⟨.ref p, rfl, p, C, dx, [], rfl, by rw [upd_ne (Ne.symm qp1)]; exact hp1, cl, n1, (by show 0 < 1000; decide), ?_⟩
  have pe1 : L2.putF "chain" (V.ref q1) [] = ([("chain", .ref q1)] : List (Str × V)) := rfl
  rw [pe1]
  dsimp only
  show sFld X.K (tVar 0) _ "present" _ _ (upd (upd H1 q1 (.lst ws1)) p (.ins C dx [("chain", .ref q1)]))
  generalize hH2 : upd (upd H1 q1 (.lst ws1)) p (.ins C dx [("chain", .ref q1)]) = H2
  have y2 : ∀ a o, a ≠ p → H1 a = some o → H2 a = some o := fun a o n h => by
    have n' : a ≠ q1 := fun z => by rw [z, hq1] at h; cases h
    rw [← hH2, upd_ne n, upd_ne n']; exact h
  have hp2 : H2 p = some (.ins C dx [("chain", .ref q1)]) := by rw [← hH2]; exact upd_same
  have h21 : H2 q1 = some (.lst ws1) := by rw [← hH2, upd_ne qp1]; exact upd_same
  have up2 : ∀ a o, a ∉ p :: m → H1 a = some o → a ∉ p :: m ∧ H2 a = some o := fun a o n h => ⟨n, y2 a o (fun z => n (by rw [z]; exact List.mem_cons_self)) h⟩
  have F12 := F11.map up2
  have F22 := F21.map up2
  have l12 := l1.map up2
  clear hH2
  obtain ⟨b2, ws2, hv2, s2, l2⟩ := fz_seqs F22 e3
  refine ⟨v2, rfl, b2, ws2, by rw [hv2], s2, fun q2 hq2 => ?_⟩
  have qp2 : q2 ≠ p := fun e => by rw [e, hp2] at hq2; cases hq2
  have q21 : q2 ≠ q1 := fun e => by rw [e, h21] at hq2; cases hq2
  refine ⟨.ref p, rfl, p, C, dx, [("chain", .ref q1)], rfl, by rw [upd_ne (Ne.symm qp2)]; exact hp2, cl, n2, (by show 1 < 1000; decide), ?_⟩
  rw [putF_n1 (f := "chain") (g := "present") (by decide)]
  dsimp only
  show sFld X.K (tVar 0) _ "known" _ _ (upd (upd H2 q2 (.lst ws2)) p (.ins C dx [("chain", .ref q1), ("present", .ref q2)]))
  generalize hH3 : upd (upd H2 q2 (.lst ws2)) p (.ins C dx [("chain", .ref q1), ("present", .ref q2)]) = H3
  have y3 : ∀ a o, a ≠ p → H2 a = some o → H3 a = some o := fun a o n h => by
    have n' : a ≠ q2 := fun z => by rw [z, hq2] at h; cases h
    rw [← hH3, upd_ne n, upd_ne n']; exact h
  have hp3 : H3 p = some (.ins C dx [("chain", .ref q1), ("present", .ref q2)]) := by rw [← hH3]; exact upd_same
  have h31 : H3 q1 = some (.lst ws1) := y3 _ _ qp1 h21
  have h32 : H3 q2 = some (.lst ws2) := by rw [← hH3, upd_ne qp2]; exact upd_same
  have up3 : ∀ a o, a ∉ p :: m → H2 a = some o → a ∉ p :: m ∧ H3 a = some o := fun a o n h => ⟨n, y3 a o (fun z => n (by rw [z]; exact List.mem_cons_self)) h⟩
  have F13 := F12.map up3
  have F23 := F22.map up3
  have l13 := l12.map up3
  have l23 := l2.map up3
  clear hH3
  have x3 : ∀ a o, a ≠ p → H a = some o → H3 a = some o := fun a o n h => y3 a o n (y2 a o n (x1 a o h))
  have tk3 : ∀ a ∈ p :: m, H3 a ≠ none := fun a h => by
    by_cases hap : a = p
    · rw [hap, hp3]; exact fun z => nomatch z
    · cases z : H a with
      | none => exact absurd z (tkp a h)
      | some o => rw [x3 a o hap z]; exact fun z => nomatch z
  refine ⟨v1, rfl, v2, rfl, ?_⟩
  show spM X.K X.mg 2 Fr [v1, v2] H3 _ E0
  refine ⟨rfl, p :: m, [.fz dp, .fz dl], .nw lr, gr, arg0 (ds := [dp, dl]) (.cons F13 (.cons F23 .nil)) tk3, e1, fun v H4 ret => ?_⟩
  have x4 : Ext H3 H4 := fun a o h => ret.keep a o (fun i s z w => by obtain ⟨d', _, h2⟩ := fzs_get (ds := [dp, dl]) z; cases h2; exact w) h
  obtain ⟨q3, ws3, rfl, hq3, h43, l3⟩ := ret.res
  have hp4 := x4 p _ hp3
  have qp3 : q3 ≠ p := fun e => by rw [e, hp3] at hq3; cases hq3
  refine ⟨.ref p, rfl, p, C, dx, _, rfl, hp4, cl, n3, (by show 2 < 1000; decide), ?_⟩
  rw [hn, putF_n2 (f := "chain") (g := "present") (k := "known") (by decide) (by decide)]
  have hne13 : q3 ≠ q1 := fun e => by rw [e, h31] at hq3; cases hq3
  have hne23 : q3 ≠ q2 := fun e => by rw [e, h32] at hq3; cases hq3
  have h5 : ∀ a o, a ≠ p → H4 a = some o → upd H4 p (.ins C dx [("chain", .ref q1), ("present", .ref q2), ("known", .ref q3)]) a = some o := fun a o n h => by rw [upd_ne n]; exact h
  have k1 := h5 q1 _ qp1 (x4 _ _ h31)
  have k2 := h5 q2 _ qp2 (x4 _ _ h32)
  have k3 := h5 q3 _ qp3 h43
  have old : ∀ a, H3 a = none ∨ H1 a = none ∨ H2 a = none → a ≠ p → H a = none := fun a h hap => by
    cases w : H a with
    | none => rfl
    | some o =>
      rcases h with h | h | h
      · rw [x3 a o hap w] at h; cases h
      · rw [x1 a o w] at h; cases h
      · rw [y2 a o hap (x1 a o w)] at h; cases h
  have ntp : NT (upd H4 p (.ins C dx [("chain", .ref q1), ("present", .ref q2), ("known", .ref q3)])) p := ⟨_, upd_same, .inr (.inl ⟨_, _, _, rfl⟩)⟩
  have up5 : ∀ a o, a ∉ p :: m → H3 a = some o → a ∉ p :: m ∧ upd H4 p (.ins C dx [("chain", .ref q1), ("present", .ref q2), ("known", .ref q3)]) a = some o := fun a o n h => by
    have n1 : a ≠ p := fun z => n (by rw [z]; exact List.mem_cons_self)
    exact ⟨n, by rw [upd_ne n1]; exact x4 a o h⟩
  have up6 : ∀ a o, a ∉ q3 :: p :: m → H4 a = some o → a ∉ q3 :: p :: m ∧ upd H4 p (.ins C dx [("chain", .ref q1), ("present", .ref q2), ("known", .ref q3)]) a = some o := fun a o n h => by
    have n1 : a ≠ p := fun z => n (by rw [z]; exact List.mem_cons_of_mem _ List.mem_cons_self)
    exact ⟨n, by rw [upd_ne n1]; exact h⟩
  have more : ∀ a ∈ p :: q1 :: q2 :: q3 :: m, a ∈ p :: m ∨ NT (upd H4 p (.ins C dx [("chain", .ref q1), ("present", .ref q2), ("known", .ref q3)])) a := fun a h => by
    rcases List.mem_cons.mp h with h | h
    · exact .inl (by rw [h]; exact List.mem_cons_self)
    · rcases List.mem_cons.mp h with h | h
      · exact .inr (.lst (by rw [h]; exact k1))
      · rcases List.mem_cons.mp h with h | h
        · exact .inr (.lst (by rw [h]; exact k2))
        · rcases List.mem_cons.mp h with h | h
          · exact .inr (.lst (by rw [h]; exact k3))
          · exact .inl (List.mem_cons_of_mem _ h)
  have more3 : ∀ a ∈ p :: q1 :: q2 :: q3 :: m, a ∈ q3 :: p :: m ∨ NT (upd H4 p (.ins C dx [("chain", .ref q1), ("present", .ref q2), ("known", .ref q3)])) a := fun a h => (more a h).imp (fun z => List.mem_cons_of_mem _ z) id
  exact k _ q1 q2 q3 ws1 ws2 ws3 (fun a o n h => by rw [upd_ne n]; exact x4 a o (x3 a o n h)) upd_same ⟨old q1 (.inr (.inl hq1)) qp1, old q2 (.inr (.inr hq2)) qp2, old q3 (.inl hq3) qp3⟩ ⟨qp1, qp2, qp3, q21, hne13, hne23⟩ k1 k2 k3
    (FzL.noL more (l13.map up5) hn1) (FzL.noL more (l23.map up5) hn2) (FzL.noL more3 (l3.map up6) hn3)
/-- what a new Live is -/
def mkLiveN (Fc : G → Option (R × G)) (Fr : G → Option (R × G)) : MN := fun g => match g with
  | [.fz d1, .fz d2] => match Fc [.fz d1] with
    | some _ => match Fr [.fz d1, .fz d2] with
      | some (.nw lr, _) => match listD [d1] with
        | some (.nw lp) => match listD [d2] with
          | some (.nw ll) => if noLs lp = true ∧ noLs ll = true ∧ noLs lr = true then some ((.ns "Live" ["chain", "present", "known"], [.pl lp, .pl ll, .pl lr]), g) else none
          | _ => none
        | _ => none
      | _ => none
    | none => none
  | _ => none
theorem mkLiveN_inv {g g' : G} {k : OK} {ps : List PF} (e : mkLiveN Fc Fr g = some ((k, ps), g')) : ∃ d1 d2 r0 g0 lr gr lp ll, g = [.fz d1, .fz d2] ∧ g' = g ∧ k = .ns "Live" ["chain", "present", "known"] ∧ ps = [.pl lp, .pl ll, .pl lr] ∧ Fc [.fz d1] = some (r0, g0) ∧ Fr [.fz d1, .fz d2] = some (.nw lr, gr) ∧ listD [d1] = some (.nw lp) ∧ listD [d2] = some (.nw ll) ∧ (noLs lp = true ∧ noLs ll = true ∧ noLs lr = true) := by
  unfold mkLiveN at e
  split at e
  · rename_i d1 d2
    split at e
    · rename_i q hq
      split at e
      · rename_i lr gr hr
        split at e
        · rename_i lp hlp
          split at e
          · rename_i ll hll
            split at e
            · rename_i hn
              cases e
              exact ⟨d1, d2, q.1, q.2, lr, gr, lp, ll, rfl, rfl, rfl, rfl, hq, hr, hlp, hll, hn⟩
            · cases e
          · cases e
        · cases e
      · cases e
    · cases e
  · cases e
theorem mkLiveN_len : ∀ g r g', mkLiveN Fc Fr g = some (r, g') → g.length = 2 := fun g r g' h => by
  obtain ⟨k, ps⟩ := r
  obtain ⟨_, _, _, _, _, _, _, _, rfl, _⟩ := mkLiveN_inv h
  rfl
variable {fd : FuncData} {ps : List Str} {k : Nat} {e : Expr} {es : List Expr} {pos p : Pos} {fs : G → Option (List R × G)}
theorem make_toLO (hC : X.mg "Live" = some (.ref C)) {vs : List V} {H1 : Hp} {Q : VK} (h : spN X.K X.mg 2 (mkLiveN Fc Fr) vs H1 Q E0) (x dx : Addr) (hx : H1 x = none) (hdx : H1 dx = none) (ne : dx ≠ x) :
    spLO X.K X.mg C Fc Fr (.ref x :: vs) (upd (upd H1 dx (.own x)) x (.ins C dx [])) (fun v H2 => v = .non ∧ Q (.ref x) H2) E0 := by
  obtain ⟨hl, m, ds, kk, pp, g', F, tk, e, kq⟩ := h
  obtain ⟨d1, d2, r0, g0, lr, gr, lp, ll, hds, rfl, rfl, rfl, q1, q2, q3, q4, q5⟩ := mkLiveN_inv e
  match vs, ds, hl, F, hds with
  | [v1, v2], [e1, e2], _, .cons f1 (.cons f2 .nil), hds =>
  cases hds
  have old : ∀ a o, H1 a = some o → a ≠ x ∧ a ≠ dx := fun a o h => ⟨fun z => (by rw [z, hx] at h; cases h), fun z => (by rw [z, hdx] at h; cases h)⟩
  have up : ∀ a o, H1 a = some o → upd (upd H1 dx (.own x)) x (.ins C dx []) a = some o := fun a o h => by
    obtain ⟨n1, n2⟩ := old a o h
    rw [upd_ne n1, upd_ne n2]; exact h
  have xm : x ∉ m := fun z => tk x z hx
  have km : ∀ a o, a ∉ m → H1 a = some o → a ∉ x :: m ∧ upd (upd H1 dx (.own x)) x (.ins C dx []) a = some o := fun a o n h => ⟨fun z => by
    rcases List.mem_cons.mp z with z | z
    · exact (old a o h).1 z
    · exact n z, up a o h⟩
  have none1 : ∀ a, upd (upd H1 dx (.own x)) x (.ins C dx []) a = none → H1 a = none := fun a h => by
    cases z : H1 a with
    | none => rfl
    | some o => rw [up a o z] at h; cases h
  refine ⟨x, dx, v1, v2, m, d1, d2, lp, ll, lr, r0, g0, gr, rfl, upd_same, xm, fun a h => ?_, f1.map km, f2.map km, q1, q2, q3, q4, q5, fun H' b1 b2 b3 w1 w2 w3 keep hx' hf hd k1 k2 k3 l1 l2 l3 => ⟨rfl, kq (.ref x) H' ?_⟩⟩
  · cases z : H1 a with
    | none => exact absurd z (tk a h)
    | some o => rw [up a o z]; exact fun z => nomatch z
  · have kp : ∀ a o, H1 a = some o → H' a = some o := fun a o h => keep a o (old a o h).1 (up a o h)
    obtain ⟨d1', d2', d3', d4, d5, d6⟩ := hd
    have mm : ∀ a, a ∈ b1 :: b2 :: b3 :: ([] : List Addr) → a ∈ [x, b1, b2, b3] ++ m := fun a h => List.mem_append.mpr (.inl (List.mem_cons_of_mem _ h))
    refine ⟨kp, x, .ins C dx [("chain", .ref b1), ("present", .ref b2), ("known", .ref b3)], [.ref b1, .ref b2, .ref b3], [.fl b1 lp, .fl b2 ll, .fl b3 lr], rfl, hx', ⟨by decide, rfl, C, dx, hC, rfl⟩, rfl, ?_, ?_, fun a h => ?_⟩
    · exact .cons ⟨rfl, mm _ (by simp), w1, k1, l1⟩ (.cons ⟨rfl, mm _ (by simp), w2, k2, l2⟩ (.cons ⟨rfl, mm _ (by simp), w3, k3, l3⟩ .nil))
    · show [x, b1, b2, b3].Nodup
      simp only [List.nodup_cons, List.mem_cons, List.not_mem_nil, or_false, not_or, List.nodup_nil, and_true, not_false_eq_true]
      exact ⟨⟨Ne.symm d1', Ne.symm d2', Ne.symm d3'⟩, ⟨Ne.symm d4, Ne.symm d5⟩, Ne.symm d6⟩
    · have h : a ∈ [x, b1, b2, b3] := h
      simp only [List.mem_cons, List.not_mem_nil, or_false] at h
      rcases h with rfl | rfl | rfl | rfl
      · exact hx
      · exact none1 _ hf.1
      · exact none1 _ hf.2.1
      · exact none1 _ hf.2.2
theorem sn_live (M : Mk X.K C f) (F : FnOk X.prog X.w X.K X.mg X.base CX0 k f fd ps (spLO X.K X.mg C Fc Fr)) (hr : Room (k + 1) X.A) (hg : Gl X "Live") (hC : X.mg "Live" = some (.ref C)) (hb : Binds X.K fd ps [])
    (ha : SA X c (e :: es) fs) (he : starEach (e :: es) X.env = (false, eval e X.env) :: starEach es X.env := by rfl) (hpl : (backTo pos (starEach es X.env)).any (·.1) = false := by rfl) :
    SN X c (.Call (.Name "Live" p) (e :: es) [] pos) (eCallN (mkLiveN Fc Fr) fs) := (pe_make M F hr hg hC hb .nil pass0 ha (by decide) he hpl).imp fun σ H Q q => by
  obtain ⟨m, g, rs, g', A, e, k⟩ := callN_ok mkLiveN_len q
  exact ⟨m, g, rs, g', A, e, fun vs m' H' A' S' V' N' x dx hx hdx ne => make_toLO hC (k vs m' H' A' S' V' N') x dx hx hdx ne⟩
end
end Sm

/-! ## plans that are equal for all lists -/
namespace Sp
open PySem L2 TL Sm
abbrev hd (n : Nat) : Cmd := .num .head n
abbrev ch (n : Nat) : Cmd := .num .chop n
abbrev rv : Cmd := .pl .reverse
abbrev so : Cmd := .pl .sort
theorem sortL_pw (l : List Str) : (sortL l).Pairwise fun x y => x.cps.toList ≤ y.cps.toList := SetX.srt_pw _
theorem sortL_id {l : List Str} (nd : l.Nodup) (h : l.Pairwise fun x y => x.cps.toList ≤ y.cps.toList) : sortL l = l := by
  obtain ⟨n1, m1⟩ := sortL_nd l
  have p : l.Perm (sortL l) := (List.perm_ext_iff_of_nodup nd n1).mpr fun y => (m1 y).symm
  have := SetX.srt_unique (l := SetX.dd l l.length) (m := l) (p.trans (SetX.srt_perm _)) h
  exact this.symm
end Sp

/-! ## windows over runs (k05) -/
namespace Sp
open PySem L2 TL Sm
end Sp

/-! ## the sorted list without its repeats (k05) -/
namespace Sp
open PySem L2 TL Sm
end Sp

/-! ## lines taken out and put in (k32): alignments, and what each command does to them -/
namespace Sp
open PySem L2 TL Sm
/-- l without a lines is m without b lines -/
inductive Al : Nat → Nat → List Str → List Str → Prop
  | nil : Al 0 0 [] []
  | both {a b l m} (x : Str) : Al a b l m → Al a b (x :: l) (x :: m)
  | del {a b l m} (x : Str) : Al a b l m → Al (a + 1) b (x :: l) m
  | ins {a b l m} (x : Str) : Al a b l m → Al a (b + 1) l (x :: m)
theorem Al.refl : ∀ l : List Str, Al 0 0 l l
  | [] => .nil
  | x :: l => .both x (Al.refl l)
theorem Al.allIns : ∀ m : List Str, Al 0 m.length [] m
  | [] => .nil
  | x :: m => .ins x (Al.allIns m)
theorem Al.allDel : ∀ m : List Str, Al m.length 0 m []
  | [] => .nil
  | x :: m => .del x (Al.allDel m)
theorem Al.app {a b l m} (h : Al a b l m) {c d u v} (k : Al c d u v) : Al (a + c) (b + d) (l ++ u) (m ++ v) := by
  induction h with
  | nil => simpa using k
  | both x _ ih => exact .both x ih
  | del x _ ih => rw [Nat.add_right_comm]; exact .del x ih
  | ins x _ ih => rw [Nat.add_right_comm]; exact .ins x ih
theorem Al.rev {a b l m} (h : Al a b l m) : Al a b l.reverse m.reverse := by
  induction h with
  | nil => exact .nil
  | both x _ ih => simpa using ih.app (.both x .nil)
  | del x _ ih => simpa using ih.app (.del x .nil)
  | ins x _ ih => simpa using ih.app (.ins x .nil)
theorem Al.take' {a b l m} (h : Al a b l m) : ∀ p q : Nat, ∃ a' b', Al a' b' (l.take p) (m.take q) ∧ (a' ≤ a ∨ a' + q ≤ b + p) ∧ (b' ≤ b ∨ b' + p ≤ a + q) := by
  induction h with
  | nil => intro p q; exact ⟨0, 0, by simpa using Al.nil, .inl (Nat.le_refl _), .inl (Nat.le_refl _)⟩
  | @both a b l m x h ih =>
    intro p q
    cases p with
    | zero =>
      refine ⟨0, ((x :: m).take q).length, by rw [List.take_zero]; exact .allIns _, .inl (Nat.zero_le _), .inr ?_⟩
      rw [List.length_take]; omega
    | succ p =>
      cases q with
      | zero =>
        refine ⟨((x :: l).take (p + 1)).length, 0, by rw [List.take_zero]; exact .allDel _, .inr ?_, .inl (Nat.zero_le _)⟩
        rw [List.length_take]; omega
      | succ q =>
        obtain ⟨a', b', k, k1, k2⟩ := ih p q
        exact ⟨a', b', .both x k, by omega, by omega⟩
  | @del a b l m x h ih =>
    intro p q
    cases p with
    | zero =>
      refine ⟨0, (m.take q).length, by rw [List.take_zero]; exact .allIns _, .inl (Nat.zero_le _), .inr ?_⟩
      rw [List.length_take]; omega
    | succ p =>
      obtain ⟨a', b', k, k1, k2⟩ := ih p q
      exact ⟨a' + 1, b', .del x k, by omega, by omega⟩
  | @ins a b l m x h ih =>
    intro p q
    cases q with
    | zero =>
      refine ⟨(l.take p).length, 0, by rw [List.take_zero]; exact .allDel _, .inr ?_, .inl (Nat.zero_le _)⟩
      rw [List.length_take]; omega
    | succ q =>
      obtain ⟨a', b', k, k1, k2⟩ := ih p q
      exact ⟨a', b' + 1, .ins x k, by omega, by omega⟩
theorem Al.drop' {a b l m} (h : Al a b l m) : ∀ p q : Nat, ∃ a' b', Al a' b' (l.drop p) (m.drop q) ∧ a' ≤ a + (q - p) ∧ b' ≤ b + (p - q) := by
  induction h with
  | nil => intro p q; exact ⟨0, 0, by simpa using Al.nil, Nat.zero_le _, Nat.zero_le _⟩
  | @both a b l m x h ih =>
    intro p q
    cases p with
    | zero =>
      cases q with
      | zero => exact ⟨a, b, .both x h, by omega, by omega⟩
      | succ q =>
        obtain ⟨a', b', k, k1, k2⟩ := ih 0 q
        exact ⟨a' + 1, b', .del x k, by omega, by omega⟩
    | succ p =>
      cases q with
      | zero =>
        obtain ⟨a', b', k, k1, k2⟩ := ih p 0
        exact ⟨a', b' + 1, .ins x k, by omega, by omega⟩
      | succ q =>
        obtain ⟨a', b', k, k1, k2⟩ := ih p q
        exact ⟨a', b', k, by omega, by omega⟩
  | @del a b l m x h ih =>
    intro p q
    cases p with
    | zero =>
      obtain ⟨a', b', k, k1, k2⟩ := ih 0 q
      exact ⟨a' + 1, b', .del x k, by omega, by omega⟩
    | succ p =>
      obtain ⟨a', b', k, k1, k2⟩ := ih p q
      exact ⟨a', b', k, by omega, by omega⟩
  | @ins a b l m x h ih =>
    intro p q
    cases q with
    | zero =>
      obtain ⟨a', b', k, k1, k2⟩ := ih p 0
      exact ⟨a', b' + 1, .ins x k, by omega, by omega⟩
    | succ q =>
      obtain ⟨a', b', k, k1, k2⟩ := ih p q
      exact ⟨a', b', k, by omega, by omega⟩
/-- at most k lines of each are lacking -/
def Near (k : Nat) (l m : List Str) : Prop := ∃ a b, Al a b l m ∧ a ≤ k ∧ b ≤ k
theorem Near.mono {j k : Nat} {l m : List Str} (h : Near j l m) (e : j ≤ k) : Near k l m := by
  obtain ⟨a, b, h, h1, h2⟩ := h
  exact ⟨a, b, h, by omega, by omega⟩
theorem Near.rev {k : Nat} {l m : List Str} (h : Near k l m) : Near k l.reverse m.reverse := by
  obtain ⟨a, b, h, h1, h2⟩ := h
  exact ⟨a, b, h.rev, h1, h2⟩
theorem Near.take {k : Nat} {l m : List Str} (h : Near k l m) (n : Nat) : Near k (l.take n) (m.take n) := by
  obtain ⟨a, b, h, h1, h2⟩ := h
  obtain ⟨a', b', h', h3, h4⟩ := h.take' n n
  exact ⟨a', b', h', by omega, by omega⟩
theorem Near.drop {k : Nat} {l m : List Str} (h : Near k l m) (n : Nat) : Near k (l.drop n) (m.drop n) := by
  obtain ⟨a, b, h, h1, h2⟩ := h
  obtain ⟨a', b', h', h3, h4⟩ := h.drop' n n
  exact ⟨a', b', h', by omega, by omega⟩
theorem Near.num {k : Nat} {l m : List Str} (h : Near k l m) (a : Nm) (n : Nat) : Near k (Cmd.step (.num a n) l) (Cmd.step (.num a n) m) := by
  cases a
  · exact h.take n
  · have := (h.rev.take n).rev
    rw [List.take_reverse, List.take_reverse, List.reverse_reverse, List.reverse_reverse] at this
    exact this
  · exact h.drop n
  · have := (h.rev.drop n).rev
    rw [List.drop_reverse, List.drop_reverse, List.reverse_reverse, List.reverse_reverse] at this
    exact this
/-- uniq: every line taken out or put in may shift one repeat -/
theorem Al.dup {a b l m} (h : Al a b l m) : ∀ x y : Str, ∃ a' b', Al a' b' (dupF x l) (dupF y m) ∧ (x = y → a' ≤ a + (a + b) ∧ b' ≤ b + (a + b)) ∧ (a' ≤ a + (a + b) + 1 ∧ b' ≤ b + (a + b) + 1) ∧ (x = y → a' + b' ≤ 2 * (a + b)) ∧ a' + b' ≤ 2 * (a + b) + 1 := by
  induction h with
  | nil => intro x y; exact ⟨0, 0, .nil, fun _ => ⟨by omega, by omega⟩, ⟨by omega, by omega⟩, fun _ => by omega, by omega⟩
  | @both a b l m z h ih =>
    intro x y
    unfold dupF
    by_cases h1 : z = x
    · by_cases h2 : z = y
      · rw [if_pos h1, if_pos h2]
        exact ih x y
      · rw [if_pos h1, if_neg h2]
        obtain ⟨a', b', k, k1, k2, k3, k4⟩ := ih x z
        have e := k1 h1.symm
        have e3 := k3 h1.symm
        exact ⟨a', b' + 1, .ins z k, fun e => absurd (h1.trans e) h2, ⟨by omega, by omega⟩, fun e => absurd (h1.trans e) h2, by omega⟩
    · by_cases h2 : z = y
      · rw [if_neg h1, if_pos h2]
        obtain ⟨a', b', k, k1, k2, k3, k4⟩ := ih z y
        have e := k1 h2
        have e3 := k3 h2
        exact ⟨a' + 1, b', .del z k, fun e => absurd (h2.trans e.symm) h1, ⟨by omega, by omega⟩, fun e => absurd (h2.trans e.symm) h1, by omega⟩
      · rw [if_neg h1, if_neg h2]
        obtain ⟨a', b', k, k1, k2, k3, k4⟩ := ih z z
        have e := k1 rfl
        have e3 := k3 rfl
        exact ⟨a', b', .both z k, fun _ => e, ⟨by omega, by omega⟩, fun _ => e3, by omega⟩
  | @del a b l m z h ih =>
    intro x y
    rw [dupF]
    by_cases h1 : z = x
    · rw [if_pos h1]
      obtain ⟨a', b', k, k1, k2, k3, k4⟩ := ih x y
      exact ⟨a', b', k, fun e => ⟨by have := k1 e; omega, by have := k1 e; omega⟩, ⟨by omega, by omega⟩, fun e => by have := k3 e; omega, by omega⟩
    · rw [if_neg h1]
      obtain ⟨a', b', k, k1, k2, k3, k4⟩ := ih z y
      exact ⟨a' + 1, b', .del z k, fun e => ⟨by omega, by omega⟩, ⟨by omega, by omega⟩, fun e => by omega, by omega⟩
  | @ins a b l m z h ih =>
    intro x y
    rw [show dupF y (z :: m) = if z = y then dupF y m else z :: dupF z m from rfl]
    by_cases h1 : z = y
    · rw [if_pos h1]
      obtain ⟨a', b', k, k1, k2, k3, k4⟩ := ih x y
      exact ⟨a', b', k, fun e => ⟨by have := k1 e; omega, by have := k1 e; omega⟩, ⟨by omega, by omega⟩, fun e => by have := k3 e; omega, by omega⟩
    · rw [if_neg h1]
      obtain ⟨a', b', k, k1, k2, k3, k4⟩ := ih x z
      exact ⟨a', b' + 1, .ins z k, fun e => ⟨by omega, by omega⟩, ⟨by omega, by omega⟩, fun e => by omega, by omega⟩
theorem other_than (p q : Str) : ∃ z : Str, p ≠ z ∧ q ≠ z := by
  have ab : (("a" : String) : Str) ≠ (("b" : String) : Str) := by decide
  have ac : (("a" : String) : Str) ≠ (("c" : String) : Str) := by decide
  have bc : (("b" : String) : Str) ≠ (("c" : String) : Str) := by decide
  by_cases h1 : p = (("a" : String) : Str)
  · by_cases h2 : q = (("b" : String) : Str)
    · exact ⟨(("c" : String) : Str), by rw [h1]; exact ac, by rw [h2]; exact bc⟩
    · exact ⟨(("b" : String) : Str), by rw [h1]; exact ab, h2⟩
  · by_cases h2 : q = (("a" : String) : Str)
    · by_cases h3 : p = (("b" : String) : Str)
      · exact ⟨(("c" : String) : Str), by rw [h3]; exact bc, by rw [h2]; exact ac⟩
      · exact ⟨(("b" : String) : Str), h3, by rw [h2]; exact ab⟩
    · exact ⟨(("a" : String) : Str), h1, h2⟩
theorem uniq_dup : ∀ (l : List Str) (z : Str), (∀ x t, l = x :: t → x ≠ z) → uniqL l = dupF z l
  | [], _, _ => rfl
  | x :: l, z, h => by
    show x :: dupF x l = dupF z (x :: l)
    rw [dupF, if_neg (h x l rfl)]
theorem Al.uniq {a b l m} (h : Al a b l m) : ∃ a' b', Al a' b' (uniqL l) (uniqL m) ∧ a' ≤ a + (a + b) ∧ b' ≤ b + (a + b) := by
  obtain ⟨z, h1, h2⟩ := other_than (l.headD Str.empty) (m.headD Str.empty)
  rw [uniq_dup l z (fun x t e => by subst e; exact h1), uniq_dup m z (fun x t e => by subst e; exact h2)]
  obtain ⟨a', b', k, k1, _⟩ := h.dup z z
  exact ⟨a', b', k, (k1 rfl).1, (k1 rfl).2⟩
/-! ### sort -/
theorem Al.ofSub {c l : List Str} (h : c.Sublist l) : ∃ n, Al n 0 l c ∧ n + c.length = l.length := by
  induction h with
  | slnil => exact ⟨0, .nil, rfl⟩
  | cons x _ ih =>
    obtain ⟨n, h1, h2⟩ := ih
    exact ⟨n + 1, .del x h1, by rw [List.length_cons]; omega⟩
  | cons_cons x _ ih =>
    obtain ⟨n, h1, h2⟩ := ih
    exact ⟨n, .both x h1, by rw [List.length_cons, List.length_cons]; omega⟩
theorem Al.swap {a b l m} (h : Al a b l m) : Al b a m l := by
  induction h with
  | nil => exact .nil
  | both x _ ih => exact .both x ih
  | del x _ ih => exact .ins x ih
  | ins x _ ih => exact .del x ih
theorem Al.trans0 : ∀ (n : Nat) {a b : Nat} {l c m : List Str}, l.length + m.length ≤ n → Al a 0 l c → Al 0 b c m → Al a b l m := by
  intro n
  induction n with
  | zero =>
    intro a b l c m hn h k
    have h1 : l = [] := List.length_eq_zero_iff.mp (by omega)
    have h2 : m = [] := List.length_eq_zero_iff.mp (by omega)
    subst h1 h2
    cases h
    cases k
    exact .nil
  | succ n ih =>
    intro a b l c m hn h k
    cases h with
    | nil => exact k
    | del x h => exact .del x (ih (by simp only [List.length_cons] at hn; omega) h k)
    | both x h =>
      cases k with
      | both _ k => exact .both x (ih (by simp only [List.length_cons] at hn; omega) h k)
      | ins y k => exact .ins y (ih (by simp only [List.length_cons] at hn ⊢; omega) (.both x h) k)
theorem Al.lacks {a b l m} (h : Al a b l m) : ∀ u : List Str, u.Nodup → (∀ x ∈ u, x ∈ l ∧ x ∉ m) → u.length ≤ a := by
  induction h with
  | nil =>
    intro u _ hu
    cases u with
    | nil => exact Nat.le_refl _
    | cons x u => exact absurd (hu x (List.mem_cons_self ..)).1 (List.not_mem_nil)
  | both y _ ih =>
    intro u hn hu
    refine ih u hn fun x hx => ?_
    obtain ⟨h1, h2⟩ := hu x hx
    have ne : x ≠ y := fun e => h2 (by rw [e]; exact List.mem_cons_self ..)
    exact ⟨(List.mem_cons.mp h1).resolve_left ne, fun h => h2 (List.mem_cons_of_mem _ h)⟩
  | del y _ ih =>
    intro u hn hu
    have h1 := ih (u.erase y) (hn.erase y) fun x hx => by
      have hx' := (hn.mem_erase_iff).mp hx
      obtain ⟨h1, h2⟩ := hu x hx'.2
      exact ⟨(List.mem_cons.mp h1).resolve_left hx'.1, h2⟩
    have h2 : u.length ≤ (u.erase y).length + 1 := by
      rw [List.length_erase]
      split <;> omega
    omega
  | ins y _ ih =>
    intro u hn hu
    exact ih u hn fun x hx => ⟨(hu x hx).1, fun h => (hu x hx).2 (List.mem_cons_of_mem _ h)⟩
theorem filt_len (p : Str → Bool) (l : List Str) : (l.filter p).length + (l.filter (fun x => !p x)).length = l.length := by
  induction l with
  | nil => rfl
  | cons x l ih =>
    rw [List.filter_cons, List.filter_cons]
    cases p x <;> simp <;> omega
theorem Al.sort {a b l m} (h : Al a b l m) : ∃ a' b', Al a' b' (sortL l) (sortL m) ∧ a' ≤ a ∧ b' ≤ b := by
  obtain ⟨n1, e1⟩ := sortL_nd l
  obtain ⟨n2, e2⟩ := sortL_nd m
  have p1 := sortL_pw l
  have p2 := sortL_pw m
  have c1 : (sortL l).filter (fun x => decide (x ∈ m)) = sortL ((sortL l).filter (fun x => decide (x ∈ m))) := (sortL_id (n1.filter _) (p1.filter _)).symm
  have c2 : (sortL m).filter (fun x => decide (x ∈ l)) = sortL ((sortL m).filter (fun x => decide (x ∈ l))) := (sortL_id (n2.filter _) (p2.filter _)).symm
  have ce : (sortL l).filter (fun x => decide (x ∈ m)) = (sortL m).filter (fun x => decide (x ∈ l)) := by
    rw [c1, c2]
    apply sortL_congr
    intro y
    rw [List.mem_filter, List.mem_filter, e1, e2, decide_eq_true_eq, decide_eq_true_eq]
    exact And.comm
  obtain ⟨a', k1, q1⟩ := Al.ofSub (List.filter_sublist (p := fun x => decide (x ∈ m)) (l := sortL l))
  obtain ⟨b', k2, q2⟩ := Al.ofSub (List.filter_sublist (p := fun x => decide (x ∈ l)) (l := sortL m))
  rw [ce] at k1
  refine ⟨a', b', Al.trans0 _ (Nat.le_refl _) k1 k2.swap, ?_, ?_⟩
  · have := h.lacks ((sortL l).filter fun x => !decide (x ∈ m)) (n1.filter _) fun x hx => by
      rw [List.mem_filter, e1] at hx
      exact ⟨hx.1, by simpa using hx.2⟩
    have := filt_len (fun x => decide (x ∈ m)) (sortL l)
    omega
  · have := h.swap.lacks ((sortL m).filter fun x => !decide (x ∈ l)) (n2.filter _) fun x hx => by
      rw [List.mem_filter, e2] at hx
      exact ⟨hx.1, by simpa using hx.2⟩
    have := filt_len (fun x => decide (x ∈ l)) (sortL m)
    omega
/-! ### whole pipelines -/
end Sp

set_option maxHeartbeats 1000000
/-! ## the changes between two lists: by the lengths of common parts, and how many they are -/
namespace Nf
open PySem Sp
def lc : List Str → List Str → Nat
  | [], _ => 0
  | _ :: _, [] => 0
  | x :: xs, y :: ys => if x = y then lc xs ys + 1 else max (lc xs (y :: ys)) (lc (x :: xs) ys)
termination_by l m => l.length + m.length
theorem lc_nil (m : List Str) : lc [] m = 0 := by rw [lc]
theorem lc_nilR (l : List Str) : lc l [] = 0 := by cases l <;> rw [lc]
theorem lc_eq {x : Str} {xs ys : List Str} : lc (x :: xs) (x :: ys) = lc xs ys + 1 := by rw [lc, if_pos rfl]
theorem lc_ne {x y : Str} {xs ys : List Str} (h : x ≠ y) : lc (x :: xs) (y :: ys) = max (lc xs (y :: ys)) (lc (x :: xs) ys) := by rw [lc, if_neg h]
inductive Chg | ins (o : Nat) (y : Str) | rem (o : Nat)
def chgL : List Str → List Str → Nat → List Chg
  | [], [], _ => []
  | _ :: xs, [], o => .rem o :: chgL xs [] o
  | [], y :: ys, o => .ins o y :: chgL [] ys (o + 1)
  | x :: xs, y :: ys, o => if x = y then chgL xs ys (o + 1) else if lc (x :: xs) ys ≤ lc xs (y :: ys) then .rem o :: chgL xs (y :: ys) o else .ins o y :: chgL (x :: xs) ys (o + 1)
termination_by l m _ => l.length + m.length
end Nf

/-! ## the table of common lengths (common_lengths): a list of lists of numbers, filled from the end -/
namespace Sm
open PySem L2
def strsOf : List D → Option (List Str)
  | [] => some []
  | .str s :: l => (strsOf l).map (s :: ·)
  | _ :: _ => none
theorem strsOf_ok : ∀ {l : List D} {L : List Str}, strsOf l = some L → l = L.map D.str
  | [], L, h => by cases h; rfl
  | d :: l, L, h => by
    cases d with
    | str s =>
      obtain ⟨L', h1, h2⟩ := Option.map_eq_some_iff.mp h
      subst h2
      rw [strsOf_ok h1, List.map_cons]
    | _ => cases h
theorem strsOf_map : ∀ L : List Str, strsOf (L.map D.str) = some L
  | [] => rfl
  | s :: L => by
    show (strsOf (L.map D.str)).map (s :: ·) = _
    rw [strsOf_map L]; rfl
def tabD (L0 L1 : List Str) : D := .lst ((List.range (L0.length + 1)).map fun i => .lst ((List.range (L1.length + 1)).map fun j => .int (Nf.lc (L0.drop i) (L1.drop j) : Nat)))
def sLcs (a b it io jo ix : Nat) : G → Option O := fun g => match g[a]?, g[b]?, g[it]?, g[io]?, g[jo]? with
  | some (.fz (.lst l0)), some (.fz (.lst l1)), some .un, some .un, some .un => (strsOf l0).bind fun L0 => (strsOf l1).bind fun L1 => if L0.length ≤ 1000 ∧ L1.length ≤ 1000 ∧ ix < g.length then some (.rt (.d (tabD L0 L1)) g) else none
  | _, _, _, _, _ => none
theorem sLcs_inv {a b it io jo ix : Nat} {g : G} {o : O} (h : sLcs a b it io jo ix g = some o) : ∃ L0 L1 : List Str, g[a]? = some (.fz (.lst (L0.map D.str))) ∧ g[b]? = some (.fz (.lst (L1.map D.str))) ∧ g[it]? = some .un ∧ g[io]? = some .un ∧ g[jo]? = some .un ∧
    L0.length ≤ 1000 ∧ L1.length ≤ 1000 ∧ ix < g.length ∧ o = .rt (.d (tabD L0 L1)) g := by
  unfold sLcs at h
  split at h
  · rename_i l0 l1 h1 h2 h3 h4 h5
    obtain ⟨L0, e0, h⟩ := Option.bind_eq_some_iff.mp h
    obtain ⟨L1, e1, h⟩ := Option.bind_eq_some_iff.mp h
    split at h
    · rename_i hh
      cases h
      rw [strsOf_ok e0] at h1
      rw [strsOf_ok e1] at h2
      exact ⟨L0, L1, h1, h2, h3, h4, h5, hh.1, hh.2.1, hh.2.2, rfl⟩
    · cases h
  · cases h
def rowV (m : Nat) (f : Nat → Nat → Nat) (i : Nat) : List V := (List.range (m + 1)).map fun j => V.int (f i j : Nat)
theorem rowV_len {m : Nat} {f : Nat → Nat → Nat} {i : Nat} : (rowV m f i).length = m + 1 := by simp [rowV]
theorem rowV_get {m : Nat} {f : Nat → Nat → Nat} {i j : Nat} (h : j ≤ m) : (rowV m f i)[j]? = some (.int (f i j : Nat)) := by
  unfold rowV
  rw [List.getElem?_map, List.getElem?_range (by omega)]
  rfl
def setF (f : Nat → Nat → Nat) (i0 j0 v : Nat) : Nat → Nat → Nat := fun i j => if i = i0 ∧ j = j0 then v else f i j
theorem rowV_set {m : Nat} {f : Nat → Nat → Nat} {i0 j0 v : Nat} : (rowV m f i0).set j0 (.int (v : Nat)) = rowV m (setF f i0 j0 v) i0 := by
  refine List.ext_getElem? fun j => ?_
  unfold rowV setF
  rcases Nat.lt_or_ge j (m + 1) with h | h
  · by_cases e : j = j0
    · subst e
      rw [List.getElem?_set_self (by simpa using h), List.getElem?_map, List.getElem?_range h]
      simp
    · rw [List.getElem?_set_ne (Ne.symm e), List.getElem?_map, List.getElem?_map, List.getElem?_range h]
      simp [e]
  · rw [List.getElem?_eq_none (by simpa using h), List.getElem?_eq_none (by simpa using h)]
theorem rowV_ne {m : Nat} {f : Nat → Nat → Nat} {i i0 j0 v : Nat} (h : i ≠ i0) : rowV m (setF f i0 j0 v) i = rowV m f i := by
  unfold rowV setF
  simp [h]
theorem nodup_idx {q : Addr} : ∀ {qs : List Addr} {i j : Nat}, qs.Nodup → qs[i]? = some q → qs[j]? = some q → i = j
  | [], i, j, _, h, _ => by simp at h
  | p :: qs, 0, 0, _, _, _ => rfl
  | p :: qs, 0, j + 1, nd, h, h' => by
    cases h
    exact absurd (List.mem_of_getElem? (l := qs) (i := j) h') (List.nodup_cons.mp nd).1
  | p :: qs, i + 1, 0, nd, h, h' => by
    cases h'
    exact absurd (List.mem_of_getElem? (l := qs) (i := i) h) (List.nodup_cons.mp nd).1
  | p :: qs, i + 1, j + 1, nd, h, h' => by rw [nodup_idx (List.nodup_cons.mp nd).2 (i := i) (j := j) h h']
/-- the table stands at pT, its rows at qs -/
structure Tab (H : Hp) (pT : Addr) (qs : List Addr) (n m : Nat) (f : Nat → Nat → Nat) : Prop where
  len : qs.length = n + 1
  nd : (pT :: qs).Nodup
  top : H pT = some (.lst (qs.map V.ref))
  row : ∀ i q, qs[i]? = some q → H q = some (.lst (rowV m f i))
theorem Tab.set {H : Hp} {pT q : Addr} {qs : List Addr} {n m i0 j0 v : Nat} {f : Nat → Nat → Nat} (T : Tab H pT qs n m f) (hq : qs[i0]? = some q) : Tab (upd H q (.lst ((rowV m f i0).set j0 (.int (v : Nat))))) pT qs n m (setF f i0 j0 v) where
  len := T.len
  nd := T.nd
  top := by
    have := (List.nodup_cons.mp T.nd).1
    rw [upd_ne fun z => this (by rw [z]; exact List.mem_of_getElem? hq)]
    exact T.top
  row := fun i q' h => by
    by_cases e : i = i0
    · subst e
      rw [hq] at h
      cases h
      rw [upd_same, rowV_set]
    · have ne : q' ≠ q := fun z => e (by
        subst z
        exact nodup_idx (List.nodup_cons.mp T.nd).2 h hq)
      rw [upd_ne ne, T.row i q' h, rowV_ne e]
/-- what is known of the table when k rows are done and l cells of the next -/
def GoodT (L0 L1 : List Str) (k l : Nat) (f : Nat → Nat → Nat) : Prop :=
  (∀ i, i ≤ L0.length → f i L1.length = 0) ∧ ∀ i j, i ≤ L0.length → j ≤ L1.length → (L0.length ≤ i + k ∨ (i + k + 1 = L0.length ∧ L1.length ≤ j + l)) → f i j = Nf.lc (L0.drop i) (L1.drop j)
theorem good_start {L0 L1 : List Str} : GoodT L0 L1 0 0 fun _ _ => 0 := by
  refine ⟨fun _ _ => rfl, fun i j hi hj h => ?_⟩
  rcases h with h | ⟨_, h⟩
  · rw [List.drop_eq_nil_of_le (by omega), Nf.lc_nil]
  · rw [List.drop_eq_nil_of_le (as := L1) (by omega), Nf.lc_nilR]
theorem good_next {L0 L1 : List Str} {k : Nat} {f : Nat → Nat → Nat} (h : GoodT L0 L1 k L1.length f) : GoodT L0 L1 (k + 1) 0 f := by
  refine ⟨h.1, fun i j hi hj h' => ?_⟩
  rcases h' with h' | ⟨h1, h2⟩
  · rcases Nat.lt_or_ge (i + k) L0.length with h2 | h2
    · exact h.2 i j hi hj (.inr ⟨by omega, by omega⟩)
    · exact h.2 i j hi hj (.inl h2)
  · have : j = L1.length := by omega
    subst this
    rw [h.1 i hi, List.drop_eq_nil_of_le (as := L1) (Nat.le_refl _), Nf.lc_nilR]
theorem good_cell {L0 L1 : List Str} {k l i j v : Nat} {f : Nat → Nat → Nat} {x y : Str} (h : GoodT L0 L1 k l f) (hi : i + k + 1 = L0.length) (hj : j + l + 1 = L1.length) (hx : L0[i]? = some x) (hy : L1[j]? = some y)
    (hv : v = if x = y then f (i + 1) (j + 1) + 1 else max (f (i + 1) j) (f i (j + 1))) : GoodT L0 L1 k (l + 1) (setF f i j v) := by
  have d0 : L0.drop i = x :: L0.drop (i + 1) := by
    obtain ⟨h1, h2⟩ := List.getElem?_eq_some_iff.mp hx
    rw [List.drop_eq_getElem_cons h1, h2]
  have d1 : L1.drop j = y :: L1.drop (j + 1) := by
    obtain ⟨h1, h2⟩ := List.getElem?_eq_some_iff.mp hy
    rw [List.drop_eq_getElem_cons h1, h2]
  have e1 := h.2 (i + 1) (j + 1) (by omega) (by omega) (.inl (by omega))
  have e2 := h.2 (i + 1) j (by omega) (by omega) (.inl (by omega))
  have e3 := h.2 i (j + 1) (by omega) (by omega) (.inr ⟨hi, by omega⟩)
  refine ⟨fun i' hi' => ?_, fun i' j' hi' hj' h' => ?_⟩
  · unfold setF
    rw [if_neg (by omega)]
    exact h.1 i' hi'
  · unfold setF
    by_cases e : i' = i ∧ j' = j
    · obtain ⟨rfl, rfl⟩ := e
      rw [if_pos ⟨rfl, rfl⟩, hv, d0, d1, e1, e2, e3, d0, d1]
      by_cases exy : x = y
      · subst exy
        rw [if_pos rfl, Nf.lc_eq]
      · rw [if_neg exy, Nf.lc_ne exy]
    · rw [if_neg e]
      refine h.2 i' j' hi' hj' ?_
      rcases h' with h' | ⟨h1, h2⟩
      · exact .inl h'
      · exact .inr ⟨h1, by omega⟩
end Sm

/-! ## common_lengths: the rule -/
namespace Sm
open PySem L2
theorem wipe_oneL {σ : St} {j : Nat} {x : V} : wipe ((wipe σ [j]).set j (some x)) [j] = wipe σ [j] := by
  show ((σ.set j none).set j (some x)).set j none = σ.set j none
  rw [List.set_set, List.set_set]
theorem ext_updL {H H' : Hp} {D : Addr} {o : HO} (e : Ext H H') (h : H D = none) : Ext H (upd H' D o) := fun a u z => by
  rw [upd_ne fun w => by rw [w, h] at z; cases z]
  exact e a u z
structure StOk (a b : Nat) (v0 v1 : Addr) (L0 L1 : List Str) (σ : St) (H : Hp) : Prop where
  s0 : σ[a]? = some (some (.ref v0))
  s1 : σ[b]? = some (some (.ref v1))
  h0 : H v0 = some (.lst (L0.map V.str))
  h1 : H v1 = some (.lst (L1.map V.str))
theorem StOk.ext {a b : Nat} {v0 v1 : Addr} {L0 L1 : List Str} {σ : St} {H H' : Hp} (S : StOk a b v0 v1 L0 L1 σ H) (x : Ext H H') : StOk a b v0 v1 L0 L1 σ H' := ⟨S.s0, S.s1, x _ _ S.h0, x _ _ S.h1⟩
theorem StOk.set {a b i : Nat} {v0 v1 : Addr} {L0 L1 : List Str} {σ : St} {H : Hp} {w : Option V} (S : StOk a b v0 v1 L0 L1 σ H) (ha : a ≠ i) (hb : b ≠ i) : StOk a b v0 v1 L0 L1 (σ.set i w) H := ⟨by rw [List.getElem?_set_ne (Ne.symm ha)]; exact S.s0, by rw [List.getElem?_set_ne (Ne.symm hb)]; exact S.s1, S.h0, S.h1⟩
theorem fzl_strs {K : PySem.W.Frag} {mg : Str → Option Value} {m : List Addr} {H : Hp} : ∀ {L : List Str} {vs : List V}, FzL K mg m H vs (L.map D.str) → vs = L.map V.str
  | [], _, h => by cases h; rfl
  | s :: L, _, h => by
    cases h with
    | cons h t =>
      cases h
      rw [fzl_strs t]; rfl
theorem set_self {σ : St} {i : Nat} {w : Option V} (h : σ[i]? = some w) : σ.set i w = σ := by
  obtain ⟨h1, h2⟩ := List.getElem?_eq_some_iff.mp h
  rw [← h2]
  exact List.set_getElem_self h1
theorem rowV_zero {m : Nat} : rowV m (fun _ _ => 0) i = List.replicate (m + 1) (V.int 0) := by
  unfold rowV
  rw [List.map_const', List.length_range]
  rfl
theorem fzl_map {α : Type} {K : PySem.W.Frag} {mg : Str → Option Value} {m : List Addr} {H : Hp} {f : α → V} {g : α → D} : ∀ {l : List α}, (∀ x ∈ l, Fz K mg m H (f x) (g x)) → FzL K mg m H (l.map f) (l.map g)
  | [], _ => .nil
  | x :: l, h => .cons (h x List.mem_cons_self) (fzl_map fun y hy => h y (List.mem_cons_of_mem _ hy))
theorem fzl_get {K : PySem.W.Frag} {mg : Str → Option Value} {m : List Addr} {H : Hp} : ∀ {vs : List V} {ds : List D}, vs.length = ds.length → (∀ (i : Nat) (v : V) (d : D), vs[i]? = some v → ds[i]? = some d → Fz K mg m H v d) → FzL K mg m H vs ds
  | [], [], _, _ => .nil
  | v :: vs, d :: ds, hl, h => .cons (h 0 v d rfl rfl) (fzl_get (by simpa using hl) fun i w e h1 h2 => h (i + 1) w e h1 h2)
  | [], _ :: _, hl, _ => by simp at hl
  | _ :: _, [], hl, _ => by simp at hl
theorem fz_tab {K : PySem.W.Frag} {mg : Str → Option Value} {m : List Addr} {H : Hp} {pT : Addr} {qs : List Addr} {L0 L1 : List Str} {f : Nat → Nat → Nat} (T : Tab H pT qs L0.length L1.length f) (hG : GoodT L0 L1 L0.length 0 f) (np : pT ∉ m) (nq : ∀ q ∈ qs, q ∉ m) : Fz K mg m H (.ref pT) (tabD L0 L1) := by
  refine .lst np T.top (fzl_get (by simp [T.len]) fun i v d h1 h2 => ?_)
  rw [List.getElem?_map] at h1 h2
  obtain ⟨q, hq, rfl⟩ := Option.map_eq_some_iff.mp h1
  obtain ⟨i', hi, rfl⟩ := Option.map_eq_some_iff.mp h2
  obtain ⟨hil, hi⟩ := List.getElem?_eq_some_iff.mp hi
  rw [List.getElem_range] at hi
  subst hi
  rw [List.length_range] at hil
  refine .lst (nq q (List.mem_of_getElem? hq)) (T.row i q hq) (fzl_map fun j hj => ?_)
  have hj := List.mem_range.mp hj
  rw [hG.2 i j (by omega) (by omega) (.inl (by omega))]
  exact .int _
section
variable {X : Cx} {c : C0} {s1 s2 s3 : Stmt} {a b it io jo ix : Nat} {tN tA tB : TA} {tRow : TE} {tC : TT} {tS1 tS2 : TS}
theorem ss_lcs (hax : a ≠ ix) (hbx : b ≠ ix) (hat : a ≠ it) (hbt : b ≠ it) (hao : a ≠ io) (hbo : b ≠ io) (haj : a ≠ jo) (hbj : b ≠ jo) (hto : it ≠ io) (htj : it ≠ jo) (hoj : io ≠ jo)
    (h1 : PS X s1 (tAsg (tLc (iRng1 tN) (gName ix) tYes tRow [ix]) (gName it)))
    (h2 : PS X s2 (tFor (iRng3 tA) (gName io) (tFor (iRng3 tB) (gName jo) (tIfS tC tS1 tS2)))) (h3 : PS X s3 (tRet (tVar it)))
    (qN : ∀ σ H Q v0 v1 L0 L1, StOk a b v0 v1 L0 L1 σ H → Q [.int ((L0.length : Int) + 1)] H → tN σ H Q)
    (qRow : ∀ σ H Q v0 v1 L0 L1, StOk a b v0 v1 L0 L1 σ H → L1.length ≤ 1000 → (∀ H' p, Ext H H' → H' p = none → Q (.ref p) (upd H' p (.lst (List.replicate (L1.length + 1) (.int 0))))) → tRow σ H Q)
    (qA : ∀ σ H Q v0 v1 L0 L1, StOk a b v0 v1 L0 L1 σ H → Q [.int ((L0.length : Int) - 1), .int (-1), .int (-1)] H → tA σ H Q)
    (qB : ∀ σ H Q v0 v1 L0 L1, StOk a b v0 v1 L0 L1 σ H → Q [.int ((L1.length : Int) - 1), .int (-1), .int (-1)] H → tB σ H Q)
    (qC : ∀ σ H Q v0 v1 L0 L1 (i j : Nat) x y, StOk a b v0 v1 L0 L1 σ H → σ[io]? = some (some (.int (i : Int))) → σ[jo]? = some (some (.int (j : Int))) → L0[i]? = some x → L1[j]? = some y → Q (decide (x = y)) H → tC σ H Q)
    (qS1 : ∀ (D : Ends) σ H (pT q q' : Addr) trs row row' (i j w : Nat), σ[it]? = some (some (.ref pT)) → σ[io]? = some (some (.int (i : Int))) → σ[jo]? = some (some (.int (j : Int))) → H pT = some (.lst trs) → trs[i]? = some (.ref q) → trs[i + 1]? = some (.ref q') → H q = some (.lst row) → H q' = some (.lst row') →
      j < row.length → row'[j + 1]? = some (.int (w : Int)) → D.nx σ (upd H q (.lst (row.set j (.int ((w + 1 : Nat) : Int))))) → tS1 D σ H)
    (qS2 : ∀ (D : Ends) σ H (pT q q' : Addr) trs row row' (i j u w : Nat), σ[it]? = some (some (.ref pT)) → σ[io]? = some (some (.int (i : Int))) → σ[jo]? = some (some (.int (j : Int))) → H pT = some (.lst trs) → trs[i]? = some (.ref q) → trs[i + 1]? = some (.ref q') → H q = some (.lst row) → H q' = some (.lst row') →
      j < row.length → row'[j]? = some (.int (u : Int)) → row[j + 1]? = some (.int (w : Int)) → D.nx σ (upd H q (.lst (row.set j (.int ((max u w : Nat) : Int))))) → tS2 D σ H) :
    SSs X c [s1, s2, s3] (sLcs a b it io jo ix) := by
  refine (pss_cons h1 (pss_cons h2 (pss_cons h3 pss_nil))).imp fun E σ H q => ?_
  obtain ⟨m, g, o, A, e0, kk⟩ := q
  obtain ⟨L0, L1, ga, gb, gt, go, gj, z0, z1, gx, rfl⟩ := sLcs_inv e0
  obtain ⟨_, e1, F0⟩ := A.fz a _ ga
  obtain ⟨_, e2, F1⟩ := A.fz b _ gb
  cases F0 with
  | lst n0 e3 t0 =>
  cases F1 with
  | lst n1 e4 t1 =>
  rename_i v0 vs0 v1 vs1
  cases fzl_strs t0
  cases fzl_strs t1
  have S0 : StOk a b v0 v1 L0 L1 σ H := ⟨e1, e2, e3, e4⟩
  have lt : ∀ {k : Nat}, g[k]? = some .un → k < σ.length := fun {k} h => by
    rw [← A.len]
    exact (List.getElem?_eq_some_iff.mp h).1
  have hsz : (1002 : Nat) < sizeLine := by decide
  refine qN _ _ _ _ _ _ _ S0 ⟨_, rfl, by omega, by omega, fun pT hpT => ⟨fun n mm H' => mm = L0.length + 1 - n ∧ n ≤ L0.length + 1 ∧ ∃ qs : List Addr, qs.length = n ∧ Ext H H' ∧ (pT :: qs).Nodup ∧ H' pT = some (.lst (qs.map V.ref)) ∧ (∀ q ∈ qs, H' q = some (.lst (List.replicate (L1.length + 1) (.int 0)))) ∧ ∀ q ∈ qs, H q = none,
    ⟨L0.length + 1, rfl, Nat.zero_le _, [], rfl, Ext.new hpT, List.nodup_cons.mpr ⟨(fun z => nomatch z), List.nodup_nil⟩, upd_same, (fun _ z => nomatch z), (fun _ z => nomatch z)⟩, ?_⟩⟩
  rintro n mm H' ⟨rfl, hn, qs, hq1, hx, hq2, hq3, hq4, hq5⟩
  by_cases hlt : n < L0.length + 1
  · refine .inr ⟨by show n < ((L0.length : Int) + 1).toNat; omega, fun H'' => ∃ qs : List Addr, qs.length = n + 1 ∧ Ext H H'' ∧ (pT :: qs).Nodup ∧ H'' pT = some (.lst (qs.map V.ref)) ∧ (∀ q ∈ qs, H'' q = some (.lst (List.replicate (L1.length + 1) (.int 0)))) ∧ ∀ q ∈ qs, H q = none,
      fun H'' z => ⟨L0.length + 1 - (n + 1), by omega, rfl, by omega, z⟩, fun xv H'' yy => ?_⟩
    obtain ⟨rfl, rfl⟩ := yy
    refine ⟨wipe_oneL, ?_⟩
    unfold tYes
    dsimp only
    rw [if_pos rfl]
    have S2 : StOk a b v0 v1 L0 L1 ((wipe σ [ix]).set ix (some (.int (0 + (n : Int))))) H'' := ((S0.ext hx).set hax hbx).set hax hbx
    refine qRow _ _ _ _ _ _ _ S2 z1 fun H3 p x3 hp => ?_
    have hpT3 : H3 pT = some (.lst (qs.map V.ref)) := x3 _ _ hq3
    have npT : p ≠ pT := fun z => by rw [z, hpT3] at hp; cases hp
    have npq : ∀ q ∈ qs, q ≠ p := fun q hq z => by
      have := x3 _ _ (hq4 q hq)
      rw [z, hp] at this
      cases this
    have hp0 : H p = none := by
      cases hh : H p with
      | none => rfl
      | some o => have := x3 _ _ (hx _ _ hh); rw [hp] at this; cases this
    refine ⟨qs.map V.ref, by rw [upd_ne (Ne.symm npT)]; exact hpT3, by rw [List.length_map]; omega, qs ++ [p], by rw [List.length_append, hq1]; rfl, ?_, ?_, by rw [upd_same, List.map_append]; rfl, ?_, ?_⟩
    · exact ext_updL (ext_updL (hx.trans x3) hp0) hpT
    · have hnd := List.nodup_cons.mp hq2
      refine List.nodup_cons.mpr ⟨fun z => ?_, List.nodup_append.mpr ⟨hnd.2, List.nodup_cons.mpr ⟨(fun z => nomatch z), List.nodup_nil⟩, fun q hq q' hq' => ?_⟩⟩
      · rcases List.mem_append.mp z with z | z
        · exact hnd.1 z
        · exact npT (List.mem_singleton.mp z).symm
      · rw [List.mem_singleton.mp hq']
        exact npq q hq
    · intro q hq
      rcases List.mem_append.mp hq with hq | hq
      · have nq : q ≠ pT := fun z => (List.nodup_cons.mp hq2).1 (by rw [← z]; exact hq)
        rw [upd_ne nq, upd_ne (npq q hq)]
        exact x3 _ _ (hq4 q hq)
      · rw [List.mem_singleton.mp hq, upd_ne npT, upd_same]
    · intro q hq
      rcases List.mem_append.mp hq with hq | hq
      · exact hq5 q hq
      · rw [List.mem_singleton.mp hq]; exact hp0
  · refine .inl ⟨by show ((L0.length : Int) + 1).toNat ≤ n; omega, ?_⟩
    have hnn : n = L0.length + 1 := by omega
    subst hnn
    have T0 : Tab H' pT qs L0.length L1.length (fun _ _ => 0) := ⟨hq1, hq2, hq3, fun i q h => by rw [rowV_zero]; exact hq4 q (List.mem_of_getElem? h)⟩
    show tFor (iRng3 tA) (gName io) _ _ (σ.set it (some (V.ref pT))) H'
    generalize hσ1 : σ.set it (some (V.ref pT)) = σ1
    have S1 : StOk a b v0 v1 L0 L1 σ1 H' := by rw [← hσ1]; exact (S0.ext hx).set hat hbt
    have hit : σ1[it]? = some (some (.ref pT)) := by rw [← hσ1]; exact List.getElem?_set_self (lt gt)
    have hlen : σ1.length = σ.length := by rw [← hσ1, List.length_set]
    have lo : io < σ1.length := by rw [hlen]; exact lt go
    have lj : jo < σ1.length := by rw [hlen]; exact lt gj
    have npm : pT ∉ m := fun z => A.trk pT z hpT
    have nqm : ∀ q ∈ qs, q ∉ m := fun q hq z => A.trk q z (hq5 q hq)
    have keep : ∀ {H2 : Hp} {q : Addr} {o : HO}, Ext H H2 → q ∈ qs → Ext H (upd H2 q o) := fun x hq => ext_updL x (hq5 _ hq)
    clear hq4
    have rgA : ∀ n : Nat, n ≤ 1000 → RgC ((n : Int) - 1) (-1) (-1) n := fun n hn => by
      have := RgC.neg (i := (n : Int) - 1) (j := -1) (by omega) (by omega) (by omega) (by omega)
      rwa [show ((n : Int) - 1 - -1).toNat = n by omega] at this
    refine qA _ _ _ _ _ _ _ S1 ⟨_, _, _, L0.length, rfl, rgA _ z0, fun k mm σ' H2 => mm = L0.length - k ∧ k ≤ L0.length ∧ ∃ (w1 w2 : Option V) (f : Nat → Nat → Nat), σ' = (σ1.set io w1).set jo w2 ∧ Ext H H2 ∧ Tab H2 pT qs L0.length L1.length f ∧ GoodT L0 L1 k 0 f,
      ⟨L0.length, rfl, Nat.zero_le _, σ1[io], σ1[jo], _, by rw [set_self (List.getElem?_eq_getElem lo), set_self (List.getElem?_eq_getElem lj)], hx, T0, good_start⟩, ?_⟩
    rintro k mm σ' H2 ⟨rfl, hk, w1, w2, f, rfl, x2, T2, G2⟩
    have S2 : StOk a b v0 v1 L0 L1 ((σ1.set io w1).set jo w2) H2 := ⟨((S1.set hao hbo).set haj hbj).s0, ((S1.set hao hbo).set haj hbj).s1, x2 _ _ e3, x2 _ _ e4⟩
    by_cases hkl : k < L0.length
    · obtain ⟨i, hi⟩ : ∃ i, i + k + 1 = L0.length := ⟨L0.length - 1 - k, by omega⟩
      refine .inr ⟨hkl, fun σ' H2 => ∃ (w1 w2 : Option V) (f : Nat → Nat → Nat), σ' = (σ1.set io w1).set jo w2 ∧ Ext H H2 ∧ Tab H2 pT qs L0.length L1.length f ∧ GoodT L0 L1 (k + 1) 0 f, fun σ' H3 z => ⟨L0.length - (k + 1), by omega, rfl, hkl, z⟩, fun xv H3 yy => ?_⟩
      obtain ⟨rfl, rfl⟩ := yy
      rw [show (L0.length : Int) - 1 + (k : Nat) * (-1) = (i : Int) by omega]
      show tFor (iRng3 tB) (gName jo) _ _ (((σ1.set io w1).set jo w2).set io (some (.int (i : Int)))) H3
      rw [List.set_comm _ _ (Ne.symm hoj), List.set_set]
      have S3 : StOk a b v0 v1 L0 L1 ((σ1.set io (some (.int (i : Int)))).set jo w2) H3 := ⟨((S1.set hao hbo).set haj hbj).s0, ((S1.set hao hbo).set haj hbj).s1, x2 _ _ e3, x2 _ _ e4⟩
      refine qB _ _ _ _ _ _ _ S3 ⟨_, _, _, L1.length, rfl, rgA _ z1, fun l mm σ' H2 => mm = L1.length - l ∧ l ≤ L1.length ∧ ∃ (w2 : Option V) (f : Nat → Nat → Nat), σ' = (σ1.set io (some (.int (i : Int)))).set jo w2 ∧ Ext H H2 ∧ Tab H2 pT qs L0.length L1.length f ∧ GoodT L0 L1 k l f,
        ⟨L1.length, rfl, Nat.zero_le _, _, _, rfl, x2, T2, G2⟩, ?_⟩
      clear S2 S3 x2 T2 G2
      rintro l mm σ' H2 ⟨rfl, hl, w2, f, rfl, x2, T2, G2⟩
      by_cases hll : l < L1.length
      · obtain ⟨j, hj⟩ : ∃ j, j + l + 1 = L1.length := ⟨L1.length - 1 - l, by omega⟩
        refine .inr ⟨hll, fun σ' H2 => ∃ (w2 : Option V) (f : Nat → Nat → Nat), σ' = (σ1.set io (some (.int (i : Int)))).set jo w2 ∧ Ext H H2 ∧ Tab H2 pT qs L0.length L1.length f ∧ GoodT L0 L1 k (l + 1) f, fun σ' H3 z => ⟨L1.length - (l + 1), by omega, rfl, hll, z⟩, fun xv H4 yy => ?_⟩
        obtain ⟨rfl, rfl⟩ := yy
        rw [show (L1.length : Int) - 1 + (l : Nat) * (-1) = (j : Int) by omega]
        show tIfS tC tS1 tS2 _ (((σ1.set io (some (.int (i : Int)))).set jo w2).set jo (some (.int (j : Int)))) H4
        rw [List.set_set]
        have S4 : StOk a b v0 v1 L0 L1 ((σ1.set io (some (.int (i : Int)))).set jo (some (.int (j : Int)))) H4 := ⟨((S1.set hao hbo).set haj hbj).s0, ((S1.set hao hbo).set haj hbj).s1, x2 _ _ e3, x2 _ _ e4⟩
        have gi : ((σ1.set io (some (.int (i : Int)))).set jo (some (V.int (j : Int))))[io]? = some (some (.int (i : Int))) := by rw [List.getElem?_set_ne (Ne.symm hoj)]; exact List.getElem?_set_self lo
        have gj2 : ((σ1.set io (some (V.int (i : Int)))).set jo (some (.int (j : Int))))[jo]? = some (some (.int (j : Int))) := List.getElem?_set_self (by rw [List.length_set]; exact lj)
        have gt2 : ((σ1.set io (some (V.int (i : Int)))).set jo (some (V.int (j : Int))))[it]? = some (some (.ref pT)) := by rw [List.getElem?_set_ne (Ne.symm htj), List.getElem?_set_ne (Ne.symm hto)]; exact hit
        obtain ⟨x, hX⟩ : ∃ x, L0[i]? = some x := ⟨_, List.getElem?_eq_getElem (by omega)⟩
        obtain ⟨y, hY⟩ : ∃ y, L1[j]? = some y := ⟨_, List.getElem?_eq_getElem (by omega)⟩
        obtain ⟨q, hq⟩ : ∃ q, qs[i]? = some q := ⟨_, List.getElem?_eq_getElem (by rw [hq1]; omega)⟩
        obtain ⟨q', hq'⟩ : ∃ q', qs[i + 1]? = some q' := ⟨_, List.getElem?_eq_getElem (by rw [hq1]; omega)⟩
        have hqm : q ∈ qs := List.mem_of_getElem? hq
        have tq : (qs.map V.ref)[i]? = some (.ref q) := by rw [List.getElem?_map, hq]; rfl
        have tq' : (qs.map V.ref)[i + 1]? = some (.ref q') := by rw [List.getElem?_map, hq']; rfl
        refine qC _ _ _ _ _ _ _ i j x y S4 gi gj2 hX hY ?_
        by_cases exy : x = y
        · rw [if_pos (decide_eq_true exy)]
          refine qS1 _ _ _ pT q q' _ _ _ i j _ gt2 gi gj2 T2.top tq tq' (T2.row i q hq) (T2.row (i + 1) q' hq') (by rw [rowV_len]; omega) (rowV_get (by omega)) ?_
          exact ⟨_, _, rfl, keep x2 hqm, T2.set hq, good_cell G2 hi hj hX hY (by rw [if_pos exy])⟩
        · rw [if_neg (by simpa using exy)]
          refine qS2 _ _ _ pT q q' _ _ _ i j _ _ gt2 gi gj2 T2.top tq tq' (T2.row i q hq) (T2.row (i + 1) q' hq') (by rw [rowV_len]; omega) (rowV_get (by omega)) (rowV_get (by omega)) ?_
          exact ⟨_, _, rfl, keep x2 hqm, T2.set hq, good_cell G2 hi hj hX hY (by rw [if_neg exy])⟩
      · refine .inl ⟨by show L1.length ≤ l; omega, ?_⟩
        obtain rfl : l = L1.length := by omega
        exact ⟨_, _, f, rfl, x2, T2, good_next G2⟩
    · refine .inl ⟨by show L0.length ≤ k; omega, ?_⟩
      obtain rfl : k = L0.length := by omega
      refine ⟨.ref pT, ?_, ?_⟩
      · rw [List.getElem?_set_ne (Ne.symm htj), List.getElem?_set_ne (Ne.symm hto)]; exact hit
      · have A1 := (((A.setW (w := some (.ref pT)) gt).1.setW (w := w1) go).1.setW (w := w2) gj).1.ext x2
        rw [hσ1] at A1
        exact kk _ m _ _ A1 (fz_tab T2 G2 npm nqm)
end
end Sm

set_option maxHeartbeats 1000000
namespace Sm
open PySem L2
theorem flat_rep {α : Type} {x : α} : ∀ n : Nat, (List.replicate n [x]).flatten = List.replicate n x
  | 0 => rfl
  | n + 1 => by rw [List.replicate_succ, List.replicate_succ, List.flatten_cons, flat_rep n]; rfl
theorem lcs_rep {H : Hp} {p0 : Addr} {L1 : List Str} {Q : VK} (hz : L1.length ≤ 1000) (hp0 : H p0 = none) (q : ∀ H' p, Ext H H' → H' p = none → Q (.ref p) (upd H' p (.lst (List.replicate (L1.length + 1) (.int 0))))) :
    rRep (.ref p0) (.int (((L1.map V.str).length : Int) + 1)) (upd H p0 (.lst [.int 0])) Q := by
  refine ⟨p0, _, [.int 0], rfl, rfl, upd_same, by rw [List.length_map]; omega, by rw [List.length_map]; omega, ?_, fun p hp => ?_⟩
  · rw [List.length_map, sizeLine_eq]
    simp
    omega
  · rw [flat_rep, List.length_map, show ((L1.length : Int) + 1).toNat = L1.length + 1 by omega]
    exact q _ p (Ext.new hp0) hp
theorem ixnV {n i : Nat} (h : i < n) : ixN n (i : Int) = some i := by
  unfold ixN
  rw [if_pos (Int.natCast_nonneg i), if_pos (by omega), Int.toNat_natCast]
theorem atV_of {α : Type} {xs : List α} {i : Nat} {x : α} (h : xs[i]? = some x) : L2.atI xs (i : Int) = some x := by
  have hi : i < xs.length := (List.getElem?_eq_some_iff.mp h).1
  unfold L2.atI ixN
  rw [if_pos (Int.natCast_nonneg i), if_pos (by omega), Option.bind_some, Int.toNat_natCast]
  exact h
theorem lcs_at {L : List Str} {i : Nat} {x : Str} (h : L[i]? = some x) : L2.atI (L.map V.str) (i : Int) = some (.str x) := atV_of (by rw [List.getElem?_map, h]; rfl)
theorem lcs_dec {x y : Str} {H : Hp} {Q : Bool → Hp → Prop} (q : Q (decide (x = y)) H) : Q (decide (V.str x = V.str y)) H := by
  have : decide (V.str x = V.str y) = decide (x = y) := by simp
  rw [this]
  exact q
theorem lcs_max {u w : Nat} : (if (w : Int) > (u : Int) then (w : Int) else (u : Int)) = ((max u w : Nat) : Int) := by
  split <;> omega
end Sm

/-! ## Live as an owned composite: its chain and what it knows are frozen, its lines are its own; a new composite whose slot alone is forgotten behind its statement -/
namespace Sm
open PySem L2
/-- the first and the third list of a new composite are frozen at once -/
def frz13 (f : MN) : MN := fun g => match f g with
  | some ((k, [.pl a, .pl b, .pl d]), g') => some ((k, [.pd (.lst a), .pl b, .pd (.lst d)]), g')
  | _ => none
theorem strip_pl3 {cs : List F} {a b d : List D} (h : strip cs = [.pl a, .pl b, .pl d]) : ∃ q1 q2 q3, cs = [.fl q1 a, .fl q2 b, .fl q3 d] := by
  match cs, h with
  | [.fl q1 _, .fl q2 _, .fl q3 _], h => cases h; exact ⟨q1, q2, q3, rfl⟩
  | [.fl q1 _, .fl q2 _, .fd _], h => cases h
  | [.fl q1 _, .fd _, x], h => cases x <;> cases h
  | [.fd _, x, y], h => cases x <;> cases y <;> cases h
  | [], h => cases h
  | [x], h => cases x <;> cases h
  | [x, y], h => cases x <;> cases y <;> cases h
  | x :: y :: z :: u :: t, h => cases x <;> cases y <;> cases z <;> cases u <;> cases h
section
variable {X : Cx} {c : C0} {e : Expr} {f : MN}
theorem sn_frz13 (h : SN X c e f) : SN X c e (frz13 f) := h.imp fun σ H Q q => by
  obtain ⟨m, g, k, ps, g', A, e, kq⟩ := q
  unfold frz13 at e
  split at e
  · rename_i k0 a b d g0 e0
    cases e
    refine ⟨m, g, _, _, _, A, e0, fun v m' H' cs hcs A1 S1 N1 => ?_⟩
    obtain ⟨q1, q2, q3, rfl⟩ := strip_pl3 hcs
    obtain ⟨p, o, vs, rfl, hm, hp, ho, hc, nd, fr⟩ := N1
    match vs, hc with
    | [v1, v2, v3], .cons (f := .fl _ _) ⟨e1, m1, w1, h1, f1⟩ (.cons (f := .fl _ _) ⟨e2, m2, w2, h2, f2⟩ (.cons (f := .fl _ _) ⟨e3, m3, w3, h3, f3⟩ .nil)) =>
    have nd' : (p :: q1 :: q2 :: q3 :: ([] : List Addr)).Nodup := nd
    simp only [List.nodup_cons, List.mem_cons, List.not_mem_nil, or_false, not_or, List.nodup_nil, and_true, not_false_eq_true] at nd'
    obtain ⟨⟨n1, n2, n3⟩, ⟨n4, n5⟩, n6⟩ := nd'
    have i1 : q1 = p ∨ q1 ∈ qs [F.fl q1 a, F.fl q2 b, F.fl q3 d] := .inr (by simp [qs])
    have i2 : q2 = p ∨ q2 ∈ qs [F.fl q1 a, F.fl q2 b, F.fl q3 d] := .inr (by simp [qs])
    have i3 : q3 = p ∨ q3 ∈ qs [F.fl q1 a, F.fl q2 b, F.fl q3 d] := .inr (by simp [qs])
    have A2 := (A1.drop (fr q1 i1).1 (fr q1 i1).2.1).drop (fr q3 i3).1 (fr q3 i3).2.1
    have in2 : ∀ x, x ∈ m' → x ≠ q1 → x ≠ q3 → x ∈ less (less m' q1) q3 := fun x hx h1 h3 => mem_less.mpr ⟨mem_less.mpr ⟨hx, h1⟩, h3⟩
    have o1 : q1 ∉ less (less m' q1) q3 := fun z => (mem_less.mp (mem_less.mp z).1).2 rfl
    have o3 : q3 ∉ less (less m' q1) q3 := fun z => (mem_less.mp z).2 rfl
    refine kq (.ref p) (less (less m' q1) q3) H' [.fd (.lst a), .fl q2 b, .fd (.lst d)] rfl A2 ⟨fun x z => S1.fr x (mem_less.mp (mem_less.mp z).1).1, S1.kp, fun x z w => ?_, S1.ow, S1.tk⟩ ⟨p, o, [v1, v2, v3], rfl, in2 p hm n1 n3, hp, ho, ?_, ?_, ?_⟩
    · rcases S1.mo x z w with q | q
      · by_cases y1 : x = q1
        · rcases (fr q1 i1).2.2 with t | t
          · exact .inr (y1 ▸ t)
          · rw [y1, t] at w; exact absurd rfl w
        · by_cases y3 : x = q3
          · rcases (fr q3 i3).2.2 with t | t
            · exact .inr (y3 ▸ t)
            · rw [y3, t] at w; exact absurd rfl w
          · exact .inl (in2 x q y1 y3)
      · exact .inr q
    · subst e1; subst e3
      exact .cons (f := .fd (.lst a)) (.lst o1 h1 f1.less.less) (.cons (f := .fl q2 b) ⟨e2, in2 q2 m2 (Ne.symm n4) n6, w2, h2, f2.less.less⟩ (.cons (f := .fd (.lst d)) (.lst o3 h3 f3.less.less) .nil))
    · show (p :: q2 :: ([] : List Addr)).Nodup
      simp only [List.nodup_cons, List.mem_cons, List.not_mem_nil, or_false, List.nodup_nil, and_true, not_false_eq_true]
      exact n2
    · intro x hx
      refine fr x ?_
      rcases hx with hx | hx
      · exact .inl hx
      · have hx : x ∈ q2 :: ([] : List Addr) := hx
        rcases List.mem_cons.mp hx with hx | hx
        · rw [hx]; exact i2
        · cases hx
  · cases e
end
/-! ### a new composite; its slot alone is forgotten behind the rest -/
def setO (i : Nat) : O → O
  | .nx g => .nx (g.set i .un)
  | .rt r g => .rt r (g.set i .un)
  | .bk g => .bk (g.set i .un)
  | .ct g => .ct (g.set i .un)
  | .xc C x g => .xc C x (g.set i .un)
section
variable {K : PySem.W.Frag} {mg : Str → Option Value} {c : C0} {m : List Addr} {g : G} {σ : St} {H : Hp}
theorem Fin.lose1 {D : Ends} {o : O} {i : Nat} (hp : c.pa i = none) (h : Fin K mg c D m g σ H (setO i o)) : Fin K mg c D m g σ H o := by
  cases o with
  | nx g1 => exact fun m' σ' H' A S => h m' σ' H' (A.lose hp) S.forget
  | bk g1 => exact fun m' σ' H' A S => h m' σ' H' (A.lose hp) S.forget
  | ct g1 => exact fun m' σ' H' A S => h m' σ' H' (A.lose hp) S.forget
  | rt r g1 => exact fun v m' σ' H' A V => h v m' σ' H' (A.lose hp) V.forget
  | xc C x g1 => exact fun cls d m' σ' H' A S X => h cls d m' σ' H' (A.lose hp) S.forget X
/-- slot i is none that is handed in to be changed -/
def noIn1 (g : G) (i : Nat) : Bool := match g[i]? with
  | some (.ol true _) => false
  | some (.ob true _ _) => false
  | _ => true
theorem noIn1_pa (A : Abs K mg c m g σ H) {i : Nat} (h : noIn1 g i = true) : c.pa i = none := by
  cases hz : c.pa i with
  | none => rfl
  | some p =>
    unfold noIn1 at h
    rcases (A.pas i p hz).2 with ⟨l, h5⟩ | ⟨k', cs', h5⟩
    · rw [h5] at h; cases h
    · rw [h5] at h; cases h
end
noncomputable def sNewR (i : Nat) (fe : MN) (fr : G → Option O) : G → Option O := fun g => match fe g with
  | some ((k, ps), g1) => open Classical in if h : (notT g1 i = true ∧ noIn1 g1 i = true) ∧ ∃ o, ∀ cs, strip cs = ps → (qs cs).Nodup → ∃ o', fr (g1.set i (.ob false k cs)) = some o' ∧ setO i o' = o then some h.2.choose else none
  | none => none
section
variable {X : Cx} {c : C0} {e : Expr} {fe : MN} {fr : G → Option O} {rest : List Stmt} {pos pos' : Pos} {i : Nat} {x : Str}
theorem ss_newR (hN : X.N.Nodup) (hi : X.N[i]? = some x) (hx : Loc X.env.scope x) (he : SN X c e fe) (hr : SSs X c rest fr) (hs : swapsWith e (some (.Name x pos')) pos.line X.env = pure false := by rfl) (hf : X.fn x = true ∨ X.env.scope.names.lookup x = some .local := by first | exact .inl rfl | exact .inr rfl | assumption) :
    SSs X c (.Assign [.Name x pos'] e pos :: rest) (sNewR i fe fr) := (pss_cons (ps_set hN hi hx he hs hf) hr).imp fun D σ H q => by
  obtain ⟨m, g, o, A, e, k⟩ := q
  unfold sNewR at e
  split at e
  · rename_i kk ps g1 e1
    split at e
    · rename_i hh
      cases e
      refine ⟨m, g, kk, ps, g1, A, e1, fun v m1 H1 cs hcs A1 S1 N1 => ?_⟩
      have nd : (qs cs).Nodup := by
        obtain ⟨_, _, _, _, _, _, _, _, nd, _⟩ := N1
        exact (List.nodup_cons.mp nd).2
      obtain ⟨o', h1, h2⟩ := hh.2.choose_spec cs hcs nd
      obtain ⟨A2, S2⟩ := N1.store S1 A1 hh.1.1
      refine ⟨m1, _, o', A2, h1, ?_⟩
      have k2 : Fin X.K X.mg c D m g σ H (setO i o') := by rw [h2]; exact k
      exact (Fin.lose1 (noIn1_pa A1 hh.1.2) k2).from S2
    · cases e
  · cases e
end
end Sm

/-! ## calls that change several of their arguments: flags tell which -/
namespace Sm
open PySem L2
def back : G → List R → List Bool → G → Option G
  | g, [], [], _ => some g
  | g, _ :: rs, false :: fl, _ :: gc => back g rs fl gc
  | g, .sl i :: rs, true :: fl, s :: gc => match g[i]?, s with
    | some (.ol b _), .ol true l' => back (g.set i (.ol b l')) rs fl gc
    | some (.ob b k _), .ob true _ cs' => back (g.set i (.ob b k cs')) rs fl gc
    | _, _ => none
  | _, _, _, _ => none
def AR (K : PySem.W.Frag) (mg : Str → Option Value) (m : List Addr) (g : G) (σ : St) (H : Hp) (v : V) : R → Bool → Slot → Prop
  | _, false, .fz d => Fz K mg m H v d
  | .sl i, true, .ol true l => σ[i]? = some (some v) ∧ ∃ b, g[i]? = some (.ol b l)
  | .sl i, true, .ob true k cs => σ[i]? = some (some v) ∧ ∃ b, g[i]? = some (.ob b k cs)
  | _, _, _ => False
inductive ARs (K : PySem.W.Frag) (mg : Str → Option Value) (m : List Addr) (g : G) (σ : St) (H : Hp) : List V → List R → List Bool → G → Prop
  | nil : ARs K mg m g σ H [] [] [] []
  | cons {v : V} {r : R} {b : Bool} {s : Slot} {vs : List V} {rs : List R} {fl : List Bool} {ss : G} : AR K mg m g σ H v r b s → ARs K mg m g σ H vs rs fl ss → ARs K mg m g σ H (v :: vs) (r :: rs) (b :: fl) (s :: ss)
section
variable {K : PySem.W.Frag} {mg : Str → Option Value} {c : C0} {m m1 m2 : List Addr} {g g1 g2 : G} {σ σ1 σ2 : St} {H H1 H2 : Hp}
theorem ARs.len : ∀ {vs : List V} {rs : List R} {fl : List Bool} {ss : G}, ARs K mg m g σ H vs rs fl ss → ss.length = vs.length
  | _, _, _, _, .nil => rfl
  | _, _, _, _, .cons _ t => congrArg Nat.succ t.len
theorem ARs.get {s : Slot} : ∀ {vs : List V} {rs : List R} {fl : List Bool} {ss : G} {j : Nat}, ARs K mg m g σ H vs rs fl ss → ss[j]? = some s → ∃ v r b, vs[j]? = some v ∧ rs[j]? = some r ∧ fl[j]? = some b ∧ AR K mg m g σ H v r b s
  | _, _, _, _, 0, .cons h _, e => by cases e; exact ⟨_, _, _, rfl, rfl, rfl, h⟩
  | _, _, _, _, j + 1, .cons _ t, e => ARs.get (j := j) t e
theorem ARs.at {r : R} : ∀ {vs : List V} {rs : List R} {fl : List Bool} {ss : G} {j : Nat}, ARs K mg m g σ H vs rs fl ss → rs[j]? = some r → ∃ v s b, vs[j]? = some v ∧ ss[j]? = some s ∧ fl[j]? = some b ∧ AR K mg m g σ H v r b s
  | _, _, _, _, 0, .cons h _, e => by cases e; exact ⟨_, _, _, rfl, rfl, rfl, h⟩
  | _, _, _, _, j + 1, .cons _ t, e => ARs.at (j := j) t e
/-- what a slot that is handed in to be changed stands for -/
theorem AR.own {v : V} {r : R} {b : Bool} {s : Slot} {a : Addr} (h : AR K mg m g σ H v r b s) (o : SOwn s (some (some v)) a) : ∃ i, r = .sl i ∧ b = true ∧ σ[i]? = some (some v) ∧ ∃ t, g[i]? = some t ∧ SOwn t σ[i]? a := by
  unfold AR at h
  split at h
  · exact o.elim
  · rename_i i l
    obtain ⟨h1, b, h2⟩ := h
    exact ⟨i, rfl, rfl, h1, _, h2, by rw [h1]; exact o⟩
  · rename_i i k cs
    obtain ⟨h1, b, h2⟩ := h
    exact ⟨i, rfl, rfl, h1, _, h2, by rw [h1]; exact o⟩
  · exact h.elim
end
section
variable {X : Cx} {c : C0} {a b e : Expr} {es : List Expr} {pos : Pos} {fe : G → Option (R × G)} {fs : G → Option (List R × G)}
variable {k : Nat} {f : Addr} {fd : FuncData} {ps : List Str} {x : Str} {p : Pos} {n nn : Nat} {B : G → Option O}
end
end Sm

/-! ## == by an own __eq__, isinstance of an own class, two new composites at once -/
namespace Sm
open PySem L2
section
variable {X : Cx} {c : C0} {e a b : Expr} {pos : Pos} {fe fa fb : G → Option (R × G)} {C : Str} {Ca fI : Addr} {n k nn : Nat} {fd : FuncData} {ps : List Str} {B : G → Option O}
/-! ### isinstance of an own class -/
structure IsC (K : PySem.W.Frag) (C : Addr) : Prop where
  ca : PySem.W.findIn K (.ref C) "__class__" = some (some (.builtin "object.__class__"))
  cn : PySem.W.specialIn K (.builtin "object.__class__") "__get__" = some (some (.builtin "getset_descriptor.__get__"))
  ct : PySem.W.takesIn K (.builtin "object.__class__") = some true
  cm : PySem.W.mroIn K C (.type "object") = some true
  k1 : PySem.W.kitOne K (.ref C) (.ref C) = some true
  k0 : ∀ t ∈ ["NoneType", "str", "int", "list"], PySem.W.kitOne K (.type t) (.ref C) = some false
end
/-! ### two new composites at once -/
section
variable {K : PySem.W.Frag} {mg : Str → Option Value} {c : C0} {m m0 m1 m2 : List Addr} {g g0 g1 g2 : G} {σ σ0 : St} {H H0 H1 H2 : Hp} {v : V}
theorem NewOb.step {k : OK} {cs : List F} (A1 : Abs K mg c m1 g1 σ H1) (S2 : Stp m1 g1 σ H1 m2 g2 σ H2) (h : NewOb K mg c g0 σ0 H0 m1 g1 σ H1 v k cs) : NewOb K mg c g0 σ0 H0 m2 g2 σ H2 v k cs := by
  obtain ⟨p, o, us, rfl, hm, hp, ho, hc, nd, fr⟩ := h
  have mv : ∀ a, (a = p ∨ a ∈ qs cs) → a ∈ m1 → H1 a ≠ none → a ∈ m2 ∧ H2 a = H1 a := fun a ha h1 h2 => by
    refine ⟨(S2.mo a h1 h2).resolve_right (fr a ha).1, ?_⟩
    cases z : H1 a with
    | none => exact absurd z h2
    | some o => exact S2.kp a o (fr a ha).1 z
  obtain ⟨hpm, hph⟩ := mv p (.inl rfl) hm (by rw [hp]; exact fun z => nomatch z)
  refine ⟨p, o, us, rfl, hpm, by rw [hph]; exact hp, ho, hc.map (Stp.fzk A1 S2) fun q z => mv q (.inr z) (hc.mem q z).1 (hc.mem q z).2, nd, fun a ha => ⟨fun w => ?_, (fr a ha).2⟩⟩
  rcases S2.ow a w with w | w
  · exact (fr a ha).1 w
  · have : H1 a ≠ none := by
      rcases ha with ha | ha
      · rw [ha, hp]; exact fun z => nomatch z
      · exact (hc.mem a ha).2
    exact this w
end
section
variable {X : Cx} {c : C0} {a b : Expr} {f1 f2 : MN} {fr : G → Option O} {rest : List Stmt} {pos : Pos}
end
end Sm

/-! ## != where only __eq__ is the class's own; an instance in a list of other things -/
namespace NeX
open PySem PySem.Spec PyProof.Rows PySem.SeqAt
open AutoSeq1 (wpAny_loadPart')
section
variable {M : Model} {prog : Program} {w : World} {A : Around} {E : Value → Shared → Prop} {s : Shared} {K : PySem.W.Frag} {x C f L : Addr} {ox : Obj} {od : Option Obj} {h₀ : Heap} {m : Str → Option Value}
/-! ### the other side declines -/
end
/-! ### in, where each comparison answers False -/
section
open MeetsSeq MeetsSeq2 MeetsSeq3 SeqRoads2
variable {prog : Program} {w : World} {A : Around} {R : Result → Shared → Prop}
end
end NeX

/-! ## != and in of an instance with an own __eq__ -/
namespace Sm
open PySem L2
structure NeC (K : PySem.W.Frag) (C : Addr) : Prop where
  ne : PySem.W.findIn K (.ref C) "__ne__" = some (some (.builtin "object.__ne__"))
  ob : PySem.W.mroIn K C (.type "object") = some true
  s0 : ∀ t ∈ ["NoneType", "str", "int", "list"], PySem.W.subIn K (.ref C) (.type t) = some false
section
variable {X : Cx} {CX : CXT} {n : Nat} {C f : Addr} {fd : FuncData} {ps : List Str} {sp : Sp} {E : XK}
end
end Sm

/-! ## != and in of an instance: rules -/
namespace Sm
open PySem L2
section
variable {X : Cx} {c : C0}
end
section
variable {X : Cx} {c : C0} {a b : Expr} {pos : Pos} {fa fb : G → Option (R × G)} {C : Str} {Ca fI : Addr} {n k nn : Nat} {fd : FuncData} {ps : List Str} {B : G → Option O}
end
end Sm

/-! ## try .. except C as n: suite, and the rest behind it, where the exception stays known -/
namespace Sm
open PySem PySem.Spec PyProof.Rows L2
/-- the wish of the body: the suite, then the rest with the exception pinned -/
def wKeep (K : PySem.W.Frag) (c : Value) (i : Nat) (ts tr : Addr → Value → Option Addr → TS) (Wout : WX) (D : Ends) : WX := fun cls d σ H =>
  ∃ b, PySem.W.exmOne K cls c = some b ∧ (b = true → ∀ a, H a = none → ts a cls d { nx := fun σ' H' => tr a cls d D (σ'.set i none) H', rt := D.rt, bk := fun σ' H' => D.bk (σ'.set i none) H', ct := fun σ' H' => D.ct (σ'.set i none) H' } (σ.set i (some (.ref a))) H) ∧
    (b = false → Wout cls d σ H)
section
variable {X : Cx} {x n : Str} {c : Value} {i : Nat} {body suite rest : List Stmt} {b₀ : Stmt} {np pos pos' : Pos} {tb : WX → TS} {t0 : TS} {ts tr : Addr → Value → Option Addr → TS} {Wout : WX} {pins : List (Addr × Obj)} {σ : L2.St} {H : Hp} {s : Shared}
theorem inv_unsuite {a : Addr} {q : Addr × Obj} {pn' : List (Addr × Obj)} (I : Inv (X.suite a (q :: (X.pn ++ pins))) pn' σ H s) (ok : X.Ok) : Inv (X.tr (q :: (X.pn ++ pins)) X.xe) [] σ H s :=
  ⟨ok.toTry _ _, I.os, I.bare, I.base, I.loc, I.cell, I.free, I.freeC, fun p hp => I.pin p (List.mem_append_left _ (by rw [List.append_nil] at hp; exact hp)), I.hok, I.len⟩
theorem inv_unkeep {q : Addr × Obj} (I : Inv (X.tr (q :: (X.pn ++ pins)) X.xe) [] σ H s) (ok : X.Ok) : Inv X pins σ H s :=
  ⟨ok, I.os, I.bare, I.base, I.loc, I.cell, I.free, I.freeC, fun p hp => I.pin p (List.mem_append_left _ (List.mem_cons_of_mem _ hp)), I.hok, I.len⟩
theorem sp_unkeep {q : Addr × Obj} {D : Ends} {f : Flow} (ok : X.Ok) (h : L2.SP (X.tr (q :: (X.pn ++ pins)) X.xe) [] D f s) : L2.SP X pins D f s := by
  cases f with
  | next => obtain ⟨σ', H', J, h⟩ := h; exact ⟨σ', H', inv_unkeep J ok, h⟩
  | brk => obtain ⟨σ', H', J, h⟩ := h; exact ⟨σ', H', inv_unkeep J ok, h⟩
  | cont => obtain ⟨σ', H', J, h⟩ := h; exact ⟨σ', H', inv_unkeep J ok, h⟩
  | ret u => obtain ⟨v, σ', H', J, r, h⟩ := h; exact ⟨v, σ', H', inv_unkeep J ok, r, h⟩
theorem pss_try_keep (hs : X.stack = X.env :: X.outer) (hf : X.env.frame = some X.env.locals) (hN : X.N.Nodup) (hi : X.N[i]? = some n) (hln : X.env.kindOf n = some .local) (hc : Names X x c) (tk : Takes X Wout)
    (hb : ∀ (W : WX) (pn : List (Addr × Obj)) (xe : Value → Shared → Prop), Takes (X.tr pn xe) W → PassesOwn (model X.prog X.w) X.A X.env xe → PSs (X.tr pn xe) body (tb W))
    (hsu : ∀ (a : Addr) (oe : Obj) (cls : Value) (d : Option Addr) (pn : List (Addr × Obj)), Zc cls d oe → (∃ vs, oe.data = .fields vs) → PSs (X.suite a ((a, oe) :: pn)) (b₀ :: suite) (ts a cls d))
    (hr0 : PSs X rest t0) (hrx : ∀ (a : Addr) (oe : Obj) (cls : Value) (d : Option Addr) (pn : List (Addr × Obj)), Zc cls d oe → (∃ vs, oe.data = .fields vs) → PSs (X.tr ((a, oe) :: pn) X.xe) rest (tr a cls d)) :
    PSs X (.Try body [.ExceptHandler (some (.Name x np)) (some n) (b₀ :: suite) pos'] [] [] pos :: rest) (fun D σ H => tb (wKeep X.K c i ts tr Wout D) { D with nx := fun σ' H' => t0 D σ' H' } σ H) := by
  refine ⟨fun pins s σ H D I h => ?_⟩
  have ok := I.ok
  have hfr : X.A.frames = some (X.env :: X.outer) := by rw [ok.frames, hs]
  have hloc : Loc X.env.scope n := .inl hln
  let QQ : Flow → Shared → Prop := fun f s1 => match f with
    | .next => wpAny (model X.prog X.w) X.A (execs rest X.env) (L2.SP X pins D) X.xe s1
    | f => L2.SP X pins D f s1
  suffices key : wpAny (model X.prog X.w) X.A (exec (.Try body [.ExceptHandler (some (.Name x np)) (some n) (b₀ :: suite) pos'] [] [] pos) X.env) QQ X.xe s by
    exact wpAny_execs_cons (wpAny_mono key (fun f s1 q => by cases f <;> exact q) fun _ _ x => x)
  refine wpAny_Try_except ?_
  refine wpAny_mono ((hb (wKeep X.K c i ts tr Wout D) (X.pn ++ pins) (fun e s₁ => wpAny (model X.prog X.w) X.A (noteFrame e X.env) (fun _ s₂ => wpAny (model X.prog X.w) X.A (setFlight e none) (fun _ s₃ =>
    wpAny (model X.prog X.w) X.A (handleBy e X.env [.ExceptHandler (some (.Name x np)) (some n) (b₀ :: suite) pos']) QQ X.xe s₃) X.xe s₂) X.xe s₁) (fun u s' xx => ?_) PassesOwn.looking).run [] s σ H _ (I.toTry _) h) (fun f s1 hsp => ?_) (fun e s1 he => he)
  · obtain ⟨a, B, sI, pins', σ', H', cls, d, rfl, J', nb, up, sky, na, os, ag, b, hb1, hyes, hno⟩ := xx
    have J : Inv X pins σ' H' sI := J'.ofTry ok
    have sky' : Sky B (X.env :: X.outer) a (Zc cls d) X.env.locals s'.heap := by rw [← hs]; exact sky
    show wpAny (model X.prog X.w) X.A (noteFrame (.ref a) X.env) _ _ _
    refine Sky.land Zc.steady hfr hf sky' fun h3 fl3 up3 => ?_
    have J3 : Inv X pins σ' H' { s' with heap := h3 } := J.landed nb fl3.1 (up.trans up3) os ag
    obtain ⟨oe3, vs3, he3, hz3, hd3⟩ := fl3.there
    have nfr : a ∉ frs (X.env :: X.outer) := fun hm => by
      obtain ⟨_, o', e', hnf⟩ := fl3.2.2.1.mem hm
      rw [he3] at e'; cases e'
      exact hnf _ hd3
    have nL : a ≠ X.env.locals := fun z => nfr (List.mem_filterMap.mpr ⟨X.env, List.mem_cons_self, by rw [hf, z]⟩)
    have nF : a ∉ X.fs := fun hm => by
      obtain ⟨e, he, q⟩ := List.mem_filterMap.mp hm
      exact nfr (List.mem_filterMap.mpr ⟨e, List.mem_cons_of_mem _ he, q⟩)
    have S3 := J3.suite he3 hd3 na nL nF
    refine wpAny_handleBy_cons (codeAny_handlers_test ?_) (by intro q; cases q)
    have LT : PySem.W.Looks (model X.prog X.w) h3 (typeOf (.ref a)) cls := fun A Q E s k q => wpAny_typeOf_ref (k _ _ he3) (by rw [hz3.1]; exact q)
    have LM := PySem.W.exm_one (M := model X.prog X.w) (J3.kIn) LT hb1
    have test : ∀ {Q : Value → Shared → Prop} {E : Value → Shared → Prop}, Q c { s' with heap := h3 } → wpAny (model X.prog X.w) (X.A.mark (some (.ref a))) (eval (.Name x np) X.env) Q E { s' with heap := h3 } := fun {Q E} q => by
      obtain ⟨hg, hdbg, hm | ⟨hm, hv, hnn⟩⟩ := hc
      · exact ld_glob (X := X.suite a ((a, oe3) :: (X.pn ++ pins))) S3 hg hm q hdbg
      · exact ld_blt (X := X.suite a ((a, oe3) :: (X.pn ++ pins))) S3 hg hm hv q hnn hdbg
    refine test (LM.here ?_)
    cases b with
    | true =>
      refine codeAny_handlers_suite_as ?_
      refine HandSPX.lands_againZ fl3 fun h4 fl4 up4 => ?_
      have J4 : Inv X pins σ' H' { s' with heap := h4 } := J.landed nb fl4.1 ((up.trans up3).trans up4) os ag
      obtain ⟨oe4, vs4, he4, hz4, hd4⟩ := fl4.there
      have S4 := J4.suite he4 hd4 na nL nF
      refine store_ok (X := X.suite a ((a, oe4) :: (X.pn ++ pins))) (v := .ref a) S4 hN hi hloc rfl (fun s5 S5 => ?_) (.inr hln)
      refine wpAny_mono ((hsu a oe4 cls d (X.pn ++ pins) hz4 ⟨_, hd4⟩).run [] s5 _ H' _ S5 (hyes rfl a na)) (fun f s6 hsp => ?_) (fun _ _ z => False.elim z)
      have end_ : ∀ {σ6 : L2.St} {H6 : Hp} {Q : Shared → Prop}, Inv (X.suite a ((a, oe4) :: (X.pn ++ pins))) [] σ6 H6 s6 → (∀ s7, Inv X pins (σ6.set i none) H6 s7 → Q s7) →
          wpAny (model X.prog X.w) X.A (do bindName X.env n .none; unbindBehindTheSuite X.env n pos') (fun _ s7 => Q s7) X.xe s6 := fun {σ6 H6 Q} S6 hq => gone_ok (S6.unsuite ok) hN hi hln hq
      cases f with
      | next =>
        obtain ⟨σ6, H6, S6, q6⟩ := hsp
        exact gone_ok (X := X.tr ((a, oe4) :: (X.pn ++ pins)) X.xe) (inv_unsuite S6 ok) hN hi hln fun s7 J7 => wpAny_mono ((hrx a oe4 cls d (X.pn ++ pins) hz4 ⟨_, hd4⟩).run [] s7 _ H6 D J7 q6) (fun f s8 z => sp_unkeep ok z) fun _ _ z => z
      | brk =>
        obtain ⟨σ6, H6, S6, q6⟩ := hsp
        exact end_ S6 fun s7 J7 => ⟨_, _, J7, q6⟩
      | cont =>
        obtain ⟨σ6, H6, S6, q6⟩ := hsp
        exact end_ S6 fun s7 J7 => ⟨_, _, J7, q6⟩
      | ret u =>
        obtain ⟨v6, σ6, H6, S6, r6, q6⟩ := hsp
        exact end_ S6 fun s7 J7 => ⟨_, _, _, J7, r6, q6⟩
    | false =>
      show wpAny _ X.A (handleBy (.ref a) X.env []) _ _ _
      refine wpAny_handleBy_nil ?_
      obtain ⟨k1, k2, k3, oe, vs, T, oT, ts', he, hz, hd, h1, hr⟩ := id fl3
      unfold PySem.passOn
      refine wpAny_bind (wpAny_field he hd h1 ?_)
      rw [if_neg (show ¬ ((Value.ref T == Value.none) = true) from by simp)]
      have fin : wpAny (model X.prog X.w) X.A (setFlight (.ref a) X.env.frame) (fun _ s4 => wpAny (model X.prog X.w) X.A (throw (.ref a) : Sem Flow) QQ X.xe s4) X.xe { s' with heap := h3 } := by
        rw [hf]
        refine HandSPX.setFlight_upZ fl3 fun h4 hh4 up4 => wpAny_throw (tk _ _ ?_)
        exact ⟨a, B, sI, pins, σ', H', cls, d, rfl, J, nb, (up.trans up3).trans up4, .inr (.inr (by rw [hs]; exact hh4)), na, os, ag, hno rfl⟩
      first
        | exact wpAny_bind (wpAny_pure (wpAny_bind fin))
        | exact wpAny_bind fin
  · cases f with
    | next =>
      obtain ⟨σ', H', J', q⟩ := hsp
      exact wpAny_execs_nil (hr0.run pins s1 σ' H' D (J'.ofTry ok) q)
    | brk =>
      obtain ⟨σ', H', J', q⟩ := hsp
      exact ⟨σ', H', J'.ofTry ok, q⟩
    | cont =>
      obtain ⟨σ', H', J', q⟩ := hsp
      exact ⟨σ', H', J'.ofTry ok, q⟩
    | ret u =>
      obtain ⟨v, σ', H', J', r, q⟩ := hsp
      exact ⟨v, σ', H', J'.ofTry ok, r, q⟩
end
end Sm

/-! ## try .. except .. as e: caught = e; the rest -/
namespace Sm
open PySem L2
def sTryK (i j : Nat) (cl : List Str) (B R : G → Option O) (RX : Str → G → Option O) : G → Option O := fun g => (B g).bind fun o => match o with
  | .nx g1 => R g1
  | .xc C x g1 => if notT g1 i = true ∧ notT (g1.set i .un) j = true ∧ noXs (g1.set i .un) = true ∧ i ≠ j ∧ C ∈ cl then (RX C ((g1.set i .un).set j (.xs x))).bind (unX j) else none
  | o => some o
section
variable {X : Cx} {c : C0} {body rest : List Stmt} {B R : G → Option O} {RX : Str → G → Option O} {i j : Nat} {x n ny : Str} {CP : Addr} {cl : List Str} {np pos pos' pe pj pa : Pos}
theorem ss_tryK (hs : X.stack = X.env :: X.outer) (hf : X.env.frame = some X.env.locals) (hN : X.N.Nodup) (hi : X.N[i]? = some n) (hln : X.env.kindOf n = some .local) (hc : Names X x (.ref CP))
    (hex : ∀ C ∈ cl, ∀ Ca, X.mg C = some (.ref Ca) → PySem.W.exmOne X.K (.ref Ca) (.ref CP) = some true)
    (hj : X.N[j]? = some ny) (hlj : X.env.scope.names.lookup ny = some .local)
    (hb : ∀ (W : WX) (pn : List (Addr × Obj)) (xe : Value → Shared → Prop), Takes (X.tr pn xe) W → PassesOwn (model X.prog X.w) X.A X.env xe → SSs (X.tr pn xe) (c.wish W) body B)
    (hr0 : SSs X c rest R)
    (hrx : ∀ C ∈ cl, ∀ (a : Addr) (oe : Obj) (Ca dd : Addr) (pn : List (Addr × Obj)), X.mg C = some (.ref Ca) → Zc (.ref Ca) (some dd) oe → (∃ vs, oe.data = .fields vs) → SSs (X.tr ((a, oe) :: pn) X.xe) (c.hand a dd) rest (RX C))
    (hsw : swapsWith (.Name n pe) (some (.Name ny pj)) pa.line X.env = pure false := by rfl) (hdb : (n == ("__debug__" : Str)) = false := by decide) (hcd : (n == ("__classdict__" : Str)) = false := by decide) :
    SSs X c (.Try body [.ExceptHandler (some (.Name x np)) (some n) [.Assign [.Name ny pj] (.Name n pe) pa] pos'] [] [] pos :: rest) (sTryK i j cl B R RX) := by
  refine (pss_try_keep (i := i) (tb := fun W => tS X.K X.mg (c.wish W) B) (t0 := tS X.K X.mg c R) (ts := fun _ _ _ => tAsg (tVar i) (gName j)) (tr := fun a cls d D σ H => ∃ C Ca dd, C ∈ cl ∧ X.mg C = some (.ref Ca) ∧ cls = .ref Ca ∧ d = some dd ∧ tS X.K X.mg (c.hand a dd) (RX C) D σ H) (Wout := fun _ _ _ _ => False) hs hf hN hi hln hc takes0 hb ?_ hr0 ?_).imp fun D σ H q => ?_
  · intro a oe cls d pn hz hfl
    exact pss_one (ps_set (X := X.suite a ((a, oe) :: pn)) hN hj (.inl hlj) (pe_var (X := X.suite a ((a, oe) :: pn)) hi (.inl hln) hdb hcd) hsw (.inr hlj))
  · intro a oe cls d pn hz hfl
    refine ⟨fun pins s σ H D I h => ?_⟩
    obtain ⟨C, Ca, dd, h1, h2, rfl, rfl, h3⟩ := h
    exact (hrx C h1 a oe Ca dd pn h2 hz hfl).run pins s σ H D I h3
  · obtain ⟨m, g, o, A, e, k⟩ := q
    unfold sTryK at e
    obtain ⟨o1, e1, e2⟩ := Option.bind_eq_some_iff.mp e
    refine ⟨m, g, o1, A.re rfl rfl rfl rfl A.xs, e1, ?_⟩
    have back : ∀ {W : WX} {m : List Addr} {g : G} {σ : St} {H : Hp}, Abs X.K X.mg (c.wish W) m g σ H → Abs X.K X.mg c m g σ H := fun A => A.re rfl rfl rfl rfl A.xs
    cases o1 with
    | nx g1 =>
      refine fun m1 σ1 H1 A1 S1 => ⟨m1, g1, o, back A1, e2, ?_⟩
      cases o with
      | nx g2 => exact fun m2 σ2 H2 A2 S2 => k m2 σ2 H2 A2 (S1.trans S2)
      | bk g2 => exact fun m2 σ2 H2 A2 S2 => k m2 σ2 H2 A2 (S1.trans S2)
      | ct g2 => exact fun m2 σ2 H2 A2 S2 => k m2 σ2 H2 A2 (S1.trans S2)
      | xc C x g2 => exact fun cls d m2 σ2 H2 A2 S2 => k cls d m2 σ2 H2 A2 (S1.trans S2)
      | rt r g2 => exact k
    | bk g1 => cases e2; exact fun m' σ' H' A' S' => k m' σ' H' (back A') S'
    | ct g1 => cases e2; exact fun m' σ' H' A' S' => k m' σ' H' (back A') S'
    | rt r g1 =>
      cases e2
      exact fun v m' σ' H' A' V' => k v m' σ' H' (back A') (by
        cases r with
        | d x => exact V'
        | sl j => exact V'
        | pq j q => exact V'
        | nw l => exact V')
    | xc C x g1 =>
      dsimp only at e2
      split at e2
      · rename_i hh
        obtain ⟨hn, hnj, hx, hij, hcl⟩ := hh
        obtain ⟨o2, e3, e4⟩ := Option.bind_eq_some_iff.mp e2
        rintro cls d m' σ' H' A' S' ⟨Ca, dd, v, rfl, h2, rfl, h4, h5, h6⟩
        refine ⟨true, hex C hcl Ca h2, fun _ a ha => ?_, fun z => nomatch z⟩
        obtain ⟨B1, T1⟩ := A'.forget hn
        obtain ⟨B2, T2⟩ := B1.setW (k := i) (w := none) (List.getElem?_set_self (notT_lt hn).1)
        obtain ⟨A2, T3⟩ := Abs.stoX (c := c.wish _) (c' := c.hand a dd) (i := j) B2 hnj hx rfl rfl rfl rfl h4 h5 h6
        have S2 := ((S'.trans T1).trans T2).trans T3
        have hlt : i < σ'.length := by rw [← A'.len]; exact (notT_lt hn).1
        have hσ : ((σ'.set i (some (.ref a))).set j (some (.ref a))).set i none = (σ'.set i none).set j (some (.ref (c.hand a dd).ea)) := by
          rw [List.set_comm _ _ (Ne.symm hij), List.set_set]
        refine ⟨.ref a, List.getElem?_set_self hlt, ?_⟩
        refine ⟨C, Ca, dd, hcl, h2, rfl, rfl, ?_⟩
        rw [hσ]
        have fin : ∀ {m2 : List Addr} {g2 : G} {σ2 : St} {H2 : Hp}, notT g2 j = true ∧ noXs (g2.set j .un) = true → Abs X.K X.mg (c.hand a dd) m2 g2 σ2 H2 → Abs X.K X.mg c m2 (g2.set j .un) σ2 H2 ∧ Stp m2 g2 σ2 H2 m2 (g2.set j .un) σ2 H2 := fun {m2 g2 σ2 H2} hc A3 => by
          obtain ⟨A4, S4⟩ := A3.forget hc.1
          exact ⟨A4.re rfl rfl rfl rfl fun j y z => absurd z (noXs_at hc.2), S4⟩
        refine ⟨m', _, o2, A2, e3, ?_⟩
        cases o2 with
        | nx g2 =>
          simp only [unX] at e4
          split at e4
          · rename_i hc
            cases e4
            intro m2 σ2 H2 A3 S3
            obtain ⟨A4, S4⟩ := fin hc A3
            exact k m2 _ H2 A4 ((S2.trans S3).trans S4)
          · cases e4
        | bk g2 =>
          simp only [unX] at e4
          split at e4
          · rename_i hc
            cases e4
            intro m2 σ2 H2 A3 S3
            obtain ⟨A4, S4⟩ := fin hc A3
            exact k m2 _ H2 A4 ((S2.trans S3).trans S4)
          · cases e4
        | ct g2 =>
          simp only [unX] at e4
          split at e4
          · rename_i hc
            cases e4
            intro m2 σ2 H2 A3 S3
            obtain ⟨A4, S4⟩ := fin hc A3
            exact k m2 _ H2 A4 ((S2.trans S3).trans S4)
          · cases e4
        | rt r g2 =>
          simp only [unX] at e4
          split at e4
          · rename_i hc
            cases e4
            intro u m2 σ2 H2 A3 V3
            obtain ⟨A4, S4⟩ := fin hc A3
            refine k u m2 σ2 H2 A4 ?_
            cases r with
            | d x => exact V3
            | sl j => exact V3
            | pq j q => exact V3
            | nw l =>
              obtain ⟨p, vs, e, hm, hp, hv, ho, h0⟩ := V3
              exact ⟨p, vs, e, hm, hp, hv, fun w => ho (own_un w), h0⟩
          · cases e4
        | xc C2 x2 g2 => cases e4
      · cases e2
end
/-! ### what is never reached -/
section
variable {X : Cx} {c : C0} {e : Expr} {ss : List Stmt} {st : Stmt}
theorem sss_never : SSs X c ss (fun _ => none) := ⟨fun pins s σ H D I h => by obtain ⟨_, _, _, _, e, _⟩ := h; cases e⟩
end
/-! ### behind the try: e.value, isinstance(e, ..), e is None -/
section
variable {X : Cx} {a D : Addr} {oe : Obj} {pn : List (Addr × Obj)} {dd : Addr} {xe : Value → Shared → Prop}
theorem inst_ofK {pins : List (Addr × Obj)} {σ : St} {H : Hp} {s : Shared} (I : Inv (X.tr ((a, oe) :: pn) xe) pins σ H s) (hz : Zc (.ref D) (some dd) oe) (hf : ∃ vs, oe.data = .fields vs) (hd : ∃ fs, H dd = some (.xd fs)) : ∃ od, PySem.W.InstAt s.heap a oe D (some od) := by
  obtain ⟨hget, _⟩ := I.pin (a, oe) (List.mem_append.mpr (.inl List.mem_cons_self))
  obtain ⟨vs, hv⟩ := hf
  obtain ⟨fs, ea⟩ := hd
  have hx : ObjOk X.prog X.w H s.heap dd (.xd fs) := I.hok dd _ ea
  obtain ⟨mA, hns, hr⟩ := hx
  obtain ⟨od, ho, hl⟩ := lookIn_ns hns
  exact ⟨od, hget, hz.1, by unfold PySem.W.notCls; rw [hv] <;> rfl, by rw [hz.2]; exact ho⟩
theorem call_isEK (C : ExcC X.K D) (hz : Zc (.ref D) (some dd) oe) (hf : ∃ vs, oe.data = .fields vs) : CallR (X.tr ((a, oe) :: pn) xe) (.builtin "isinstance") (fun xs H Q => (∃ fs, H dd = some (.xd fs)) ∧ (rIsE X.K D a xs H Q ∨ rIsET X.K D a xs H Q)) := by
  intro pins s σ H xs us Q I r h
  obtain ⟨hd, h⟩ := h
  obtain ⟨od, J⟩ := inst_ofK I hz hf hd
  have hcl : (PySem.W.clsIn X.K D).isSome = true := by
    obtain ⟨cd, hc, _⟩ := PySem.W.any_some C.hd
    rw [hc]; rfl
  have Z := PySem.W.kitx_exc (x := a) (ox := oe) (od := some od) hcl C.hg C.hk C.hs C.ha C.hn C.ht C.hm
  rcases h with ⟨c, cv, b, rfl, hcv, e, q⟩ | ⟨tp, cs, ws, b, rfl, hT, k, e, q⟩
  · cases r with
    | cons rx rr =>
      cases rr with
      | cons rt rr =>
        cases rr
        cases rx
        have ec := hcv _ rt
        subst ec
        exact PySem.W.kia_one Z I.kIn J e (fun z => nomatch z) fun tk => ⟨.bl b, H, I.kept (t' := tk) fun _ _ z => z, rfl, q⟩
  · obtain ⟨u1, u2, rfl, r1, r2⟩ := vals2 r
    cases (show u1 = Value.ref a from r1)
    cases (show u2 = Value.ref tp from r2)
    obtain ⟨_, its, rv, o, h1, h2, n, h3⟩ := (show ObjOk X.prog X.w H s.heap tp (.tup cs) from I.hok tp _ hT)
    have e3 := ClsV.all k rv
    subst e3
    obtain ⟨oc, od', dt, sl⟩ := o
    simp only at h2 h3
    subst h2 h3
    exact PySem.W.kia_tup Z I.kIn J h1 e (fun z => nomatch z) fun tk => ⟨.bl b, H, I.tok tk, rfl, q⟩
theorem pe_xfK {n : Str} {e : Expr} {te : TE} {pos : Pos} (T : XfC X.K D) (hno : PySem.W.findIn X.K (.ref D) n = some none) (hz : Zc (.ref D) (some dd) oe) (hf : ∃ vs, oe.data = .fields vs) (he : PE (X.tr ((a, oe) :: pn) xe) e te) (hb : attributeBase e n X.env (eval e X.env) = eval e X.env := by rfl) :
    PE (X.tr ((a, oe) :: pn) xe) (.Attribute e n pos) (fun σ H Q => te σ H fun x H1 => x = .ref a ∧ ∃ (fs : List (Str × V)) (v : V), H1 dd = some (.xd fs) ∧ fs.lookup n = some v ∧ Q v H1) := by
  refine ⟨fun pins s σ H Q I h => ?_⟩
  refine attr_of hb (thn (he.run pins s σ H _ I h) fun u s1 hh => ?_)
  obtain ⟨x, H1, I1, rx, ex, fs, v, ea, l, q⟩ := hh
  subst ex
  obtain rfl : u = Value.ref a := rx
  obtain ⟨ha, _⟩ := I1.pin (a, oe) (List.mem_append_left _ List.mem_cons_self)
  obtain ⟨vs, hd⟩ := hf
  have hx : ObjOk X.prog X.w H1 s1.heap dd (.xd fs) := I1.hok dd _ ea
  obtain ⟨mA, hns, hr⟩ := hx
  obtain ⟨od, ho, hl⟩ := lookIn_ns hns
  obtain ⟨u, hu, ru⟩ := RelO.some_of (v := v) (o := mA n) (by rw [← l]; exact hr n)
  have J : PySem.W.InstAt s1.heap a oe D (some od) := ⟨ha, hz.1, by unfold PySem.W.notCls; rw [hd] <;> rfl, by rw [hz.2]; exact ho⟩
  exact HandSPX.exc_get I1.kIn J T.ga T.gg T.exC (PySem.W.findObj_own T.hdC hno rfl (by rw [hl, hu])) (handed_of ru) ⟨v, H1, I1.tok _, ru, q⟩
theorem op_isN : OpR X (compareOp .Is) (fun x y H Q => (∃ p, x = .ref p) ∧ y = .non ∧ Q (.bl false) H) := by
  intro pins s σ H x y v u Q I rx ry h
  obtain ⟨⟨p, rfl⟩, rfl, q⟩ := h
  cases rx
  cases ry
  show wpAny _ X.A (isSame (.ref p) .none >>= fun b => (pure (Value.bool b) : Sem Value)) _ _ s
  exact wpAny_bind (wpAny_of_eq (rfl : isSame (.ref p) .none = pure false) (wpAny_pure ⟨.bl false, H, I, rfl, q⟩))
variable {c : C0} {i : Nat} {y n n2 : Str} {p p1 p2 p3 pos : Pos} {b : Bool} {ec : Expr} {v : V} {u : Value}
theorem se_xvK {fI : Addr} (T : ExcT X.K X.mg y D fI) (hz : Zc (.ref D) (some dd) oe) (hf : ∃ vs, oe.data = .fields vs) (he : PE (X.tr ((a, oe) :: pn) xe) (.Name n p) (tVar i)) (hb : attributeBase (.Name n p) "value" X.env (eval (.Name n p) X.env) = eval (.Name n p) X.env := by rfl) :
    SE (X.tr ((a, oe) :: pn) xe) (c.hand a dd) (.Attribute (.Name n p) "value" pos) (eXv i) := (pe_xfK T.xf T.noV hz hf he hb).imp fun σ H Q q => by
  obtain ⟨m, g, r, g', A, e, k⟩ := q
  obtain ⟨x, h1, rfl, rfl⟩ := eXv_inv e
  obtain ⟨h2, h3, v, h4, h5⟩ := A.xs i x h1
  exact ⟨_, h2, rfl, _, v, h4, by simp [List.lookup], k v m H A Stp.refl h5 fun _ z => nomatch z⟩
theorem se_isEK (C : ExcC X.K D) (hz : Zc (.ref D) (some dd) oe) (hf : ∃ vs, oe.data = .fields vs) (hg : Gl X "isinstance") (hm : X.mg "isinstance" = none) (he : PE (X.tr ((a, oe) :: pn) xe) (.Name n p) (tVar i)) (hc : PE (X.tr ((a, oe) :: pn) xe) ec (tC v)) (hv : ∀ w, RelV v w → w = u) (hk : PySem.W.kitOne X.K (.ref D) u = some b)
    (hs : starEach (.Name n p :: [ec]) X.env = (false, eval (.Name n p) X.env) :: starEach [ec] X.env := by rfl) (hs2 : starEach (ec :: []) X.env = (false, eval ec X.env) :: starEach [] X.env := by rfl) (hpl : (backTo pos (starEach [ec] X.env)).any (·.1) = false := by rfl) :
    SE (X.tr ((a, oe) :: pn) xe) (c.hand a dd) (.Call (.Name "isinstance" p1) [.Name n p, ec] [] pos) (eIs i b) :=
  (pe_callB (X := X.tr ((a, oe) :: pn) xe) (call_isEK C hz hf) hg hm rfl (pa_cons he (pa_cons hc pa_nil hs2) hs) (by decide) (by decide) hs hpl).imp fun σ H Q q => by
    obtain ⟨m, g, r, g', A, e, k⟩ := q
    obtain ⟨x, h1, rfl, rfl⟩ := eIs_inv e
    obtain ⟨h2, h3, w, h4, h5⟩ := A.xs i x h1
    exact ⟨_, h2, ⟨_, h4⟩, .inl ⟨v, u, b, rfl, hv, hk, k _ m H A Stp.refl (.bl b) fun _ z => nomatch z⟩⟩
theorem se_isETK {es : List Expr} {vs : List V} {us : List Value} {k : Nat} (C : ExcC X.K D) (hz : Zc (.ref D) (some dd) oe) (hf : ∃ vs, oe.data = .fields vs) (hg : Gl X "isinstance") (hm : X.mg "isinstance" = none) (he : PE (X.tr ((a, oe) :: pn) xe) (.Name n p) (tVar i))
    (hc : PA (X.tr ((a, oe) :: pn) xe) es (fun _ H Q => Q vs H)) (hl : vs.length ≤ 1000) (hv : Paired ClsV vs us) (hk : PySem.W.kitAny X.K (.ref D) us = some b)
    (hs : starEach (.Name n p :: [.Tuple es k p2]) X.env = (false, eval (.Name n p) X.env) :: starEach [.Tuple es k p2] X.env := by rfl) (hs2 : starEach (.Tuple es k p2 :: []) X.env = (false, eval (.Tuple es k p2) X.env) :: starEach [] X.env := by rfl) (hpl : (backTo pos (starEach [.Tuple es k p2] X.env)).any (·.1) = false := by rfl) :
    SE (X.tr ((a, oe) :: pn) xe) (c.hand a dd) (.Call (.Name "isinstance" p1) [.Name n p, .Tuple es k p2] [] pos) (eIs i b) :=
  (pe_callB (X := X.tr ((a, oe) :: pn) xe) (call_isEK C hz hf) hg hm rfl (pa_cons he (pa_cons (pe_tup hc) pa_nil hs2) hs) (by decide) (by decide) hs hpl).imp fun σ H Q q => by
    obtain ⟨m, g, r, g', A, e, k⟩ := q
    obtain ⟨x, h1, rfl, rfl⟩ := eIs_inv e
    obtain ⟨h2, h3, w, h4, h5⟩ := A.xs i x h1
    refine ⟨_, h2, Nat.le_trans hl (by decide), fun tp htp => ⟨⟨_, Ext.new htp _ _ h4⟩, .inr ⟨tp, vs, us, b, rfl, upd_same, hv, hk, ?_⟩⟩⟩
    exact k _ m _ (A.ext (Ext.new htp)) (Stp.ext (Ext.new htp)) (.bl b) fun _ z => nomatch z
theorem st_isNK (he : PE X (.Name n p) (tVar i)) (hn : PE X ec (tC .non)) (hk : behindInMarks .Is ec = false := by rfl) :
    ST X (c.hand a dd) (.Compare (.Name n p) [.Is] [ec] pos) (tst (eIs i false)) := (pt_cmpR op_isN he hn hk).imp fun σ H Q q => by
  obtain ⟨m, g, r, g', A, e, k⟩ := tst_ok q
  obtain ⟨x, h1, rfl, rfl⟩ := eIs_inv e
  obtain ⟨h2, _⟩ := A.xs i x h1
  exact ⟨_, h2, ⟨_, rfl⟩, rfl, k (.bl false) m H A Stp.refl (.bl false) fun _ z => nomatch z⟩
end
end Sm

/-! ## o.m(..), a statement, o owned and changed in place, m may raise -/
namespace Sm
open PySem L2
section
variable {X : Cx} {CX : CXT} {k : Nat} {f C : Addr} {fd : FuncData} {ps : List Str} {sp : Sp} {E : St → XK} {m : Str} {pos apos : Pos} {e o : Expr} {es : List Expr} {ta : TE} {t : TA}
theorem pe_methE {pl : Sem Bool} (he : PE X o ta) (c : Cls X.K C) (hm : Meth X.K C m f) (F : FnOk X.prog X.w X.K X.mg X.base CX k f fd ps sp) (hr : Room k X.A) (hb : Binds X.K fd ps []) (hx : ∀ σ, PassesAt CX X σ (E σ)) (ha : PA X (e :: es) t)
    (hst : starEach (e :: es) X.env = (false, eval e X.env) :: starEach es X.env := by rfl) (hpl : (backTo pos (starEach es X.env)).any (·.1) = false := by rfl)
    (ht : eval (.Call (.Attribute o m apos) (e :: es) [] pos) X.env = (do
      let ov ← eval o X.env
      standAt apos.atName
      let (f, first) ← holding [ov] (getMethod ov m pl)
      callWith pos f first (backTo pos (starEach (e :: es) X.env)) (backToKw pos (keywordEach [] X.env))) := by rfl) :
    PE X (.Call (.Attribute o m apos) (e :: es) [] pos) (fun σ H Q => ta σ H fun x H1 => ∃ a dx fs, x = .ref a ∧ H1 a = some (.ins C dx fs) ∧ fs.lookup m = none ∧ t σ H1 fun vs H2 => sp (x :: vs) H2 Q (E σ)) := by
  refine ⟨fun pins s σ H Q I h => ?_⟩
  refine PySem.W.methodCall_KW (pl := pl) (thn (he.run pins s σ H _ I h) fun u s1 ⟨x, H1, I1, rx, a, dx, fs, ex, ea, l, q⟩ => ?_) ht
  subst ex
  obtain rfl : u = Value.ref a := rx
  refine getmeth_ok I1 ea c hm l ?_
  refine PySem.W.callWith_K (first := [.ref a]) (h₀ := X.base) I.ok.mod.kin hm.kp (thn (ha.run pos pins s1 σ H1 _ I1 q) fun us s2 ⟨vs, H2, I2, r, q2⟩ => ⟨I2.kIn, ?_⟩) hst hpl
  exact run_fnS (us := .ref a :: us) (vs := .ref a :: vs) F hr hb (hx σ) I2 (.cons rfl r) q2
end
def sCallX1 (F : G → Option RX) (fs : G → Option (List R × G)) : G → Option O := fun g => (fs g).bind fun p => match p.1 with
  | .sl i :: rs => match p.2[i]? with
    | some (.ob b kk cs) => if lent rs = [] then (ldsC p.2 rs).bind fun ds => (F (.ob true kk cs :: ds.map .fz)).bind fun rx => match rx with
      | .ok _ gc => match gc.head? with
        | some (.ob true _ cs') => some (.nx (p.2.set i (.ob b kk cs')))
        | _ => none
      | .xc C x gc => match gc.head? with
        | some (.ob true _ cs') => some (.xc C x (p.2.set i (.ob b kk cs')))
        | _ => none
      else none
    | _ => none
  | _ => none
section
variable {X : Cx} {c : C0} {fs : G → Option (List R × G)}
theorem callX1_ok {F : G → Option RX} {n : Nat} {D : Ends} {σ : St} {H : Hp} (hn : ∀ g r, F g = some r → g.length = n) (q : tS X.K X.mg c (sCallX1 F fs) D σ H) : tA X.K X.mg c fs σ H fun vs H1 => spX X.K X.mg n F vs H1 (fun _ H' => D.nx σ H') (WE c.W σ) := by
  obtain ⟨m, g, o0, A, e, k⟩ := q
  unfold sCallX1 at e
  obtain ⟨⟨rs0, g1⟩, e1, e2⟩ := Option.bind_eq_some_iff.mp e
  clear e
  dsimp only at e2
  split at e2
  · rename_i i rs
    split at e2
    · rename_i b kk cs hg
      split at e2
      · rename_i hlent
        obtain ⟨ds, e3, e4⟩ := Option.bind_eq_some_iff.mp e2
        obtain ⟨rx, e5, e6⟩ := Option.bind_eq_some_iff.mp e4
        clear e2 e4
        refine ⟨m, g, _, g1, A, e1, fun vs0 m1 H1 A1 S1 V1 N1 => ?_⟩
        match vs0, V1, N1 with
        | v0 :: vs, V1, N1 =>
        obtain ⟨m2, A2, S2, M2, V2, W2⟩ := dropNw (vs := vs) (rs := rs) S1 A1 (VRs.w V1.2) N1.2
        have F2 := args_fz A2 (is := lent rs) V2 (fun _ z => z) W2 e3
        have hv0 : σ[i]? = some (some v0) := V1.1
        have hi : i ∉ lent rs := by rw [hlent]; exact List.not_mem_nil
        obtain ⟨p, o, us, h1, h2, h3, h4, h5, hnd, h6⟩ := A2.ob i b kk cs hg
        rw [hv0] at h1; cases h1
        have pB : ∀ q, q = p ∨ q ∈ qs cs → q ∉ bAd g1 σ (lent rs) := fun q hq z => by
          obtain ⟨j, s, hj, h6, h7⟩ := bAd_of z
          refine hi ?_
          rw [A2.nn i j _ _ q hg h6 (by
            rcases hq with hq | hq
            · subst hq; exact .inl hv0
            · exact .inr hq) h7]
          exact hj
        have hl : (V.ref p :: vs).length = n := by
          have := hn _ _ e5
          rw [List.length_cons, List.length_map, ← F2.length] at this
          exact this
        have h5' : CFs X.K X.mg (lessL m2 (bAd g1 σ (lent rs))) H1 us cs := h5.map (fun a o n e => ⟨fun q => n (mem_lessL.mp q).1, e⟩) fun q z => ⟨mem_lessL.mpr ⟨(h5.mem q z).1, pB q (.inr z)⟩, rfl⟩
        have e7 : meltAll g1 (lent rs) = some g1 := by rw [hlent]; rfl
        obtain ⟨A4, S4⟩ := A2.meltAll e7
        have tools : ∀ {gc : G} {r : R} {v : V} {H2 : Hp} {kk' : OK} {cs' : List Sm.F}, gc.head? = some (.ob true kk' cs') → RetOk X.K X.mg (lessL m2 (bAd g1 σ (lent rs))) (.ob true kk cs :: ds.map .fz) (V.ref p :: vs) H1 gc r v H2 →
            Abs X.K X.mg c (mAft (lessL m2 (bAd g1 σ (lent rs))) r v) (g1.set i (.ob b kk cs')) σ H2 ∧ Stp (lessL m2 (bAd g1 σ (lent rs))) g1 σ H1 (mAft (lessL m2 (bAd g1 σ (lent rs))) r v) (g1.set i (.ob b kk cs')) σ H2 := by
          intro gc r v H2 kk' cs' hgc ret
          have keep : ∀ a o, ¬ (fun a : Addr => a = p ∨ a ∈ qs cs) a → H1 a = some o → H2 a = some o := fun a o n h => ret.keep a o (fun j s z w => by
            cases j with
            | zero =>
              cases z
              rcases w with w | w
              · cases w; exact n (.inl rfl)
              · exact n (.inr w)
            | succ j => obtain ⟨d', _, h2⟩ := fzs_get z; cases h2; exact w) h
          obtain ⟨cs2, p2, o2, us2, h7, h8, h9, h10, h11, hnd2, h12⟩ := ret.ob 0 true kk cs rfl
          cases h8
          rw [List.head?_eq_getElem?] at hgc
          rw [hgc] at h7; cases h7
          have tk1 : ∀ a ∈ lessL m2 (bAd g1 σ (lent rs)), H2 a ≠ none := fun a h => by
            by_cases z : a = p ∨ a ∈ qs cs
            · exact ret.tk a h
            · cases w : H1 a with
              | none => exact absurd w (A2.trk a (mem_lessL.mp h).1)
              | some o => rw [keep a o z w]; exact fun z => nomatch z
          have ownP : ∀ a, (fun a : Addr => a = p ∨ a ∈ qs cs) a → Own g1 σ a := fun a z => by
            rcases z with z | z
            · subst z
              exact ⟨i, _, hg, .inl hv0⟩
            · exact ⟨i, _, hg, .inr z⟩
          have slots : ∀ (j : Nat), ((g1.set i (.ob b kk cs'))[j]? = g1[j]? ∧ ∀ (s : Slot) (q : Addr), g1[j]? = some s → SOwn s σ[j]? q → ¬ (fun a : Addr => a = p ∨ a ∈ qs cs) q) ∨
              (∃ (b' : Bool) (l1 l2 : List Sm.D) (q : Addr) (ws : List V), g1[j]? = some (.ol b' l1) ∧ σ[j]? = some (some (.ref q)) ∧ (g1.set i (.ob b kk cs'))[j]? = some (.ol b' l2) ∧ H2 q = some (.lst ws) ∧ FzL X.K X.mg (mAft (lessL m2 (bAd g1 σ (lent rs))) r v) H2 ws l2) ∨
              ∃ (b' : Bool) (k : OK) (cs1 cs2 : List Sm.F) (q : Addr) (o : HO) (us : List V), g1[j]? = some (.ob b' k cs1) ∧ σ[j]? = some (some (.ref q)) ∧ (g1.set i (.ob b kk cs'))[j]? = some (.ob b' k cs2) ∧ H2 q = some o ∧ HasOb X.mg o us k ∧ CFs X.K X.mg (mAft (lessL m2 (bAd g1 σ (lent rs))) r v) H2 us cs2 ∧ (q :: qs cs2).Nodup ∧ (∀ a ∈ qs cs2, a ∈ qs cs1) := fun j => by
            by_cases hj : i = j
            · subst hj
              exact .inr (.inr ⟨b, kk, cs, cs', p, o2, us2, hg, hv0, List.getElem?_set_self (lt_of_get hg), h9, h10, h11, hnd2, h12⟩)
            · refine .inl ⟨List.getElem?_set_ne hj, fun s q w w' z => hj ?_⟩
              exact A4.nn i j _ _ q hg w (by
                rcases z with z | z
                · subst z; exact .inl hv0
                · exact .inr z) w'
          obtain ⟨B1, B2, _, _⟩ := afterM (r := r) (v := v) A4 keep List.length_set ownP slots tk1 ret.res
          exact ⟨B1, B2⟩
        refine ⟨hl, _, _, rx, arg1o (mem_lessL.mpr ⟨h2, pB p (.inl rfl)⟩) h3 h4 h5' hnd F2 (fun a h => A2.trk a (mem_lessL.mp h).1), e5, ?_⟩
        cases rx with
        | ok r gc =>
          dsimp only at e6
          split at e6
          · rename_i kk' cs' hgc
            cases e6
            refine fun v H2 ret => ?_
            obtain ⟨A3, S3⟩ := tools hgc ret
            exact k _ σ H2 A3 ((S2.trans S4).trans S3)
          · cases e6
        | xc C x gc =>
          dsimp only at e6
          split at e6
          · rename_i kk' cs' hgc
            cases e6
            refine fun cls d v H2 ret X' => ?_
            obtain ⟨A3, S3⟩ := tools hgc ret
            exact k cls d _ σ H2 A3 ((S2.trans S4).trans S3) X'
          · cases e6
      · cases e2
    · cases e2
  · cases e2
variable {e o : Expr} {es : List Expr} {fo : G → Option (R × G)} {C mth : Str} {Ca fa : Addr} {fd : FuncData} {ps : List Str} {k n nn : Nat} {B : G → Option O} {pos apos pos' : Pos}
theorem ss_methX1 {pl : Sem Bool} (hC : X.mg C = some (.ref Ca)) (cl : Cls X.K Ca) (hm : Meth X.K Ca mth fa) (F : FnOk X.prog X.w X.K X.mg X.base (L2.CX X.prog X.w) k fa fd ps (spX X.K X.mg n (dX n nn B))) (hr : Room k X.A) (tk : Takes X c.W) (hb : Binds X.K fd ps []) (ho : SE X c o fo) (ha : SA X c (e :: es) fs)
    (hst : starEach (e :: es) X.env = (false, eval e X.env) :: starEach es X.env := by rfl) (hpl : (backTo pos (starEach es X.env)).any (·.1) = false := by rfl)
    (ht : eval (.Call (.Attribute o mth apos) (e :: es) [] pos) X.env = (do
      let ov ← eval o X.env
      standAt apos.atName
      let (f, first) ← holding [ov] (getMethod ov mth pl)
      callWith pos f first (backTo pos (starEach (e :: es) X.env)) (backToKw pos (keywordEach [] X.env))) := by rfl)
    (hs : swapsWith (.Call (.Attribute o mth apos) (e :: es) [] pos) none pos'.line X.env = pure false := by rfl) :
    SS X c (.Expr (.Call (.Attribute o mth apos) (e :: es) [] pos) pos') (sCallX1 (dX n nn B) (recA C mth fo fs)) := (ps_expr (pe_methE ho cl hm F hr hb (fun σ => passAt tk σ) ha hst hpl ht) hs).imp fun D σ H q => tA_rec hC (callX1_ok dX_len q)
end
end Sm

namespace Lw
open PySem L2 Sm
def top (i : Nat) : Stmt := PySem.Challenge.pw_pipeform_k29_live_errors.main.body.getD i (.Pass ⟨0, 0, 0, 0⟩)
abbrev stis_command : Stmt := top 17
abbrev stcheck_pipeline : Stmt := top 18
abbrev stwithout_repeats : Stmt := top 19
abbrev stapply_command : Stmt := top 20
abbrev strun : Stmt := top 21
abbrev stcommon_lengths : Stmt := top 30
abbrev stlist_changes : Stmt := top 31
abbrev stLive_lines : Stmt := inClass (top 32) 2
abbrev stLive_result : Stmt := inClass (top 32) 3
abbrev stLive_update : Stmt := inClass (top 32) 4
abbrev stLive_insert : Stmt := inClass (top 32) 5
abbrev stLive_remove : Stmt := inClass (top 32) 6
abbrev st_law_pool : Stmt := top 34
abbrev st_law_draw : Stmt := top 35
abbrev st_law_number : Stmt := top 36
abbrev st_law_stages : Stmt := top 37
abbrev st_law_words : Stmt := top 38
abbrev st_law_rows : Stmt := top 39
abbrev st_law_after : Stmt := top 40
abbrev st_law_asked : Stmt := top 41
abbrev st_law_right : Stmt := top 42
abbrev stlaw : Stmt := top 43
abbrev sti_Slice : Stmt := inClass (top 25) 0
abbrev sti_Form : Stmt := inClass (top 26) 0
abbrev sti_Live : Stmt := inClass (top 32) 0
abbrev sti_InvalidIndex : Stmt := inClass (top 4) 0
noncomputable def Bcommon_lengths : G → Option O :=
  (sLcs 0 1 2 3 4 5)
noncomputable abbrev Mcommon_lengths : G → Option (R × G) := dM 2 6 Bcommon_lengths
noncomputable def Blist_changes : G → Option O :=
  (sSeq (sAsg 2 (eCall0 Mcommon_lengths (aCons (eVar 0) (aCons (eVar 1) aNil))))
  (sSeq (sAsg 3 (eLst aNil))
  (sSeq (sAsgT (gT 2 (gCons' (gN 4) (gCons' (gN 5) gNil'))) (eTup (aCons (eC (.int 0)) (aCons (eC (.int 0)) aNil))))
  (sSeq (sWhile (bOr (tst (eBin cLt (eVar 4) (eCB lenD (aCons (eVar 0) aNil)))) (tst (eBin cLt (eVar 5) (eCB lenD (aCons (eVar 1) aNil))))) (sIf (bAnd (tst (eBin cLt (eVar 4) (eCB lenD (aCons (eVar 0) aNil)))) (bAnd (tst (eBin cLt (eVar 5) (eCB lenD (aCons (eVar 1) aNil)))) (tst (eBin cEq (eBin ixD (eVar 0) (eVar 4)) (eBin ixD (eVar 1) (eVar 5)))))) (sPar 4 5 (aCons (eBin addD (eVar 4) (eC (.int 1))) (aCons (eBin addD (eVar 5) (eC (.int 1))) aNil))) (sIf (bOr (tst (eBin cEq (eVar 5) (eCB lenD (aCons (eVar 1) aNil)))) (bAnd (tst (eBin cLt (eVar 4) (eCB lenD (aCons (eVar 0) aNil)))) (tst (eBin cGe (eBin ixD (eBin ixD (eVar 2) (eBin addD (eVar 4) (eC (.int 1)))) (eVar 5)) (eBin ixD (eBin ixD (eVar 2) (eVar 4)) (eBin addD (eVar 5) (eC (.int 1)))))))) (sSeq (sExpr (eApp 3 (eTup (aCons (eC (.str (("remove" : String) : Str))) (aCons (eVar 5) aNil)))))
  (sAug 4 addD (eC (.int 1)))) (sSeq (sExpr (eApp 3 (eTup (aCons (eC (.str (("insert" : String) : Str))) (aCons (eVar 5) (aCons (eBin ixD (eVar 1) (eVar 5)) aNil))))))
  (sAug 5 addD (eC (.int 1)))))))
  (sRet (eVar 3))))))
noncomputable abbrev Mlist_changes : G → Option (R × G) := dM 2 6 Blist_changes
noncomputable def BLive_lines : G → Option O :=
  (sRet (eCB listD (aCons (eFld (("Live" : String) : Str) 1 (("present" : String) : Str) (eVar 0)) aNil)))
noncomputable abbrev MLive_lines : G → Option (R × G) := dM 1 1 BLive_lines
noncomputable def BLive_result : G → Option O :=
  (sRet (eCB listD (aCons (eFld (("Live" : String) : Str) 2 (("known" : String) : Str) (eVar 0)) aNil)))
noncomputable abbrev MLive_result : G → Option (R × G) := dM 1 1 BLive_result
noncomputable def BLive_update : G → Option O :=
  (sSeq (sAsg 1 (ePart 0 2 (.at (("Live" : String) : Str) (("known" : String) : Str))))
  (sSeq (sPut 0 2 (.at (("Live" : String) : Str) (("known" : String) : Str)) (eCall0 Mrun (aCons (ePart 0 0 (.at (("Live" : String) : Str) (("chain" : String) : Str))) (aCons (ePart 0 1 (.at (("Live" : String) : Str) (("present" : String) : Str))) aNil))))
  (sRet (eCall0 Mlist_changes (aCons (eVar 1) (aCons (ePart 0 2 (.at (("Live" : String) : Str) (("known" : String) : Str))) aNil))))))
noncomputable abbrev MLive_update : G → Option (R × G) := dM 1 2 BLive_update
noncomputable def BLive_insert : G → Option O :=
  (sSeq (sIf (bNot (tst (eChain cLe cLe (eC (.int 0)) (eVar 1) (eCB lenD (aCons (ePart 0 1 (.at (("Live" : String) : Str) (("present" : String) : Str))) aNil))))) (sRaise (("InvalidIndex" : String) : Str) (eVar 1)) sNext)
  (sSeq (sExpr (eInsP 0 1 (.at (("Live" : String) : Str) (("present" : String) : Str)) (eVar 1) (eVar 2)))
  (sRet (eMeth1 (("Live" : String) : Str) (("update" : String) : Str) MLive_update (eVar 0) aNil))))
noncomputable abbrev XLive_insert : G → Option RX := dX 3 3 BLive_insert
noncomputable def BLive_remove : G → Option O :=
  (sSeq (sIf (bNot (tst (eChain cLe cLt (eC (.int 0)) (eVar 1) (eCB lenD (aCons (ePart 0 1 (.at (("Live" : String) : Str) (("present" : String) : Str))) aNil))))) (sRaise (("InvalidIndex" : String) : Str) (eVar 1)) sNext)
  (sSeq (sExpr (ePopAtP 0 1 (.at (("Live" : String) : Str) (("present" : String) : Str)) (eVar 1)))
  (sRet (eMeth1 (("Live" : String) : Str) (("update" : String) : Str) MLive_update (eVar 0) aNil))))
noncomputable abbrev XLive_remove : G → Option RX := dX 2 2 BLive_remove
noncomputable def B_law_pool : G → Option O :=
  (sSeq (sAsg 2 (eC (.int 0)))
  (sSeq (sIf (tst (eBin cLt (eVar 1) (eCB lenD (aCons (eVar 0) aNil)))) (sAsg 2 (eBin ixD (eVar 0) (eVar 1))) sNext)
  (sRet (eLst (aCons (eCB maxD (aCons (eC (.int 0)) (aCons (eBin subD (eCB absD (aCons (eVar 2) aNil)) (eBin powD (eC (.int 10)) (eC (.int 18)))) aNil))) (aCons (eBin addD (eBin modD (eVar 2) (eC (.int 2305843009213693951))) (eBin mulD (eC (.int 4256233)) (eBin addD (eVar 1) (eC (.int 1))))) (aCons (eC (.int 0)) aNil)))))))
noncomputable abbrev M_law_pool : G → Option (R × G) := dM 2 3 B_law_pool
noncomputable def Bo_law_draw : G → Option O :=
  (sSeq (sIf (tst (eBin cGt (eBin ixD (eVar 0) (eC (.int 0))) (eC (.int 0)))) (sSeq (sAsg 2 (eBin modD (eBin ixD (eVar 0) (eC (.int 0))) (eVar 1)))
  (sSeq (sSetIx 0 (eC (.int 0)) (eBin divD (eBin ixD (eVar 0) (eC (.int 0))) (eVar 1)))
  (sRet (eVar 2)))) sNext)
  (sSeq (sSetIx 0 (eC (.int 2)) (eBin addD (eBin ixD (eVar 0) (eC (.int 2))) (eC (.int 1))))
  (sSeq (sAsg 3 (eBin modD (eBin powD (eBin addD (eBin ixD (eVar 0) (eC (.int 1))) (eBin mulD (eC (.int 86028121)) (eBin ixD (eVar 0) (eC (.int 2))))) (eC (.int 3))) (eC (.int 162259276829213363391578010288127))))
  (sSeq (sAsg 3 (eBin modD (eBin powD (eBin addD (eVar 3) (eBin mulD (eC (.int 122949823)) (eBin ixD (eVar 0) (eC (.int 2))))) (eC (.int 5))) (eC (.int 170141183460469231731687303715884105727))))
  (sRet (eBin modD (eBin divD (eVar 3) (eC (.int 1048576))) (eVar 1)))))))
noncomputable abbrev Mo_law_draw : G → Option (R × G) := dM 2 4 Bo_law_draw
noncomputable def B_law_number : G → Option O :=
  (sSeq (sAsg 1 (eLst (aCons (eC (.int 0)) (aCons (eC (.int 1)) (aCons (eC (.int 2)) (aCons (eC (.int 3)) (aCons (eCall1 Mo_law_draw (aCons (eVar 0) (aCons (eC (.int 6)) aNil))) (aCons (eCall1 Mo_law_draw (aCons (eVar 0) (aCons (eC (.int 20)) aNil))) (aCons (eCall1 Mo_law_draw (aCons (eVar 0) (aCons (eC (.int 6)) aNil))) (aCons (eCall1 Mo_law_draw (aCons (eVar 0) (aCons (eBin powD (eC (.int 10)) (eC (.int 29))) aNil))) aNil))))))))))
  (sRet (eBin ixD (eVar 1) (eCall1 Mo_law_draw (aCons (eVar 0) (aCons (eC (.int 8)) aNil))))))
noncomputable abbrev M_law_number : G → Option (R × G) := dM 1 2 B_law_number
noncomputable def B_law_stages : G → Option O :=
  (sSeq (sAsg 2 (eLst aNil))
  (sSeq (sFor (iR1 (eCall1 Mo_law_draw (aCons (eVar 0) (aCons (eBin addD (eVar 1) (eC (.int 1))) aNil)))) (gN 3) (sSeq (sAsg 4 (eCall1 Mo_law_draw (aCons (eVar 0) (aCons (eC (.int 8)) aNil))))
  (sIf (tst (eBin cLt (eVar 4) (eC (.int 5)))) (sSeq (sAsg 5 (eBin addD (eCall1 M_law_number (aCons (eVar 0) aNil)) (eBin mulD (eBin ixD (eLst (aCons (eC (.int 0)) (aCons (eC (.int 4)) (aCons (eC (.int 20)) aNil)))) (eCall1 Mo_law_draw (aCons (eVar 0) (aCons (eC (.int 3)) aNil)))) (eCB intD (aCons (eBin cLt (eVar 4) (eC (.int 2))) aNil)))))
  (sExpr (eApp 2 (eTup (aCons (eBin ixD (eLst (aCons (eC (.str (("head" : String) : Str))) (aCons (eC (.str (("tail" : String) : Str))) (aCons (eC (.str (("skip" : String) : Str))) (aCons (eC (.str (("chop" : String) : Str))) (aCons (eC (.str (("skip" : String) : Str))) aNil)))))) (eVar 4)) (aCons (eVar 5) aNil)))))) (sExpr (eApp 2 (eTup (aCons (eBin ixD (eLst (aCons (eC (.str (("reverse" : String) : Str))) (aCons (eC (.str (("uniq" : String) : Str))) (aCons (eC (.str (("sort" : String) : Str))) aNil)))) (eBin subD (eVar 4) (eC (.int 5)))) aNil)))))))
  (sRet (eVar 2))))
noncomputable abbrev M_law_stages : G → Option (R × G) := dM 2 6 B_law_stages
noncomputable def B_law_words : G → Option O :=
  (sSeq (sAsg 1 (eLst (aCons (eC (.str (("a" : String) : Str))) (aCons (eC (.str (("b" : String) : Str))) (aCons (eC (.str (("c" : String) : Str))) (aCons (eC (.str (("B" : String) : Str))) (aCons (eC (.str (("" : String) : Str))) (aCons (eC (.str ((" " : String) : Str))) (aCons (eC (.str (("ab" : String) : Str))) (aCons (eC (.str (("aa" : String) : Str))) (aCons (eC (.str (("~" : String) : Str))) (aCons (eC (.str (("a line of 20 letters" : String) : Str))) aNil))))))))))))
  (sRet (eLc (iR1 (eBin addD (eC (.int 2)) (eCall1 Mo_law_draw (aCons (eVar 0) (aCons (eC (.int 5)) aNil))))) (gN 2) tYesG (ePopAt 1 (eCall1 Mo_law_draw (aCons (eVar 0) (aCons (eCB lenD (aCons (eVar 1) aNil)) aNil)))) [2])))
noncomputable abbrev M_law_words : G → Option (R × G) := dM 1 3 B_law_words
noncomputable def B_law_rows : G → Option O :=
  (sSeq (sAsg 3 (eLst aNil))
  (sSeq (sAsg 4 (eBin addD (eC (.int 1)) (eCall1 Mo_law_draw (aCons (eVar 0) (aCons (eC (.int 4)) aNil)))))
  (sSeq (sFor (iR1 (eCall1 Mo_law_draw (aCons (eVar 0) (aCons (eBin addD (eVar 2) (eC (.int 1))) aNil)))) (gN 5) (sSeq (sAsg 6 (eAnd (eBin cNe (eVar 3) (eLst aNil)) (eBin cGt (eCall1 Mo_law_draw (aCons (eVar 0) (aCons (eVar 4) aNil))) (eC (.int 0)))))
  (sExpr (eApp 3 (eIf (tst (eVar 6)) (eBin ixD (eVar 3) (eNeg (eC (.int 1)))) (eBin ixD (eVar 1) (eCall1 Mo_law_draw (aCons (eVar 0) (aCons (eCB lenD (aCons (eVar 1) aNil)) aNil)))))))))
  (sRet (eVar 3)))))
noncomputable abbrev M_law_rows : G → Option (R × G) := dM 3 7 B_law_rows
noncomputable def B_law_after : G → Option O :=
  (sSeq (sIf (tst (eBin cIs (eVar 2) (eC .non))) (sRet (eBin addD (eSl (eVar 0) oNone (oSome (eVar 1))) (eSl (eVar 0) (oSome (eBin addD (eVar 1) (eC (.int 1)))) oNone))) sNext)
  (sRet (eBin addD (eBin addD (eSl (eVar 0) oNone (oSome (eVar 1))) (eLst (aCons (eVar 2) aNil))) (eSl (eVar 0) (oSome (eVar 1)) oNone))))
noncomputable abbrev M_law_after : G → Option (R × G) := dM 3 3 B_law_after
noncomputable def B_law_asked : G → Option O :=
  (sSeq (sAsg 3 (eC .non))
  (sTryK 4 3 [(("InvalidIndex" : String) : Str)] (sIf (tst (eBin cIs (eVar 2) (eC .non))) (sCallX1 XLive_remove (recA (("Live" : String) : Str) (("remove" : String) : Str) (eVar 0) (aCons (eVar 1) aNil))) (sCallX1 XLive_insert (recA (("Live" : String) : Str) (("insert" : String) : Str) (eVar 0) (aCons (eVar 1) (aCons (eVar 2) aNil)))))
    (sSeq (sIf (tst (eBin cIs (eVar 3) (eC .non))) (sRet (eC (.str (("none" : String) : Str)))) sNext) (fun _ => none))
    (fun _ => (sSeq (sIf (tst (eIs 3 false)) sBad sNext) (sSeq (sAsg 5 (eIs 3 false))
  (sSeq (sIf (bOr (tst (eVar 5)) (bOr (bNot (tst (eIs 3 true))) (bNot (tst (eIs 3 true))))) (sRet (eC (.str (("other" : String) : Str)))) sNext)
  (sRet (eXv 3))))))))
noncomputable abbrev M_law_asked : G → Option (R × G) := dM 3 6 B_law_asked
noncomputable def B_law_right : G → Option O :=
  (sSeq (sAsg 1 (eCall1 M_law_words (aCons (eVar 0) aNil)))
  (sSeq (sAsg 2 (eCall1 M_law_rows (aCons (eVar 0) (aCons (eVar 1) (aCons (eC (.int 10)) aNil)))))
  (sNewR 3 (frz13 (eCallN (mkLiveN Mcheck_pipeline Mrun) (aCons (eCall1 M_law_stages (aCons (eVar 0) (aCons (eC (.int 4)) aNil))) (aCons (eVar 2) aNil))))
  (sSeq (sFor (iR1 (eC (.int 20))) (gN 4) (sSeq (sAsg 5 (eCB lenD (aCons (eVar 2) aNil)))
  (sSeq (sAsg 6 (eCall1 Mo_law_draw (aCons (eVar 0) (aCons (eBin powD (eC (.int 10)) (eC (.int 29))) aNil))))
  (sSeq (sAsg 7 (eBin ixD (eLst (aCons (eNeg (eC (.int 1))) (aCons (eC (.int 0)) (aCons (eBin subD (eVar 5) (eC (.int 1))) (aCons (eVar 5) (aCons (eBin addD (eVar 5) (eC (.int 1))) (aCons (eBin subD (eC (.int 0)) (eVar 5)) (aCons (eVar 6) (aCons (eBin subD (eNeg (eC (.int 1))) (eVar 6)) aNil))))))))) (eCall1 Mo_law_draw (aCons (eVar 0) (aCons (eC (.int 8)) aNil)))))
  (sSeq (sAsg 8 (eBin ixD (eLst (aCons (eC .non) (aCons (eBin ixD (eVar 1) (eCall1 Mo_law_draw (aCons (eVar 0) (aCons (eCB lenD (aCons (eVar 1) aNil)) aNil)))) aNil))) (eCall1 Mo_law_draw (aCons (eVar 0) (aCons (eC (.int 2)) aNil)))))
  (sSeq (sAsg 9 (eChain cLe cLt (eC (.int 0)) (eVar 7) (eBin addD (eVar 5) (eCB intD (aCons (eBin cIsN (eVar 8) (eC .non)) aNil)))))
  (sSeq (sAsg 10 (eMeth0 (("Live" : String) : Str) (("result" : String) : Str) MLive_result (eVar 3) aNil))
  (sSeq (sIf (tst (eBin cNe (eCall1 M_law_asked (aCons (eVar 3) (aCons (eVar 7) (aCons (eVar 8) aNil)))) (eIf (tst (eVar 9)) (eC (.str (("none" : String) : Str))) (eVar 7)))) (sRet (eC (.bl false))) sNext)
  (sSeq (sIf (tst (eVar 9)) (sAsg 2 (eCall0 M_law_after (aCons (eVar 2) (aCons (eVar 7) (aCons (eVar 8) aNil))))) (sIf (tst (eBin cNe (eMeth0 (("Live" : String) : Str) (("result" : String) : Str) MLive_result (eVar 3) aNil) (eVar 10))) (sRet (eC (.bl false))) sNext))
  (sIf (tst (eBin cNe (eMeth0 (("Live" : String) : Str) (("lines" : String) : Str) MLive_lines (eVar 3) aNil) (eVar 2))) (sRet (eC (.bl false))) sNext))))))))))
  (sRet (eC (.bl true)))))))
noncomputable abbrev M_law_right : G → Option (R × G) := dM 1 11 B_law_right
noncomputable def Blaw : G → Option O :=
  (sSeq (sFor (iR1 (eCB maxD (aCons (eC (.int 1)) (aCons (eCB minD (aCons (eC (.int 6)) (aCons (eCB lenD (aCons (eVar 0) aNil)) aNil))) aNil)))) (gN 1) (sSeq (sAsg 2 (eCall0 M_law_pool (aCons (eVar 0) (aCons (eVar 1) aNil))))
  (sFor (iR1 (eC (.int 2))) (gN 3) (sIf (bNot (tst (eCall1 M_law_right (aCons (eVar 2) aNil)))) (sRet (eC (.bl false))) sNext))))
  (sRet (eC (.bl true))))
noncomputable abbrev Mlaw : G → Option (R × G) := dM 1 4 Blaw
structure Txt (w : World) (K : PySem.W.Frag) (mg : Str → Option Value) where
  ais_command : Addr
  dis_command : FuncData
  Fis_command : Fun K "is_command" "is_command" stis_command ais_command dis_command
  gis_command : mg "is_command" = some (.ref ais_command)
  nis_command : Binds K dis_command ["element"] []
  acheck_pipeline : Addr
  dcheck_pipeline : FuncData
  Fcheck_pipeline : Fun K "check_pipeline" "check_pipeline" stcheck_pipeline acheck_pipeline dcheck_pipeline
  gcheck_pipeline : mg "check_pipeline" = some (.ref acheck_pipeline)
  ncheck_pipeline : Binds K dcheck_pipeline ["pipeline"] []
  awithout_repeats : Addr
  dwithout_repeats : FuncData
  Fwithout_repeats : Fun K "without_repeats" "without_repeats" stwithout_repeats awithout_repeats dwithout_repeats
  gwithout_repeats : mg "without_repeats" = some (.ref awithout_repeats)
  nwithout_repeats : Binds K dwithout_repeats ["lines"] []
  aapply_command : Addr
  dapply_command : FuncData
  Fapply_command : Fun K "apply_command" "apply_command" stapply_command aapply_command dapply_command
  gapply_command : mg "apply_command" = some (.ref aapply_command)
  napply_command : Binds K dapply_command ["command", "lines"] []
  arun : Addr
  drun : FuncData
  Frun : Fun K "run" "run" strun arun drun
  grun : mg "run" = some (.ref arun)
  nrun : Binds K drun ["pipeline", "lines"] []
  acommon_lengths : Addr
  dcommon_lengths : FuncData
  Fcommon_lengths : Fun K "common_lengths" "common_lengths" stcommon_lengths acommon_lengths dcommon_lengths
  gcommon_lengths : mg "common_lengths" = some (.ref acommon_lengths)
  ncommon_lengths : Binds K dcommon_lengths ["old", "new"] []
  alist_changes : Addr
  dlist_changes : FuncData
  Flist_changes : Fun K "list_changes" "list_changes" stlist_changes alist_changes dlist_changes
  glist_changes : mg "list_changes" = some (.ref alist_changes)
  nlist_changes : Binds K dlist_changes ["old", "new"] []
  aLive_lines : Addr
  dLive_lines : FuncData
  FLive_lines : Fun K "lines" "Live.lines" stLive_lines aLive_lines dLive_lines
  nLive_lines : Binds K dLive_lines ["self"] []
  aLive_result : Addr
  dLive_result : FuncData
  FLive_result : Fun K "result" "Live.result" stLive_result aLive_result dLive_result
  nLive_result : Binds K dLive_result ["self"] []
  aLive_update : Addr
  dLive_update : FuncData
  FLive_update : Fun K "update" "Live.update" stLive_update aLive_update dLive_update
  nLive_update : Binds K dLive_update ["self"] []
  aLive_insert : Addr
  dLive_insert : FuncData
  FLive_insert : Fun K "insert" "Live.insert" stLive_insert aLive_insert dLive_insert
  nLive_insert : Binds K dLive_insert ["self", "index", "line"] []
  aLive_remove : Addr
  dLive_remove : FuncData
  FLive_remove : Fun K "remove" "Live.remove" stLive_remove aLive_remove dLive_remove
  nLive_remove : Binds K dLive_remove ["self", "index"] []
  a_law_pool : Addr
  d_law_pool : FuncData
  F_law_pool : Fun K "_law_pool" "_law_pool" st_law_pool a_law_pool d_law_pool
  g_law_pool : mg "_law_pool" = some (.ref a_law_pool)
  n_law_pool : Binds K d_law_pool ["script", "at"] []
  a_law_draw : Addr
  d_law_draw : FuncData
  F_law_draw : Fun K "_law_draw" "_law_draw" st_law_draw a_law_draw d_law_draw
  g_law_draw : mg "_law_draw" = some (.ref a_law_draw)
  n_law_draw : Binds K d_law_draw ["pool", "many"] []
  a_law_number : Addr
  d_law_number : FuncData
  F_law_number : Fun K "_law_number" "_law_number" st_law_number a_law_number d_law_number
  g_law_number : mg "_law_number" = some (.ref a_law_number)
  n_law_number : Binds K d_law_number ["pool"] []
  a_law_stages : Addr
  d_law_stages : FuncData
  F_law_stages : Fun K "_law_stages" "_law_stages" st_law_stages a_law_stages d_law_stages
  g_law_stages : mg "_law_stages" = some (.ref a_law_stages)
  n_law_stages : Binds K d_law_stages ["pool", "most"] []
  a_law_words : Addr
  d_law_words : FuncData
  F_law_words : Fun K "_law_words" "_law_words" st_law_words a_law_words d_law_words
  g_law_words : mg "_law_words" = some (.ref a_law_words)
  n_law_words : Binds K d_law_words ["pool"] []
  a_law_rows : Addr
  d_law_rows : FuncData
  F_law_rows : Fun K "_law_rows" "_law_rows" st_law_rows a_law_rows d_law_rows
  g_law_rows : mg "_law_rows" = some (.ref a_law_rows)
  n_law_rows : Binds K d_law_rows ["pool", "words", "most"] []
  a_law_after : Addr
  d_law_after : FuncData
  F_law_after : Fun K "_law_after" "_law_after" st_law_after a_law_after d_law_after
  g_law_after : mg "_law_after" = some (.ref a_law_after)
  n_law_after : Binds K d_law_after ["rows", "place", "row"] []
  a_law_asked : Addr
  d_law_asked : FuncData
  F_law_asked : Fun K "_law_asked" "_law_asked" st_law_asked a_law_asked d_law_asked
  g_law_asked : mg "_law_asked" = some (.ref a_law_asked)
  n_law_asked : Binds K d_law_asked ["live", "place", "row"] []
  a_law_right : Addr
  d_law_right : FuncData
  F_law_right : Fun K "_law_right" "_law_right" st_law_right a_law_right d_law_right
  g_law_right : mg "_law_right" = some (.ref a_law_right)
  n_law_right : Binds K d_law_right ["pool"] []
  alaw : Addr
  dlaw : FuncData
  Flaw : Fun K "law" "law" stlaw alaw dlaw
  glaw : mg "law" = some (.ref alaw)
  nlaw : Binds K dlaw ["script"] []
  p_Slice : Addr
  g_Slice : mg "Slice" = some (.ref p_Slice)
  cl_Slice : Cls K p_Slice
  i_Slice : Addr
  di_Slice : FuncData
  M_Slice : Mk K p_Slice i_Slice
  e_Slice : Addr
  z_Slice : SqT K (fun _ => none) e_Slice []
  Fi_Slice : FunD K "__init__" "Slice.__init__" (defArgs sti_Slice) (defBody sti_Slice) (defScope sti_Slice) [.int 0, .int 0, .ref e_Slice] [] i_Slice di_Slice
  b3_Slice : Binds K di_Slice ["self", "skip", "chop", "sizes"] []
  d0_Slice : List Value
  v0_Slice : Vals [.int 0, .int 0, .ref e_Slice] d0_Slice
  b0_Slice : Binds K di_Slice ["self", "skip", "chop", "sizes"] d0_Slice
  na_Slice_skip : NoAttr K p_Slice "skip"
  na_Slice_chop : NoAttr K p_Slice "chop"
  na_Slice_sizes : NoAttr K p_Slice "sizes"
  p_Form : Addr
  g_Form : mg "Form" = some (.ref p_Form)
  cl_Form : Cls K p_Form
  i_Form : Addr
  di_Form : FuncData
  M_Form : Mk K p_Form i_Form
  Fi_Form : Fun K "__init__" "Form.__init__" sti_Form i_Form di_Form
  bI_Form : Binds K di_Form ["self"] []
  na_Form_slices : NoAttr K p_Form "slices"
  na_Form_words : NoAttr K p_Form "words"
  na_Form_is_reversed : NoAttr K p_Form "is_reversed"
  p_Live : Addr
  g_Live : mg "Live" = some (.ref p_Live)
  cl_Live : Cls K p_Live
  i_Live : Addr
  di_Live : FuncData
  M_Live : Mk K p_Live i_Live
  Fi_Live : Fun K "__init__" "Live.__init__" sti_Live i_Live di_Live
  bI_Live : Binds K di_Live ["self", "pipeline", "lines"] []
  na_Live_chain : NoAttr K p_Live "chain"
  na_Live_present : NoAttr K p_Live "present"
  na_Live_known : NoAttr K p_Live "known"
  mLive_lines : Meth K p_Live "lines" aLive_lines
  mLive_result : Meth K p_Live "result" aLive_result
  mLive_update : Meth K p_Live "update" aLive_update
  mLive_insert : Meth K p_Live "insert" aLive_insert
  mLive_remove : Meth K p_Live "remove" aLive_remove
  p_MIRRORED : Addr
  c_MIRRORED : mg "MIRRORED" = some (.ref p_MIRRORED)
  k_MIRRORED : ∀ q ∈ ([((("head" : String) : Str), (("tail" : String) : Str)), ((("tail" : String) : Str), (("head" : String) : Str)), ((("skip" : String) : Str), (("chop" : String) : Str)), ((("chop" : String) : Str), (("skip" : String) : Str))] : List (Str × Str)), KDct K w p_MIRRORED q.1 (.str q.2)
  p_InvalidCommand : Addr
  g_InvalidCommand : mg "InvalidCommand" = some (.ref p_InvalidCommand)
  p_InvalidIndex : Addr
  g_InvalidIndex : mg "InvalidIndex" = some (.ref p_InvalidIndex)
  p_InvalidNumber : Addr
  g_InvalidNumber : mg "InvalidNumber" = some (.ref p_InvalidNumber)
  p_InvalidRun : Addr
  g_InvalidRun : mg "InvalidRun" = some (.ref p_InvalidRun)
  p_PipeError : Addr
  g_PipeError : mg "PipeError" = some (.ref p_PipeError)
  p_Unreadable : Addr
  g_Unreadable : mg "Unreadable" = some (.ref p_Unreadable)
  r_PipeError : BaseT K mg "PipeError" p_PipeError
  i_InvalidIndex : Addr
  di_InvalidIndex : FuncData
  Fi_InvalidIndex : Fun K "__init__" "InvalidIndex.__init__" sti_InvalidIndex i_InvalidIndex di_InvalidIndex
  ni_InvalidIndex : Binds K di_InvalidIndex ["self", "value"] []
  x_InvalidIndex : ExcT K mg "InvalidIndex" p_InvalidIndex i_InvalidIndex
  k_InvalidIndex_InvalidCommand : PySem.W.kitOne K (.ref p_InvalidIndex) (.ref p_InvalidCommand) = some false
  k_InvalidIndex_InvalidIndex : PySem.W.kitOne K (.ref p_InvalidIndex) (.ref p_InvalidIndex) = some true
  k_InvalidIndex_InvalidNumber : PySem.W.kitOne K (.ref p_InvalidIndex) (.ref p_InvalidNumber) = some false
  k_InvalidIndex_InvalidRun : PySem.W.kitOne K (.ref p_InvalidIndex) (.ref p_InvalidRun) = some false
  k_InvalidIndex_Unreadable : PySem.W.kitOne K (.ref p_InvalidIndex) (.ref p_Unreadable) = some false
  e_InvalidIndex_PipeError : PySem.W.exmOne K (.ref p_InvalidIndex) (.ref p_PipeError) = some true
  kv_InvalidIndex : PySem.W.kitOne K (.ref p_InvalidIndex) (.type "ValueError") = some true
  b_ValueError : mg "ValueError" = none
  b_abs : mg "abs" = none
  b_enumerate : mg "enumerate" = none
  b_int : mg "int" = none
  b_isinstance : mg "isinstance" = none
  b_len : mg "len" = none
  b_list : mg "list" = none
  b_max : mg "max" = none
  b_min : mg "min" = none
  b_range : mg "range" = none
  b_set : mg "set" = none
  b_sorted : mg "sorted" = none
  b_zip : mg "zip" = none
  t_CHOP : Tok
  c_CHOP : mg "CHOP" = some (.str (("chop" : String) : Str) t_CHOP)
  t_HEAD : Tok
  c_HEAD : mg "HEAD" = some (.str (("head" : String) : Str) t_HEAD)
  p_NOTHING : Addr
  c_NOTHING : mg "NOTHING" = some (.ref p_NOTHING)
  f_NOTHING : ∀ {m : List Addr} {H : Hp}, Fz K mg m H (.ref p_NOTHING) (.sls [.tup [.str (("head" : String) : Str), .int 0]])
  p_NUMBERED : Addr
  c_NUMBERED : mg "NUMBERED" = some (.ref p_NUMBERED)
  q_NUMBERED : SqT K (fun _ => none) p_NUMBERED ([(("head" : String) : Str), (("tail" : String) : Str), (("skip" : String) : Str), (("chop" : String) : Str)].map V.str)
  p_PLAIN : Addr
  c_PLAIN : mg "PLAIN" = some (.ref p_PLAIN)
  q_PLAIN : SqT K (fun _ => none) p_PLAIN ([(("reverse" : String) : Str), (("uniq" : String) : Str), (("sort" : String) : Str)].map V.str)
  t_REVERSE : Tok
  c_REVERSE : mg "REVERSE" = some (.str (("reverse" : String) : Str) t_REVERSE)
  t_SKIP : Tok
  c_SKIP : mg "SKIP" = some (.str (("skip" : String) : Str) t_SKIP)
  t_SORT : Tok
  c_SORT : mg "SORT" = some (.str (("sort" : String) : Str) t_SORT)
  t_UNIQ : Tok
  c_UNIQ : mg "UNIQ" = some (.str (("uniq" : String) : Str) t_UNIQ)
section
variable {P : Program} {w : World} {K : PySem.W.Frag} {mg : Str → Option Value} {base : Heap}
theorem sci_InvalidIndex : FnScope ["self", "value"] ["self", "value"] (defScope sti_InvalidIndex) := ⟨rfl, rfl, rfl, by decide +kernel, rfl, by decide +kernel, by decide +kernel⟩
theorem oki_InvalidIndex (T : Txt w K mg) : FnOk P w K mg base CX0 1 T.i_InvalidIndex T.di_InvalidIndex ["self", "value"] (spI T.p_InvalidIndex) :=
  init_ok T.Fi_InvalidIndex sci_InvalidIndex T.x_InvalidIndex.oex T.x_InvalidIndex.noV fun cdv A outer s H E => by
    exact (pss_cons (ps_expr (pe_binit T.r_PipeError (by rfl) (pa_cons (pv 0) (pa_cons pe_str pa_nil)))) (pss_one (ps_ost (pv 0) (pv 1))))
theorem sci_Live : FnScope ["self", "pipeline", "lines"] ["self", "pipeline", "lines"] (defScope sti_Live) := ⟨rfl, rfl, rfl, by decide +kernel, rfl, by decide +kernel, by decide +kernel⟩
theorem scis_command : FnScope ["element", "name", "numbers"] ["element"] (defScope stis_command) := ⟨rfl, rfl, rfl, by decide +kernel, rfl, by decide +kernel, by decide +kernel⟩
theorem okis_command (T : Txt w K mg) : FnOk P w K mg base CX0 1 T.ais_command T.dis_command ["element"] (spM K mg 1 Mis_command) :=
  def_ok T.Fis_command scis_command fun cdv A outer s H E c hr => by
    have nd := scis_command.nd
    exact (ss_cons (ss_asgT (se_v 0) (sg_star rfl nd (by rfl) (by rfl) (by first | exact .inl rfl | exact .inr rfl) (by first | exact .inl rfl | exact .inr rfl)))
    (ss_cons (ss_if (st_cmp (op_inS hr) (se_v 1) (se_gl (v := .ref T.p_PLAIN) (by rfl) T.c_PLAIN rfl (fun _ _ => .tup (.inr T.q_PLAIN) (fz_strs [(("reverse" : String) : Str), (("uniq" : String) : Str), (("sort" : String) : Str)]))) (by rfl)) (ss_one (ss_ret (se_cmp (op_eqS hr) (se_v 2) (se_lst sa_nil) (nomark _)))) ss_nil)
    (ss_one (ss_ret (se_and (se_cmp (op_inS hr) (se_v 1) (se_gl (v := .ref T.p_NUMBERED) (by rfl) T.c_NUMBERED rfl (fun _ _ => .tup (.inr T.q_NUMBERED) (fz_strs [(("head" : String) : Str), (("tail" : String) : Str), (("skip" : String) : Str), (("chop" : String) : Str)]))) (by rfl)) (se_and (se_cmp (op_neS hr) (se_v 2) (se_lst sa_nil) (nomark _)) (se_one (se_cmp op_geS (se_ix (se_v 2) se_int) se_int (nomark _)))))))))
theorem sccheck_pipeline : FnScope ["pipeline", "index", "element"] ["pipeline"] (defScope stcheck_pipeline) := ⟨rfl, rfl, rfl, by decide +kernel, rfl, by decide +kernel, by decide +kernel⟩
theorem okcheck_pipeline (T : Txt w K mg) : FnOk P w K mg base CX0 2 T.acheck_pipeline T.dcheck_pipeline ["pipeline"] (spM K mg 1 Mcheck_pipeline) :=
  def_ok T.Fcheck_pipeline sccheck_pipeline fun cdv A outer s H E c hr => by
    have nd := sccheck_pipeline.nd
    exact (ss_one (ss_for PassesOwn.never rfl (si_enum (by rfl) T.b_enumerate (se_v 0)) (sg_tup rfl (sgs_cons (sg_name nd (by rfl) (by first | exact .inl rfl | exact .inr rfl)) (sgs_cons (sg_name nd (by rfl) (by first | exact .inl rfl | exact .inr rfl)) sgs_nil))) (ss_one (ss_if (st_not (st_val (se_call0 (okis_command T) (hr.mono (by decide)) (by rfl) T.gis_command T.Fis_command.kp T.nis_command (sa_cons (se_v 2) sa_nil)))) (ss_one ss_bad) ss_nil))))
theorem scwithout_repeats : FnScope ["lines", "found", "line"] ["lines"] (defScope stwithout_repeats) := ⟨rfl, rfl, rfl, by decide +kernel, rfl, by decide +kernel, by decide +kernel⟩
theorem okwithout_repeats (T : Txt w K mg) : FnOk P w K mg base CX0 1 T.awithout_repeats T.dwithout_repeats ["lines"] (spM K mg 1 Mwithout_repeats) :=
  def_ok T.Fwithout_repeats scwithout_repeats fun cdv A outer s H E c hr => by
    have nd := scwithout_repeats.nd
    exact (ss_cons (ss_set (i := 1) nd (by rfl) (by first | exact .inl rfl | exact .inr rfl) (se_sl (se_v 0) so_none (so_some se_int)))
    (ss_cons (ss_for PassesOwn.never rfl (si_any (se_sl (se_v 0) (so_some se_int) so_none)) (sg_name nd (by rfl) (by first | exact .inl rfl | exact .inr rfl)) (ss_one (ss_if (st_cmp (op_neS hr) (se_v 2) (se_ix (se_v 1) (se_neg se_int)) (nomark _)) (ss_one (ss_expr (se_append (pv 1) (se_v 2)))) ss_nil)))
    (ss_one (ss_ret (se_v 1)))))
theorem scapply_command : FnScope ["command", "lines", "name", "numbers", "rest"] ["command", "lines"] (defScope stapply_command) := ⟨rfl, rfl, rfl, by decide +kernel, rfl, by decide +kernel, by decide +kernel⟩
theorem okapply_command (T : Txt w K mg) : FnOk P w K mg base CX0 2 T.aapply_command T.dapply_command ["command", "lines"] (spM K mg 2 Mapply_command) :=
  def_ok T.Fapply_command scapply_command fun cdv A outer s H E c hr => by
    have nd := scapply_command.nd
    exact (ss_cons (ss_asgT (se_v 0) (sg_star rfl nd (by rfl) (by rfl) (by first | exact .inl rfl | exact .inr rfl) (by first | exact .inl rfl | exact .inr rfl)))
    (ss_cons (ss_if (st_cmp (op_eqS hr) (se_v 2) (se_gl (v := .str (("reverse" : String) : Str)) (by rfl) T.c_REVERSE ⟨_, rfl⟩ (fun _ _ => .str _)) (nomark _)) (ss_one (ss_ret (se_rev (se_v 1)))) ss_nil)
    (ss_cons (ss_if (st_cmp (op_eqS hr) (se_v 2) (se_gl (v := .str (("uniq" : String) : Str)) (by rfl) T.c_UNIQ ⟨_, rfl⟩ (fun _ _ => .str _)) (nomark _)) (ss_one (ss_ret (se_call0 (okwithout_repeats T) (hr.mono (by decide)) (by rfl) T.gwithout_repeats T.Fwithout_repeats.kp T.nwithout_repeats (sa_cons (se_v 1) sa_nil)))) ss_nil)
    (ss_cons (ss_if (st_cmp (op_eqS hr) (se_v 2) (se_gl (v := .str (("sort" : String) : Str)) (by rfl) T.c_SORT ⟨_, rfl⟩ (fun _ _ => .str _)) (nomark _)) (ss_one (ss_ret (se_sortSet (by rfl) (by rfl) T.b_sorted (by decide +kernel) (by rfl) T.b_set (by decide +kernel) (sa_cons (se_v 1) sa_nil)))) ss_nil)
    (ss_cons (ss_set (i := 4) nd (by rfl) (by first | exact .inl rfl | exact .inr rfl) (se_cb c_max (by rfl) T.b_max (by decide +kernel) (sa_cons se_int (sa_cons (se_op op_subD (se_cb c_len (by rfl) T.b_len (by decide +kernel) (sa_cons (se_v 1) sa_nil)) (se_ix (se_v 3) se_int)) sa_nil))))
    (ss_cons (ss_if (st_cmp (op_inS hr) (se_v 2) (se_tup (sa_cons (se_gl (v := .str (("head" : String) : Str)) (by rfl) T.c_HEAD ⟨_, rfl⟩ (fun _ _ => .str _)) (sa_cons (se_gl (v := .str (("chop" : String) : Str)) (by rfl) T.c_CHOP ⟨_, rfl⟩ (fun _ _ => .str _)) sa_nil))) (by rfl)) (ss_one (ss_ret (se_sl (se_v 1) so_none (so_some (se_if (st_cmp (op_eqS hr) (se_v 2) (se_gl (v := .str (("head" : String) : Str)) (by rfl) T.c_HEAD ⟨_, rfl⟩ (fun _ _ => .str _)) (nomark _)) (se_ix (se_v 3) se_int) (se_v 4)))))) ss_nil)
    (ss_one (ss_ret (se_sl (se_v 1) (so_some (se_if (st_cmp (op_eqS hr) (se_v 2) (se_gl (v := .str (("skip" : String) : Str)) (by rfl) T.c_SKIP ⟨_, rfl⟩ (fun _ _ => .str _)) (nomark _)) (se_ix (se_v 3) se_int) (se_v 4))) so_none)))))))))
theorem scrun : FnScope ["pipeline", "lines", "found", "command"] ["pipeline", "lines"] (defScope strun) := ⟨rfl, rfl, rfl, by decide +kernel, rfl, by decide +kernel, by decide +kernel⟩
theorem okrun (T : Txt w K mg) : FnOk P w K mg base CX0 3 T.arun T.drun ["pipeline", "lines"] (spM K mg 2 Mrun) :=
  def_ok T.Frun scrun fun cdv A outer s H E c hr => by
    have nd := scrun.nd
    exact (ss_cons (ss_expr (se_call0 (okcheck_pipeline T) (hr.mono (by decide)) (by rfl) T.gcheck_pipeline T.Fcheck_pipeline.kp T.ncheck_pipeline (sa_cons (se_v 0) sa_nil)))
    (ss_cons (ss_set (i := 2) nd (by rfl) (by first | exact .inl rfl | exact .inr rfl) (se_cty c_list (by rfl) T.b_list (by decide +kernel) (sa_cons (se_v 1) sa_nil)))
    (ss_cons (ss_for PassesOwn.never rfl (si_any (se_v 0)) (sg_name nd (by rfl) (by first | exact .inl rfl | exact .inr rfl)) (ss_one (ss_set (i := 2) nd (by rfl) (by first | exact .inl rfl | exact .inr rfl) (se_call0 (okapply_command T) (hr.mono (by decide)) (by rfl) T.gapply_command T.Fapply_command.kp T.napply_command (sa_cons (se_v 3) (sa_cons (se_v 2) sa_nil))))))
    (ss_one (ss_ret (se_v 2))))))
theorem okI_LiveO (T : Txt w K mg) : FnOk P w K mg base CX0 4 T.i_Live T.di_Live ["self", "pipeline", "lines"] (spLO K mg T.p_Live Mcheck_pipeline Mrun) :=
  T.Fi_Live.ok sci_Live (fun vs H Q E h => by obtain ⟨p, dx, v1, v2, m, dp, dl, lp, ll, lr, r0, g0, gr, rfl, _⟩ := h; rfl) fun cdv A outer s H vs Q E hr h => by
    have nd := sci_Live.nd
    exact ⟨_, pss_cons (ps_expr (pe_call (okcheck_pipeline T) (hr.mono (by decide)) (by rfl) T.gcheck_pipeline T.Fcheck_pipeline.kp T.ncheck_pipeline .nil pass0 (pa_cons (pv 1) pa_nil))) (pss_cons (ps_fld (pv 0) (pe_callTy call_list_of (by rfl) T.b_list (by decide +kernel) (pa_cons (pv 1) pa_nil)) rfl) (pss_cons (ps_fld (pv 0) (pe_callTy call_list_of (by rfl) T.b_list (by decide +kernel) (pa_cons (pv 2) pa_nil)) rfl) (pss_one (ps_fld (pv 0) (pe_call (okrun T) (hr.mono (by decide)) (by rfl) T.grun T.Frun.kp T.nrun .nil pass0 (pa_cons (pv 1) (pa_cons (pv 2) pa_nil))) rfl)))), live_initO (X := (cxOf CX0 P w K mg base ["self", "pipeline", "lines"] "Live.__init__" (defScope sti_Live) T.i_Live cdv A outer s H E).nox) (Fc := Mcheck_pipeline) (Fr := Mrun) T.g_Live T.cl_Live T.na_Live_chain T.na_Live_present T.na_Live_known ⟨_, rfl⟩ rfl h⟩
theorem sccommon_lengths : FnScope ["old", "new", "table", "one", "other", "index"] ["old", "new"] (defScope stcommon_lengths) := ⟨rfl, rfl, rfl, by decide +kernel, rfl, by decide +kernel, by decide +kernel⟩
theorem okcommon_lengths (T : Txt w K mg) : FnOk P w K mg base CX0 1 T.acommon_lengths T.dcommon_lengths ["old", "new"] (spM K mg 2 Mcommon_lengths) :=
  def_ok T.Fcommon_lengths sccommon_lengths fun cdv A outer s H E c hr => by
    have nd := sccommon_lengths.nd
    exact (ss_lcs (a := 0) (b := 1) (it := 2) (io := 3) (jo := 4) (ix := 5) (by decide) (by decide) (by decide) (by decide) (by decide) (by decide) (by decide) (by decide) (by decide) (by decide) (by decide)
    (ps_setLc (own := [("index", 5)]) rfl nd (by rfl) rfl (by rfl) (pi_range1 (by rfl) T.b_range (pa_cons (pe_op op_add (pe_callB (r := fun xs H Q => ∃ p ys, xs = [.ref p] ∧ (SqL K H p ys ∨ SqT K H p ys) ∧ Q (.int ys.length) H) call_len_seq (by rfl) T.b_len rfl (pa_cons (pv 0) pa_nil) (by decide) (by decide)) pe_int) pa_nil)) (blkOk_by (N := ["old", "new", "table", "one", "other", "index"]) (sc := defScope stcommon_lengths) (by decide +kernel)) (fun _ _ _ _ _ => pg_name nd (by rfl) (by first | exact .inl rfl | exact .inr rfl)) (fun _ _ _ _ _ => pts_nil) (fun _ _ _ _ _ => pe_op op_rep (pe_lst (pa_cons pe_int pa_nil)) (pe_op op_add (pe_callB (r := fun xs H Q => ∃ p ys, xs = [.ref p] ∧ (SqL K H p ys ∨ SqT K H p ys) ∧ Q (.int ys.length) H) call_len_seq (by rfl) T.b_len rfl (pa_cons (pv 1) pa_nil) (by decide) (by decide)) pe_int)))
    (ps_for PassesOwn.never rfl (pi_range3 (by rfl) T.b_range (pa_cons (pe_op op_sub (pe_callB (r := fun xs H Q => ∃ p ys, xs = [.ref p] ∧ (SqL K H p ys ∨ SqT K H p ys) ∧ Q (.int ys.length) H) call_len_seq (by rfl) T.b_len rfl (pa_cons (pv 0) pa_nil) (by decide) (by decide)) pe_int) (pa_cons (pe_un un_neg pe_int) (pa_cons (pe_un un_neg pe_int) pa_nil)))) (pg_name nd (by rfl) (by first | exact .inl rfl | exact .inr rfl)) (pss_one (ps_for PassesOwn.never rfl (pi_range3 (by rfl) T.b_range (pa_cons (pe_op op_sub (pe_callB (r := fun xs H Q => ∃ p ys, xs = [.ref p] ∧ (SqL K H p ys ∨ SqT K H p ys) ∧ Q (.int ys.length) H) call_len_seq (by rfl) T.b_len rfl (pa_cons (pv 1) pa_nil) (by decide) (by decide)) pe_int) (pa_cons (pe_un un_neg pe_int) (pa_cons (pe_un un_neg pe_int) pa_nil)))) (pg_name nd (by rfl) (by first | exact .inl rfl | exact .inr rfl)) (pss_one (ps_if (pt_cmpR op_eq (pe_ix ix_seq (pv 0) (pv 3) (fun _ _ => rfl)) (pe_ix ix_seq (pv 1) (pv 4) (fun _ _ => rfl)) (nomark _)) (pss_one (ps_asg (pe_op op_add (pe_ix ix_seq (pe_ix ix_seq (pv 2) (pe_op op_add (pv 3) pe_int) (fun _ _ => rfl)) (pe_op op_add (pv 4) pe_int) (fun _ _ => rfl)) pe_int) (pg_sub (pe_ix ix_seq (pv 2) (pv 3) (fun _ _ => rfl)) (pv 4) set_list))) (pss_one (ps_asg (pe_callB (call_max2 rfl) (by rfl) T.b_max rfl (pa_cons (pe_ix ix_seq (pe_ix ix_seq (pv 2) (pe_op op_add (pv 3) pe_int) (fun _ _ => rfl)) (pv 4) (fun _ _ => rfl)) (pa_cons (pe_ix ix_seq (pe_ix ix_seq (pv 2) (pv 3) (fun _ _ => rfl)) (pe_op op_add (pv 4) pe_int) (fun _ _ => rfl)) pa_nil)) (by decide) (by decide)) (pg_sub (pe_ix ix_seq (pv 2) (pv 3) (fun _ _ => rfl)) (pv 4) set_list))))))))
    (ps_ret (pv 2))
    (by intro σ H Q v0 v1 L0 L1 S q; exact ⟨.ref v0, S.s0, v0, _, rfl, .inl (.of S.h0), _, _, rfl, rfl, by rw [List.length_map]; exact q⟩)
    (by intro σ H Q v0 v1 L0 L1 S hz q; exact ⟨by decide, fun p0 hp0 => ⟨.ref v1, S.s1, v1, _, rfl, .inl (.of (Ext.new hp0 _ _ S.h1)), _, _, rfl, rfl, lcs_rep hz hp0 q⟩⟩)
    (by intro σ H Q v0 v1 L0 L1 S q; exact ⟨.ref v0, S.s0, v0, _, rfl, .inl (.of S.h0), _, _, rfl, rfl, _, rfl, _, rfl, by rw [List.length_map]; exact q⟩)
    (by intro σ H Q v0 v1 L0 L1 S q; exact ⟨.ref v1, S.s1, v1, _, rfl, .inl (.of S.h1), _, _, rfl, rfl, _, rfl, _, rfl, by rw [List.length_map]; exact q⟩)
    (by intro σ H Q v0 v1 L0 L1 i j x y S gi gj hx hy q; exact ⟨.ref v0, S.s0, _, gi, .inl ⟨v0, _, _, _, rfl, rfl, .of S.h0, lcs_at hx, .ref v1, S.s1, _, gj, .inl ⟨v1, _, _, _, rfl, rfl, .of S.h1, lcs_at hy, rfl, _, rfl, lcs_dec q⟩⟩⟩)
    (by intro D σ H pT q q' trs row row' i j w g1 g2 g3 h1 h2 h3 h4 h5 h6 h7 h8; exact ⟨.ref pT, g1, _, g2, _, _, rfl, rfl, .inl ⟨pT, _, _, .ref q', rfl, rfl, .of h1, atV_of h3, _, g3, _, _, rfl, rfl, .inl ⟨q', _, _, _, rfl, rfl, .of h5, atV_of h7, _, _, rfl, rfl, .ref pT, g1, _, g2, .inl ⟨pT, _, _, .ref q, rfl, rfl, .of h1, atV_of h2, _, g3, q, row, _, j, rfl, rfl, h4, ixnV h6, h8⟩⟩⟩⟩)
    (by intro D σ H pT q q' trs row row' i j u w g1 g2 g3 h1 h2 h3 h4 h5 h6 h7 h8 h9; exact ⟨.ref pT, g1, _, g2, _, _, rfl, rfl, .inl ⟨pT, _, _, .ref q', rfl, rfl, .of h1, atV_of h3, _, g3, .inl ⟨q', _, _, _, rfl, rfl, .of h5, atV_of h7, .ref pT, g1, _, g2, .inl ⟨pT, _, _, .ref q, rfl, rfl, .of h1, atV_of h2, _, g3, _, _, rfl, rfl, .inl ⟨q, _, _, _, rfl, rfl, .of h4, atV_of h8, _, _, rfl, .ref pT, g1, _, g2, .inl ⟨pT, _, _, .ref q, rfl, rfl, .of h1, atV_of h2, _, g3, q, row, _, j, rfl, rfl, h4, ixnV h6, by rw [lcs_max]; exact h9⟩⟩⟩⟩⟩⟩))
theorem sclist_changes : FnScope ["old", "new", "table", "changes", "one", "other"] ["old", "new"] (defScope stlist_changes) := ⟨rfl, rfl, rfl, by decide +kernel, rfl, by decide +kernel, by decide +kernel⟩
theorem oklist_changes (T : Txt w K mg) : FnOk P w K mg base CX0 2 T.alist_changes T.dlist_changes ["old", "new"] (spM K mg 2 Mlist_changes) :=
  def_ok T.Flist_changes sclist_changes fun cdv A outer s H E c hr => by
    have nd := sclist_changes.nd
    exact (ss_cons (ss_set (i := 2) nd (by rfl) (by first | exact .inl rfl | exact .inr rfl) (se_call0 (okcommon_lengths T) (hr.mono (by decide)) (by rfl) T.gcommon_lengths T.Fcommon_lengths.kp T.ncommon_lengths (sa_cons (se_v 0) (sa_cons (se_v 1) sa_nil))))
    (ss_cons (ss_set (i := 3) nd (by rfl) (by first | exact .inl rfl | exact .inr rfl) (se_lst sa_nil))
    (ss_cons (ss_asgT (se_tup (sa_cons se_int (sa_cons se_int sa_nil))) (sg_tup rfl (sgs_cons (sg_name nd (by rfl) (by first | exact .inl rfl | exact .inr rfl)) (sgs_cons (sg_name nd (by rfl) (by first | exact .inl rfl | exact .inr rfl)) sgs_nil))))
    (ss_cons (ss_while PassesOwn.never (st_bool (sw_or (st_cmp op_ltS (se_v 4) (se_cb c_len (by rfl) T.b_len (by decide +kernel) (sa_cons (se_v 0) sa_nil)) (nomark _)) (sw_or1 (st_cmp op_ltS (se_v 5) (se_cb c_len (by rfl) T.b_len (by decide +kernel) (sa_cons (se_v 1) sa_nil)) (nomark _))))) (ss_one (ss_if (st_bool (sw_and (st_cmp op_ltS (se_v 4) (se_cb c_len (by rfl) T.b_len (by decide +kernel) (sa_cons (se_v 0) sa_nil)) (nomark _)) (sw_and (st_cmp op_ltS (se_v 5) (se_cb c_len (by rfl) T.b_len (by decide +kernel) (sa_cons (se_v 1) sa_nil)) (nomark _)) (sw_and1 (st_cmp (op_eqS hr) (se_ix (se_v 0) (se_v 4)) (se_ix (se_v 1) (se_v 5)) (nomark _)))))) (ss_one (ss_par (i := 4) (j := 5) rfl nd (by rfl) (by rfl) (by decide) (by rfl) (by rfl) (sa_cons (se_op op_addD (se_v 4) se_int) (sa_cons (se_op op_addD (se_v 5) se_int) sa_nil)) (by rfl))) (ss_one (ss_if (st_bool (sw_or (st_cmp (op_eqS hr) (se_v 5) (se_cb c_len (by rfl) T.b_len (by decide +kernel) (sa_cons (se_v 1) sa_nil)) (nomark _)) (sw_or1 (st_bool (sw_and (st_cmp op_ltS (se_v 4) (se_cb c_len (by rfl) T.b_len (by decide +kernel) (sa_cons (se_v 0) sa_nil)) (nomark _)) (sw_and1 (st_cmp op_geS (se_ix (se_ix (se_v 2) (se_op op_addD (se_v 4) se_int)) (se_v 5)) (se_ix (se_ix (se_v 2) (se_v 4)) (se_op op_addD (se_v 5) se_int)) (nomark _)))))))) (ss_cons (ss_expr (se_append (pv 3) (se_tup (sa_cons se_str (sa_cons (se_v 5) sa_nil)))))
    (ss_one (ss_aug (i := 4) ip_addS nd (by rfl) (by first | exact .inl rfl | exact .inr rfl) se_int))) (ss_cons (ss_expr (se_append (pv 3) (se_tup (sa_cons se_str (sa_cons (se_v 5) (sa_cons (se_ix (se_v 1) (se_v 5)) sa_nil))))))
    (ss_one (ss_aug (i := 5) ip_addS nd (by rfl) (by first | exact .inl rfl | exact .inr rfl) se_int))))))))
    (ss_one (ss_ret (se_v 3)))))))
theorem scLive_lines : FnScope ["self"] ["self"] (defScope stLive_lines) := ⟨rfl, rfl, rfl, by decide +kernel, rfl, by decide +kernel, by decide +kernel⟩
theorem okLive_lines (T : Txt w K mg) : FnOk P w K mg base CX0 1 T.aLive_lines T.dLive_lines ["self"] (spM K mg 1 MLive_lines) :=
  def_ok T.FLive_lines scLive_lines fun cdv A outer s H E c hr => by
    have nd := scLive_lines.nd
    exact (ss_one (ss_ret (se_cty c_list (by rfl) T.b_list (by decide +kernel) (sa_cons (se_fld (n := 1) T.g_Live T.cl_Live T.na_Live_present (se_v 0)) sa_nil))))
theorem scLive_result : FnScope ["self"] ["self"] (defScope stLive_result) := ⟨rfl, rfl, rfl, by decide +kernel, rfl, by decide +kernel, by decide +kernel⟩
theorem okLive_result (T : Txt w K mg) : FnOk P w K mg base CX0 1 T.aLive_result T.dLive_result ["self"] (spM K mg 1 MLive_result) :=
  def_ok T.FLive_result scLive_result fun cdv A outer s H E c hr => by
    have nd := scLive_result.nd
    exact (ss_one (ss_ret (se_cty c_list (by rfl) T.b_list (by decide +kernel) (sa_cons (se_fld (n := 2) T.g_Live T.cl_Live T.na_Live_known (se_v 0)) sa_nil))))
theorem scLive_update : FnScope ["self", "old"] ["self"] (defScope stLive_update) := ⟨rfl, rfl, rfl, by decide +kernel, rfl, by decide +kernel, by decide +kernel⟩
theorem okLive_update (T : Txt w K mg) : FnOk P w K mg base CX0 4 T.aLive_update T.dLive_update ["self"] (spM K mg 1 MLive_update) :=
  def_ok T.FLive_update scLive_update fun cdv A outer s H E c hr => by
    have nd := scLive_update.nd
    exact (ss_cons (ss_set (i := 1) nd (by rfl) (by first | exact .inl rfl | exact .inr rfl) (se_part (parF T.g_Live T.cl_Live T.na_Live_known (pv 0))))
    (ss_cons (ss_putF T.g_Live T.cl_Live T.na_Live_known (pv 0) (se_call0 (okrun T) (hr.mono (by decide)) (by rfl) T.grun T.Frun.kp T.nrun (sa_cons (se_part (parF T.g_Live T.cl_Live T.na_Live_chain (pv 0))) (sa_cons (se_part (parF T.g_Live T.cl_Live T.na_Live_present (pv 0))) sa_nil))))
    (ss_one (ss_ret (se_call0 (oklist_changes T) (hr.mono (by decide)) (by rfl) T.glist_changes T.Flist_changes.kp T.nlist_changes (sa_cons (se_v 1) (sa_cons (se_part (parF T.g_Live T.cl_Live T.na_Live_known (pv 0))) sa_nil)))))))
theorem scLive_insert : FnScope ["self", "index", "line"] ["self", "index", "line"] (defScope stLive_insert) := ⟨rfl, rfl, rfl, by decide +kernel, rfl, by decide +kernel, by decide +kernel⟩
theorem okLive_insert (T : Txt w K mg) : FnOk P w K mg base (L2.CX P w) 5 T.aLive_insert T.dLive_insert ["self", "index", "line"] (spX K mg 3 XLive_insert) :=
  defX_ok T.FLive_insert scLive_insert fun cdv A outer s H E c hr hW => by
    have nd := scLive_insert.nd
    exact (ss_cons (ss_if (st_not (st_chain op_leS op_leS se_int (se_v 1) (se_cb c_len (by rfl) T.b_len (by decide +kernel) (sa_cons (se_part (parF T.g_Live T.cl_Live T.na_Live_present (pv 0))) sa_nil)))) (ss_one (ss_raise T.x_InvalidIndex (oki_InvalidIndex T) T.ni_InvalidIndex (hr.mono (by decide)) rfl (by rw [hW]; exact takes_of rfl rfl rfl rfl) (by rfl) (se_v 1))) ss_nil)
    (ss_cons (ss_expr (se_insP (parF T.g_Live T.cl_Live T.na_Live_present (pv 0)) (se_v 1) (se_v 2)))
    (ss_one (ss_ret (se_meth10 T.g_Live T.cl_Live T.mLive_update (okLive_update T) (hr.mono (by decide)) T.nLive_update (se_v 0))))))
theorem scLive_remove : FnScope ["self", "index"] ["self", "index"] (defScope stLive_remove) := ⟨rfl, rfl, rfl, by decide +kernel, rfl, by decide +kernel, by decide +kernel⟩
theorem okLive_remove (T : Txt w K mg) : FnOk P w K mg base (L2.CX P w) 5 T.aLive_remove T.dLive_remove ["self", "index"] (spX K mg 2 XLive_remove) :=
  defX_ok T.FLive_remove scLive_remove fun cdv A outer s H E c hr hW => by
    have nd := scLive_remove.nd
    exact (ss_cons (ss_if (st_not (st_chain op_leS op_ltS se_int (se_v 1) (se_cb c_len (by rfl) T.b_len (by decide +kernel) (sa_cons (se_part (parF T.g_Live T.cl_Live T.na_Live_present (pv 0))) sa_nil)))) (ss_one (ss_raise T.x_InvalidIndex (oki_InvalidIndex T) T.ni_InvalidIndex (hr.mono (by decide)) rfl (by rw [hW]; exact takes_of rfl rfl rfl rfl) (by rfl) (se_v 1))) ss_nil)
    (ss_cons (ss_expr (se_popAtP (parF T.g_Live T.cl_Live T.na_Live_present (pv 0)) (se_v 1)))
    (ss_one (ss_ret (se_meth10 T.g_Live T.cl_Live T.mLive_update (okLive_update T) (hr.mono (by decide)) T.nLive_update (se_v 0))))))
theorem sc_law_pool : FnScope ["script", "at", "cell"] ["script", "at"] (defScope st_law_pool) := ⟨rfl, rfl, rfl, by decide +kernel, rfl, by decide +kernel, by decide +kernel⟩
theorem ok_law_pool (T : Txt w K mg) : FnOk P w K mg base CX0 1 T.a_law_pool T.d_law_pool ["script", "at"] (spM K mg 2 M_law_pool) :=
  def_ok T.F_law_pool sc_law_pool fun cdv A outer s H E c hr => by
    have nd := sc_law_pool.nd
    exact (ss_cons (ss_set (i := 2) nd (by rfl) (by first | exact .inl rfl | exact .inr rfl) se_int)
    (ss_cons (ss_if (st_cmp op_ltS (se_v 1) (se_cb c_len (by rfl) T.b_len (by decide +kernel) (sa_cons (se_v 0) sa_nil)) (nomark _)) (ss_one (ss_set (i := 2) nd (by rfl) (by first | exact .inl rfl | exact .inr rfl) (se_ix (se_v 0) (se_v 1)))) ss_nil)
    (ss_one (ss_ret (se_lst (sa_cons (se_cb c_max (by rfl) T.b_max (by decide +kernel) (sa_cons se_int (sa_cons (se_op op_subD (se_cb c_abs (by rfl) T.b_abs (by decide +kernel) (sa_cons (se_v 2) sa_nil)) (se_op op_powD se_int se_int)) sa_nil))) (sa_cons (se_op op_addD (se_op op_modD (se_v 2) se_int) (se_op op_mulD se_int (se_op op_addD (se_v 1) se_int))) (sa_cons se_int sa_nil))))))))
theorem sc_law_draw : FnScope ["pool", "many", "drawn", "mixed"] ["pool", "many"] (defScope st_law_draw) := ⟨rfl, rfl, rfl, by decide +kernel, rfl, by decide +kernel, by decide +kernel⟩
theorem ok_law_draw (T : Txt w K mg) : FnOk P w K mg base CX0 1 T.a_law_draw T.d_law_draw ["pool", "many"] (spM K mg 2 Mo_law_draw) :=
  def_ok T.F_law_draw sc_law_draw fun cdv A outer s H E c hr => by
    have nd := sc_law_draw.nd
    exact (ss_cons (ss_if (st_cmp op_gtS (se_ix (se_v 0) se_int) se_int (nomark _)) (ss_cons (ss_set (i := 2) nd (by rfl) (by first | exact .inl rfl | exact .inr rfl) (se_op op_modD (se_ix (se_v 0) se_int) (se_v 1)))
    (ss_cons (ss_setIx (pv 0) se_int (se_op op_divD (se_ix (se_v 0) se_int) (se_v 1)))
    (ss_one (ss_ret (se_v 2))))) ss_nil)
    (ss_cons (ss_setIx (pv 0) se_int (se_op op_addD (se_ix (se_v 0) se_int) se_int))
    (ss_cons (ss_set (i := 3) nd (by rfl) (by first | exact .inl rfl | exact .inr rfl) (se_op op_modD (se_op op_powD (se_op op_addD (se_ix (se_v 0) se_int) (se_op op_mulD se_int (se_ix (se_v 0) se_int))) se_int) se_int))
    (ss_cons (ss_set (i := 3) nd (by rfl) (by first | exact .inl rfl | exact .inr rfl) (se_op op_modD (se_op op_powD (se_op op_addD (se_v 3) (se_op op_mulD se_int (se_ix (se_v 0) se_int))) se_int) se_int))
    (ss_one (ss_ret (se_op op_modD (se_op op_divD (se_v 3) se_int) (se_v 1))))))))
theorem sc_law_number : FnScope ["pool", "some"] ["pool"] (defScope st_law_number) := ⟨rfl, rfl, rfl, by decide +kernel, rfl, by decide +kernel, by decide +kernel⟩
theorem ok_law_number (T : Txt w K mg) : FnOk P w K mg base CX0 2 T.a_law_number T.d_law_number ["pool"] (spM K mg 1 M_law_number) :=
  def_ok T.F_law_number sc_law_number fun cdv A outer s H E c hr => by
    have nd := sc_law_number.nd
    exact (ss_cons (ss_set (i := 1) nd (by rfl) (by first | exact .inl rfl | exact .inr rfl) (se_lst (sa_cons se_int (sa_cons se_int (sa_cons se_int (sa_cons se_int (sa_cons (se_call1 (ok_law_draw T) (hr.mono (by decide)) (by rfl) T.g_law_draw T.F_law_draw.kp T.n_law_draw (sa_cons (se_v 0) (sa_cons se_int sa_nil))) (sa_cons (se_call1 (ok_law_draw T) (hr.mono (by decide)) (by rfl) T.g_law_draw T.F_law_draw.kp T.n_law_draw (sa_cons (se_v 0) (sa_cons se_int sa_nil))) (sa_cons (se_call1 (ok_law_draw T) (hr.mono (by decide)) (by rfl) T.g_law_draw T.F_law_draw.kp T.n_law_draw (sa_cons (se_v 0) (sa_cons se_int sa_nil))) (sa_cons (se_call1 (ok_law_draw T) (hr.mono (by decide)) (by rfl) T.g_law_draw T.F_law_draw.kp T.n_law_draw (sa_cons (se_v 0) (sa_cons (se_op op_powD se_int se_int) sa_nil))) sa_nil))))))))))
    (ss_one (ss_ret (se_ix (se_v 1) (se_call1 (ok_law_draw T) (hr.mono (by decide)) (by rfl) T.g_law_draw T.F_law_draw.kp T.n_law_draw (sa_cons (se_v 0) (sa_cons se_int sa_nil)))))))
theorem sc_law_stages : FnScope ["pool", "most", "found", "turn", "way", "number"] ["pool", "most"] (defScope st_law_stages) := ⟨rfl, rfl, rfl, by decide +kernel, rfl, by decide +kernel, by decide +kernel⟩
theorem ok_law_stages (T : Txt w K mg) : FnOk P w K mg base CX0 3 T.a_law_stages T.d_law_stages ["pool", "most"] (spM K mg 2 M_law_stages) :=
  def_ok T.F_law_stages sc_law_stages fun cdv A outer s H E c hr => by
    have nd := sc_law_stages.nd
    exact (ss_cons (ss_set (i := 2) nd (by rfl) (by first | exact .inl rfl | exact .inr rfl) (se_lst sa_nil))
    (ss_cons (ss_for PassesOwn.never rfl (si_range1 (by rfl) T.b_range (se_call1 (ok_law_draw T) (hr.mono (by decide)) (by rfl) T.g_law_draw T.F_law_draw.kp T.n_law_draw (sa_cons (se_v 0) (sa_cons (se_op op_addD (se_v 1) se_int) sa_nil)))) (sg_name nd (by rfl) (by first | exact .inl rfl | exact .inr rfl)) (ss_cons (ss_set (i := 4) nd (by rfl) (by first | exact .inl rfl | exact .inr rfl) (se_call1 (ok_law_draw T) (hr.mono (by decide)) (by rfl) T.g_law_draw T.F_law_draw.kp T.n_law_draw (sa_cons (se_v 0) (sa_cons se_int sa_nil))))
    (ss_one (ss_if (st_cmp op_ltS (se_v 4) se_int (nomark _)) (ss_cons (ss_set (i := 5) nd (by rfl) (by first | exact .inl rfl | exact .inr rfl) (se_op op_addD (se_call1 (ok_law_number T) (hr.mono (by decide)) (by rfl) T.g_law_number T.F_law_number.kp T.n_law_number (sa_cons (se_v 0) sa_nil)) (se_op op_mulD (se_ix (se_lst (sa_cons se_int (sa_cons se_int (sa_cons se_int sa_nil)))) (se_call1 (ok_law_draw T) (hr.mono (by decide)) (by rfl) T.g_law_draw T.F_law_draw.kp T.n_law_draw (sa_cons (se_v 0) (sa_cons se_int sa_nil)))) (se_cty c_int (by rfl) T.b_int (by decide +kernel) (sa_cons (se_cmp op_ltS (se_v 4) se_int (nomark _)) sa_nil)))))
    (ss_one (ss_expr (se_append (pv 2) (se_tup (sa_cons (se_ix (se_lst (sa_cons se_str (sa_cons se_str (sa_cons se_str (sa_cons se_str (sa_cons se_str sa_nil)))))) (se_v 4)) (sa_cons (se_v 5) sa_nil))))))) (ss_one (ss_expr (se_append (pv 2) (se_tup (sa_cons (se_ix (se_lst (sa_cons se_str (sa_cons se_str (sa_cons se_str sa_nil)))) (se_op op_subD (se_v 4) se_int)) sa_nil)))))))))
    (ss_one (ss_ret (se_v 2)))))
theorem sc_law_words : FnScope ["pool", "left", "turn"] ["pool"] (defScope st_law_words) := ⟨rfl, rfl, rfl, by decide +kernel, rfl, by decide +kernel, by decide +kernel⟩
theorem ok_law_words (T : Txt w K mg) : FnOk P w K mg base CX0 2 T.a_law_words T.d_law_words ["pool"] (spM K mg 1 M_law_words) :=
  def_ok T.F_law_words sc_law_words fun cdv A outer s H E c hr => by
    have nd := sc_law_words.nd
    exact (ss_cons (ss_set (i := 1) nd (by rfl) (by first | exact .inl rfl | exact .inr rfl) (se_lst (sa_cons se_str (sa_cons se_str (sa_cons se_str (sa_cons se_str (sa_cons se_str (sa_cons se_str (sa_cons se_str (sa_cons se_str (sa_cons se_str (sa_cons se_str sa_nil))))))))))))
    (ss_one (ss_ret (se_lc (own := [("turn", 2)]) rfl nd (si_range1 (by rfl) T.b_range (se_op op_addD se_int (se_call1 (ok_law_draw T) (hr.mono (by decide)) (by rfl) T.g_law_draw T.F_law_draw.kp T.n_law_draw (sa_cons (se_v 0) (sa_cons se_int sa_nil))))) (blkOk_by (N := ["pool", "left", "turn"]) (sc := defScope st_law_words) (by decide +kernel)) (fun _ _ _ _ _ => (sg_name nd (by rfl) (by first | exact .inl rfl | exact .inr rfl))) (fun _ _ _ _ _ => sts_nil) (fun _ _ _ _ _ => (se_popAt (pv 1) (se_call1 (ok_law_draw T) (hr.mono (by decide)) (by rfl) T.g_law_draw T.F_law_draw.kp T.n_law_draw (sa_cons (se_v 0) (sa_cons (se_cb c_len (by rfl) T.b_len (by decide +kernel) (sa_cons (se_v 1) sa_nil)) sa_nil))))) (by decide)))))
theorem sc_law_rows : FnScope ["pool", "words", "most", "found", "together", "turn", "again"] ["pool", "words", "most"] (defScope st_law_rows) := ⟨rfl, rfl, rfl, by decide +kernel, rfl, by decide +kernel, by decide +kernel⟩
theorem ok_law_rows (T : Txt w K mg) : FnOk P w K mg base CX0 2 T.a_law_rows T.d_law_rows ["pool", "words", "most"] (spM K mg 3 M_law_rows) :=
  def_ok T.F_law_rows sc_law_rows fun cdv A outer s H E c hr => by
    have nd := sc_law_rows.nd
    exact (ss_cons (ss_set (i := 3) nd (by rfl) (by first | exact .inl rfl | exact .inr rfl) (se_lst sa_nil))
    (ss_cons (ss_set (i := 4) nd (by rfl) (by first | exact .inl rfl | exact .inr rfl) (se_op op_addD se_int (se_call1 (ok_law_draw T) (hr.mono (by decide)) (by rfl) T.g_law_draw T.F_law_draw.kp T.n_law_draw (sa_cons (se_v 0) (sa_cons se_int sa_nil)))))
    (ss_cons (ss_for PassesOwn.never rfl (si_range1 (by rfl) T.b_range (se_call1 (ok_law_draw T) (hr.mono (by decide)) (by rfl) T.g_law_draw T.F_law_draw.kp T.n_law_draw (sa_cons (se_v 0) (sa_cons (se_op op_addD (se_v 2) se_int) sa_nil)))) (sg_name nd (by rfl) (by first | exact .inl rfl | exact .inr rfl)) (ss_cons (ss_set (i := 6) nd (by rfl) (by first | exact .inl rfl | exact .inr rfl) (se_and (se_cmp (op_neS hr) (se_v 3) (se_lst sa_nil) (nomark _)) (se_one (se_cmp op_gtS (se_call1 (ok_law_draw T) (hr.mono (by decide)) (by rfl) T.g_law_draw T.F_law_draw.kp T.n_law_draw (sa_cons (se_v 0) (sa_cons (se_v 4) sa_nil))) se_int (nomark _)))))
    (ss_one (ss_expr (se_append (pv 3) (se_if (st_val (se_v 6)) (se_ix (se_v 3) (se_neg se_int)) (se_ix (se_v 1) (se_call1 (ok_law_draw T) (hr.mono (by decide)) (by rfl) T.g_law_draw T.F_law_draw.kp T.n_law_draw (sa_cons (se_v 0) (sa_cons (se_cb c_len (by rfl) T.b_len (by decide +kernel) (sa_cons (se_v 1) sa_nil)) sa_nil))))))))))
    (ss_one (ss_ret (se_v 3))))))
theorem sc_law_after : FnScope ["rows", "place", "row"] ["rows", "place", "row"] (defScope st_law_after) := ⟨rfl, rfl, rfl, by decide +kernel, rfl, by decide +kernel, by decide +kernel⟩
theorem ok_law_after (T : Txt w K mg) : FnOk P w K mg base CX0 1 T.a_law_after T.d_law_after ["rows", "place", "row"] (spM K mg 3 M_law_after) :=
  def_ok T.F_law_after sc_law_after fun cdv A outer s H E c hr => by
    have nd := sc_law_after.nd
    exact (ss_cons (ss_if (st_cmp op_isS (se_v 2) se_non (nomark _)) (ss_one (ss_ret (se_op op_addD (se_sl (se_v 0) so_none (so_some (se_v 1))) (se_sl (se_v 0) (so_some (se_op op_addD (se_v 1) se_int)) so_none)))) ss_nil)
    (ss_one (ss_ret (se_op op_addD (se_op op_addD (se_sl (se_v 0) so_none (so_some (se_v 1))) (se_lst (sa_cons (se_v 2) sa_nil))) (se_sl (se_v 0) (so_some (se_v 1)) so_none)))))
theorem sc_law_asked : FnScope ["live", "place", "row", "caught", "e", "odd"] ["live", "place", "row"] (defScope st_law_asked) := ⟨rfl, rfl, rfl, by decide +kernel, rfl, by decide +kernel, by decide +kernel⟩
theorem ok_law_asked (T : Txt w K mg) : FnOk P w K mg base CX0 6 T.a_law_asked T.d_law_asked ["live", "place", "row"] (spM K mg 3 M_law_asked) :=
  def_ok T.F_law_asked sc_law_asked fun cdv A outer s H E c hr => by
    have nd := sc_law_asked.nd
    exact (ss_cons (ss_set (i := 3) nd (by rfl) (by first | exact .inl rfl | exact .inr rfl) se_non)
    (ss_tryK (i := 4) (j := 3) (by rfl) (by rfl) nd (by rfl) (by rfl) ⟨by rfl, by decide, .inl T.g_PipeError⟩ (fun C hC Ca hm => by cases List.mem_singleton.mp hC; have e := Value.ref.inj (Option.some.inj (hm.symm.trans T.x_InvalidIndex.gC)); subst e; exact T.e_InvalidIndex_PipeError) (by rfl) (by rfl) (fun W pn xe tk hp => (ss_one (ss_if (st_cmp op_isS (se_v 2) se_non (nomark _)) (ss_one (ss_methX1 T.g_Live T.cl_Live T.mLive_remove (okLive_remove T) (hr.mono (by decide)) tk T.nLive_remove (se_v 0) (sa_cons (se_v 1) sa_nil))) (ss_one (ss_methX1 T.g_Live T.cl_Live T.mLive_insert (okLive_insert T) (hr.mono (by decide)) tk T.nLive_insert (se_v 0) (sa_cons (se_v 1) (sa_cons (se_v 2) sa_nil))))))) (ss_cons (ss_if (st_cmp op_isS (se_v 3) se_non (nomark _)) (ss_one (ss_ret se_str)) ss_nil) sss_never) (fun C hC => by
      cases List.mem_singleton.mp hC
      exact (by
      intro a oe Ca dd pn hm hz hf
      have e := Value.ref.inj (Option.some.inj (hm.symm.trans T.x_InvalidIndex.gC))
      subst e
      exact (ss_cons (ss_if (st_isNK (pv 3) pe_non) (ss_one ss_bad) ss_nil) (ss_cons (ss_set (i := 5) nd (by rfl) (by first | exact .inl rfl | exact .inr rfl) (se_isETK (vs := [.ref T.p_InvalidCommand, .ref T.p_InvalidNumber, .ref T.p_InvalidRun, .ref T.p_Unreadable]) (us := [.ref T.p_InvalidCommand, .ref T.p_InvalidNumber, .ref T.p_InvalidRun, .ref T.p_Unreadable]) T.x_InvalidIndex.isE hz hf (by rfl) T.b_isinstance (pv 3) (pa_cons (pe_glob (v := .ref T.p_InvalidCommand) (by rfl) T.g_InvalidCommand rfl) (pa_cons (pe_glob (v := .ref T.p_InvalidNumber) (by rfl) T.g_InvalidNumber rfl) (pa_cons (pe_glob (v := .ref T.p_InvalidRun) (by rfl) T.g_InvalidRun rfl) (pa_cons (pe_glob (v := .ref T.p_Unreadable) (by rfl) T.g_Unreadable rfl) pa_nil)))) (by show 4 ≤ 1000; decide) (.cons (.own _) (.cons (.own _) (.cons (.own _) (.cons (.own _) .nil)))) (kitAny_cons T.k_InvalidIndex_InvalidCommand (fun _ => (kitAny_cons T.k_InvalidIndex_InvalidNumber (fun _ => (kitAny_cons T.k_InvalidIndex_InvalidRun (fun _ => (kitAny_cons T.k_InvalidIndex_Unreadable (fun _ => kitAny_nil) (fun z => nomatch z))) (fun z => nomatch z))) (fun z => nomatch z))) (fun z => nomatch z))))
    (ss_cons (ss_if (st_bool (sw_or (st_val (se_v 5)) (sw_or (st_not (st_val (se_isEK (v := .ref T.p_InvalidIndex) (u := .ref T.p_InvalidIndex) T.x_InvalidIndex.isE hz hf (by rfl) T.b_isinstance (pv 3) (pe_glob (v := .ref T.p_InvalidIndex) (by rfl) T.g_InvalidIndex rfl) (fun _ h => h) T.k_InvalidIndex_InvalidIndex))) (sw_or1 (st_not (st_val (se_isEK (v := .ty "ValueError") (u := .type "ValueError") T.x_InvalidIndex.isE hz hf (by rfl) T.b_isinstance (pv 3) (pe_bltn (v := .ty "ValueError") (by rfl) T.b_ValueError (by decide +kernel) rfl) (fun _ h => h) T.kv_InvalidIndex))))))) (ss_one (ss_ret se_str)) ss_nil)
    (ss_one (ss_ret (se_xvK T.x_InvalidIndex hz hf (pv 3)))))))))))
theorem sc_law_right : FnScope ["pool", "words", "rows", "live", "turn", "many", "far", "place", "row", "fits", "before"] ["pool"] (defScope st_law_right) := ⟨rfl, rfl, rfl, by decide +kernel, rfl, by decide +kernel, by decide +kernel⟩
theorem ok_law_right (T : Txt w K mg) : FnOk P w K mg base CX0 7 T.a_law_right T.d_law_right ["pool"] (spM K mg 1 M_law_right) :=
  def_ok T.F_law_right sc_law_right fun cdv A outer s H E c hr => by
    have nd := sc_law_right.nd
    exact (ss_cons (ss_set (i := 1) nd (by rfl) (by first | exact .inl rfl | exact .inr rfl) (se_call1 (ok_law_words T) (hr.mono (by decide)) (by rfl) T.g_law_words T.F_law_words.kp T.n_law_words (sa_cons (se_v 0) sa_nil)))
    (ss_cons (ss_set (i := 2) nd (by rfl) (by first | exact .inl rfl | exact .inr rfl) (se_call1 (ok_law_rows T) (hr.mono (by decide)) (by rfl) T.g_law_rows T.F_law_rows.kp T.n_law_rows (sa_cons (se_v 0) (sa_cons (se_v 1) (sa_cons se_int sa_nil)))))
    (ss_newR (i := 3) nd (by rfl) (by first | exact .inl rfl | exact .inr rfl) (sn_frz13 (sn_live T.M_Live (okI_LiveO T) (hr.mono (by decide)) (by rfl) T.g_Live T.bI_Live (sa_cons (se_call1 (ok_law_stages T) (hr.mono (by decide)) (by rfl) T.g_law_stages T.F_law_stages.kp T.n_law_stages (sa_cons (se_v 0) (sa_cons se_int sa_nil))) (sa_cons (se_v 2) sa_nil))))
    (ss_cons (ss_for PassesOwn.never rfl (si_range1 (by rfl) T.b_range se_int) (sg_name nd (by rfl) (by first | exact .inl rfl | exact .inr rfl)) (ss_cons (ss_set (i := 5) nd (by rfl) (by first | exact .inl rfl | exact .inr rfl) (se_cb c_len (by rfl) T.b_len (by decide +kernel) (sa_cons (se_v 2) sa_nil)))
    (ss_cons (ss_set (i := 6) nd (by rfl) (by first | exact .inl rfl | exact .inr rfl) (se_call1 (ok_law_draw T) (hr.mono (by decide)) (by rfl) T.g_law_draw T.F_law_draw.kp T.n_law_draw (sa_cons (se_v 0) (sa_cons (se_op op_powD se_int se_int) sa_nil))))
    (ss_cons (ss_set (i := 7) nd (by rfl) (by first | exact .inl rfl | exact .inr rfl) (se_ix (se_lst (sa_cons (se_neg se_int) (sa_cons se_int (sa_cons (se_op op_subD (se_v 5) se_int) (sa_cons (se_v 5) (sa_cons (se_op op_addD (se_v 5) se_int) (sa_cons (se_op op_subD se_int (se_v 5)) (sa_cons (se_v 6) (sa_cons (se_op op_subD (se_neg se_int) (se_v 6)) sa_nil))))))))) (se_call1 (ok_law_draw T) (hr.mono (by decide)) (by rfl) T.g_law_draw T.F_law_draw.kp T.n_law_draw (sa_cons (se_v 0) (sa_cons se_int sa_nil)))))
    (ss_cons (ss_set (i := 8) nd (by rfl) (by first | exact .inl rfl | exact .inr rfl) (se_ix (se_lst (sa_cons se_non (sa_cons (se_ix (se_v 1) (se_call1 (ok_law_draw T) (hr.mono (by decide)) (by rfl) T.g_law_draw T.F_law_draw.kp T.n_law_draw (sa_cons (se_v 0) (sa_cons (se_cb c_len (by rfl) T.b_len (by decide +kernel) (sa_cons (se_v 1) sa_nil)) sa_nil)))) sa_nil))) (se_call1 (ok_law_draw T) (hr.mono (by decide)) (by rfl) T.g_law_draw T.F_law_draw.kp T.n_law_draw (sa_cons (se_v 0) (sa_cons se_int sa_nil)))))
    (ss_cons (ss_set (i := 9) nd (by rfl) (by first | exact .inl rfl | exact .inr rfl) (se_chain op_leS op_ltS se_int (se_v 7) (se_op op_addD (se_v 5) (se_cty c_int (by rfl) T.b_int (by decide +kernel) (sa_cons (se_cmp op_isNS (se_v 8) se_non (nomark _)) sa_nil)))))
    (ss_cons (ss_set (i := 10) nd (by rfl) (by first | exact .inl rfl | exact .inr rfl) (se_meth00 T.g_Live T.cl_Live T.mLive_result (okLive_result T) (hr.mono (by decide)) T.nLive_result (se_v 3)))
    (ss_cons (ss_if (st_cmp (op_neS hr) (se_call1 (ok_law_asked T) (hr.mono (by decide)) (by rfl) T.g_law_asked T.F_law_asked.kp T.n_law_asked (sa_cons (se_v 3) (sa_cons (se_v 7) (sa_cons (se_v 8) sa_nil)))) (se_if (st_val (se_v 9)) se_str (se_v 7)) (nomark _)) (ss_one (ss_ret se_bl)) ss_nil)
    (ss_cons (ss_if (st_val (se_v 9)) (ss_one (ss_set (i := 2) nd (by rfl) (by first | exact .inl rfl | exact .inr rfl) (se_call0 (ok_law_after T) (hr.mono (by decide)) (by rfl) T.g_law_after T.F_law_after.kp T.n_law_after (sa_cons (se_v 2) (sa_cons (se_v 7) (sa_cons (se_v 8) sa_nil)))))) (ss_one (ss_if (st_cmp (op_neS hr) (se_meth00 T.g_Live T.cl_Live T.mLive_result (okLive_result T) (hr.mono (by decide)) T.nLive_result (se_v 3)) (se_v 10) (nomark _)) (ss_one (ss_ret se_bl)) ss_nil)))
    (ss_one (ss_if (st_cmp (op_neS hr) (se_meth00 T.g_Live T.cl_Live T.mLive_lines (okLive_lines T) (hr.mono (by decide)) T.nLive_lines (se_v 3)) (se_v 2) (nomark _)) (ss_one (ss_ret se_bl)) ss_nil)))))))))))
    (ss_one (ss_ret se_bl))))))
theorem sclaw : FnScope ["script", "at", "pool", "turn"] ["script"] (defScope stlaw) := ⟨rfl, rfl, rfl, by decide +kernel, rfl, by decide +kernel, by decide +kernel⟩
theorem lawAt (T : Txt w K mg) (H : LawHolds Mlaw) : LawAt P w K mg base T.alaw :=
  law_at (k := 7) (by decide) T.Flaw sclaw T.Flaw.one H fun cdv s H E c hr => by
    have nd := sclaw.nd
    exact (ss_cons (ss_for PassesOwn.never rfl (si_range1 (by rfl) T.b_range (se_cb c_max (by rfl) T.b_max (by decide +kernel) (sa_cons se_int (sa_cons (se_cb c_min (by rfl) T.b_min (by decide +kernel) (sa_cons se_int (sa_cons (se_cb c_len (by rfl) T.b_len (by decide +kernel) (sa_cons (se_v 0) sa_nil)) sa_nil))) sa_nil)))) (sg_name nd (by rfl) (by first | exact .inl rfl | exact .inr rfl)) (ss_cons (ss_set (i := 2) nd (by rfl) (by first | exact .inl rfl | exact .inr rfl) (se_call0 (ok_law_pool T) (hr.mono (by decide)) (by rfl) T.g_law_pool T.F_law_pool.kp T.n_law_pool (sa_cons (se_v 0) (sa_cons (se_v 1) sa_nil))))
    (ss_one (ss_for PassesOwn.never rfl (si_range1 (by rfl) T.b_range se_int) (sg_name nd (by rfl) (by first | exact .inl rfl | exact .inr rfl)) (ss_one (ss_if (st_not (st_val (se_call1 (ok_law_right T) (hr.mono (by decide)) (by rfl) T.g_law_right T.F_law_right.kp T.n_law_right (sa_cons (se_v 2) sa_nil)))) (ss_one (ss_ret se_bl)) ss_nil))))))
    (ss_one (ss_ret se_bl)))
end
theorem allMk {w : World} {K : PySem.W.Frag} {h : Heap} {mg : Str → Option Value} (X : K.In h) (G : h.Ns mainGlobals mg)
    {cq0 ci0 : Addr} (ca0 : PySem.W.nsIn K mainGlobals "Slice" = some (some (.ref cq0)))
    (cg0 : PySem.W.plainGet K cq0 Str.empty = true) (ch0 : PySem.W.hasDictIn K cq0 = true) (co0 : PySem.W.plainOver K cq0 = true) (cs0 : PySem.W.findIn K (.ref cq0) "__setattr__" = some (some (.builtin "object.__setattr__"))) (cm0 : PySem.W.makesIn K cq0 = true) (ck0 : PySem.W.keepIn K (.ref cq0) = true)
    (cf0 : PySem.W.findIn K (.ref cq0) "__init__" = some (some (.ref ci0))) (cn0 : PySem.W.isFn K (.ref ci0) = true)
    {cA0 cB0 cC0 cD0 cE0 : Value} {cF0 cG0 : Option Addr} {cH0 : Array (Option Value)}
    {cT cZ : Addr} {oT oZ : Option Addr} {nT nZ : Nat} {tT tU : Tok} {sT sZ : Array (Option Value)}
    {cK0 : Value}
    (cl0 : K.lookup ci0 = some ⟨cA0, cF0, .func (PySem.W.fnOf "__init__" "Slice.__init__" (defArgs sti_Slice) (defBody sti_Slice) (defScope sti_Slice) (.ref cT) cB0 cC0 cD0 cG0 cE0 cK0), cH0⟩)
    (cc0 : PySem.W.codeIn K cE0 "Slice.__init__" = true) (cp0 : PySem.W.keepIn K (.ref ci0) = true)
    (lT : K.lookup cT = some ⟨.type "tuple", oT, .seq #[.int 0 tT, .int 0 tU, .ref cZ] nT, sT⟩) (lZ : K.lookup cZ = some ⟨.type "tuple", oZ, .seq #[] nZ, sZ⟩)
    (cx0_0 : PySem.W.findIn K (.ref cq0) "skip" = some none)
    (cx0_1 : PySem.W.findIn K (.ref cq0) "chop" = some none)
    (cx0_2 : PySem.W.findIn K (.ref cq0) "sizes" = some none)
    {cq1 ci1 : Addr} (ca1 : PySem.W.nsIn K mainGlobals "Form" = some (some (.ref cq1)))
    (cg1 : PySem.W.plainGet K cq1 Str.empty = true) (ch1 : PySem.W.hasDictIn K cq1 = true) (co1 : PySem.W.plainOver K cq1 = true) (cs1 : PySem.W.findIn K (.ref cq1) "__setattr__" = some (some (.builtin "object.__setattr__"))) (cm1 : PySem.W.makesIn K cq1 = true) (ck1 : PySem.W.keepIn K (.ref cq1) = true)
    (cf1 : PySem.W.findIn K (.ref cq1) "__init__" = some (some (.ref ci1))) (cn1 : PySem.W.isFn K (.ref ci1) = true)
    {cA1 cB1 cC1 cD1 cE1 : Value} {cF1 cG1 : Option Addr} {cH1 : Array (Option Value)}
    {cK1 : Value}
    (cl1 : K.lookup ci1 = some ⟨cA1, cF1, .func (PySem.W.fnOf "__init__" "Form.__init__" (defArgs sti_Form) (defBody sti_Form) (defScope sti_Form) .none cB1 cC1 cD1 cG1 cE1 cK1), cH1⟩)
    (cc1 : PySem.W.codeIn K cE1 "Form.__init__" = true) (cp1 : PySem.W.keepIn K (.ref ci1) = true)
    (cx1_0 : PySem.W.findIn K (.ref cq1) "slices" = some none)
    (cx1_1 : PySem.W.findIn K (.ref cq1) "words" = some none)
    (cx1_2 : PySem.W.findIn K (.ref cq1) "is_reversed" = some none)
    {cq2 ci2 : Addr} (ca2 : PySem.W.nsIn K mainGlobals "Live" = some (some (.ref cq2)))
    (cg2 : PySem.W.plainGet K cq2 Str.empty = true) (ch2 : PySem.W.hasDictIn K cq2 = true) (co2 : PySem.W.plainOver K cq2 = true) (cs2 : PySem.W.findIn K (.ref cq2) "__setattr__" = some (some (.builtin "object.__setattr__"))) (cm2 : PySem.W.makesIn K cq2 = true) (ck2 : PySem.W.keepIn K (.ref cq2) = true)
    (cf2 : PySem.W.findIn K (.ref cq2) "__init__" = some (some (.ref ci2))) (cn2 : PySem.W.isFn K (.ref ci2) = true)
    {cA2 cB2 cC2 cD2 cE2 : Value} {cF2 cG2 : Option Addr} {cH2 : Array (Option Value)}
    {cK2 : Value}
    (cl2 : K.lookup ci2 = some ⟨cA2, cF2, .func (PySem.W.fnOf "__init__" "Live.__init__" (defArgs sti_Live) (defBody sti_Live) (defScope sti_Live) .none cB2 cC2 cD2 cG2 cE2 cK2), cH2⟩)
    (cc2 : PySem.W.codeIn K cE2 "Live.__init__" = true) (cp2 : PySem.W.keepIn K (.ref ci2) = true)
    (cx2_0 : PySem.W.findIn K (.ref cq2) "chain" = some none)
    (cx2_1 : PySem.W.findIn K (.ref cq2) "present" = some none)
    (cx2_2 : PySem.W.findIn K (.ref cq2) "known" = some none)
    {sq0 : Addr} {se0 : Array DictEntry} {sn_0 : Nat} {st0_0 st0_1 st0_2 st0_3 : Tok} (sa0 : PySem.W.nsIn K mainGlobals "MIRRORED" = some (some (.ref sq0))) (sl_0 : K.lookup sq0 = some ⟨.type "dict", none, .dict se0 sn_0, #[]⟩) (sk0 : PySem.W.KeysLit w.params se0.toList)
    (sv0_0 : PySem.W.nsIn K sq0 "head" = some (some (.str (("tail" : String) : Str) st0_0)))
    (sv0_1 : PySem.W.nsIn K sq0 "tail" = some (some (.str (("head" : String) : Str) st0_1)))
    (sv0_2 : PySem.W.nsIn K sq0 "skip" = some (some (.str (("chop" : String) : Str) st0_2)))
    (sv0_3 : PySem.W.nsIn K sq0 "chop" = some (some (.str (("skip" : String) : Str) st0_3)))
    {f0 : Addr} {oc0 kV0 dc0 pm0 cd0 ct0 : Value} {od0 an0 : Option Addr} {sl0 : Array (Option Value)}
    (a0 : PySem.W.nsIn K mainGlobals "is_command" = some (some (.ref f0)))
    (l0 : K.lookup f0 = some ⟨oc0, od0, .func (PySem.W.fnOf "is_command" "is_command" (defArgs stis_command) (defBody stis_command) (defScope stis_command) .none kV0 dc0 pm0 an0 cd0 ct0), sl0⟩)
    (c0 : PySem.W.codeIn K cd0 "is_command" = true) (k0 : PySem.W.keepIn K (.ref f0) = true)
    {f1 : Addr} {oc1 kV1 dc1 pm1 cd1 ct1 : Value} {od1 an1 : Option Addr} {sl1 : Array (Option Value)}
    (a1 : PySem.W.nsIn K mainGlobals "check_pipeline" = some (some (.ref f1)))
    (l1 : K.lookup f1 = some ⟨oc1, od1, .func (PySem.W.fnOf "check_pipeline" "check_pipeline" (defArgs stcheck_pipeline) (defBody stcheck_pipeline) (defScope stcheck_pipeline) .none kV1 dc1 pm1 an1 cd1 ct1), sl1⟩)
    (c1 : PySem.W.codeIn K cd1 "check_pipeline" = true) (k1 : PySem.W.keepIn K (.ref f1) = true)
    {f2 : Addr} {oc2 kV2 dc2 pm2 cd2 ct2 : Value} {od2 an2 : Option Addr} {sl2 : Array (Option Value)}
    (a2 : PySem.W.nsIn K mainGlobals "without_repeats" = some (some (.ref f2)))
    (l2 : K.lookup f2 = some ⟨oc2, od2, .func (PySem.W.fnOf "without_repeats" "without_repeats" (defArgs stwithout_repeats) (defBody stwithout_repeats) (defScope stwithout_repeats) .none kV2 dc2 pm2 an2 cd2 ct2), sl2⟩)
    (c2 : PySem.W.codeIn K cd2 "without_repeats" = true) (k2 : PySem.W.keepIn K (.ref f2) = true)
    {f3 : Addr} {oc3 kV3 dc3 pm3 cd3 ct3 : Value} {od3 an3 : Option Addr} {sl3 : Array (Option Value)}
    (a3 : PySem.W.nsIn K mainGlobals "apply_command" = some (some (.ref f3)))
    (l3 : K.lookup f3 = some ⟨oc3, od3, .func (PySem.W.fnOf "apply_command" "apply_command" (defArgs stapply_command) (defBody stapply_command) (defScope stapply_command) .none kV3 dc3 pm3 an3 cd3 ct3), sl3⟩)
    (c3 : PySem.W.codeIn K cd3 "apply_command" = true) (k3 : PySem.W.keepIn K (.ref f3) = true)
    {f4 : Addr} {oc4 kV4 dc4 pm4 cd4 ct4 : Value} {od4 an4 : Option Addr} {sl4 : Array (Option Value)}
    (a4 : PySem.W.nsIn K mainGlobals "run" = some (some (.ref f4)))
    (l4 : K.lookup f4 = some ⟨oc4, od4, .func (PySem.W.fnOf "run" "run" (defArgs strun) (defBody strun) (defScope strun) .none kV4 dc4 pm4 an4 cd4 ct4), sl4⟩)
    (c4 : PySem.W.codeIn K cd4 "run" = true) (k4 : PySem.W.keepIn K (.ref f4) = true)
    {f5 : Addr} {oc5 kV5 dc5 pm5 cd5 ct5 : Value} {od5 an5 : Option Addr} {sl5 : Array (Option Value)}
    (a5 : PySem.W.nsIn K mainGlobals "common_lengths" = some (some (.ref f5)))
    (l5 : K.lookup f5 = some ⟨oc5, od5, .func (PySem.W.fnOf "common_lengths" "common_lengths" (defArgs stcommon_lengths) (defBody stcommon_lengths) (defScope stcommon_lengths) .none kV5 dc5 pm5 an5 cd5 ct5), sl5⟩)
    (c5 : PySem.W.codeIn K cd5 "common_lengths" = true) (k5 : PySem.W.keepIn K (.ref f5) = true)
    {f6 : Addr} {oc6 kV6 dc6 pm6 cd6 ct6 : Value} {od6 an6 : Option Addr} {sl6 : Array (Option Value)}
    (a6 : PySem.W.nsIn K mainGlobals "list_changes" = some (some (.ref f6)))
    (l6 : K.lookup f6 = some ⟨oc6, od6, .func (PySem.W.fnOf "list_changes" "list_changes" (defArgs stlist_changes) (defBody stlist_changes) (defScope stlist_changes) .none kV6 dc6 pm6 an6 cd6 ct6), sl6⟩)
    (c6 : PySem.W.codeIn K cd6 "list_changes" = true) (k6 : PySem.W.keepIn K (.ref f6) = true)
    {f7 : Addr} {oc7 kV7 dc7 pm7 cd7 ct7 : Value} {od7 an7 : Option Addr} {sl7 : Array (Option Value)}
    (a7 : PySem.W.findIn K (.ref cq2) "lines" = some (some (.ref f7))) (i7 : PySem.W.isFn K (.ref f7) = true)
    (l7 : K.lookup f7 = some ⟨oc7, od7, .func (PySem.W.fnOf "lines" "Live.lines" (defArgs stLive_lines) (defBody stLive_lines) (defScope stLive_lines) .none kV7 dc7 pm7 an7 cd7 ct7), sl7⟩)
    (c7 : PySem.W.codeIn K cd7 "Live.lines" = true) (k7 : PySem.W.keepIn K (.ref f7) = true)
    {f8 : Addr} {oc8 kV8 dc8 pm8 cd8 ct8 : Value} {od8 an8 : Option Addr} {sl8 : Array (Option Value)}
    (a8 : PySem.W.findIn K (.ref cq2) "result" = some (some (.ref f8))) (i8 : PySem.W.isFn K (.ref f8) = true)
    (l8 : K.lookup f8 = some ⟨oc8, od8, .func (PySem.W.fnOf "result" "Live.result" (defArgs stLive_result) (defBody stLive_result) (defScope stLive_result) .none kV8 dc8 pm8 an8 cd8 ct8), sl8⟩)
    (c8 : PySem.W.codeIn K cd8 "Live.result" = true) (k8 : PySem.W.keepIn K (.ref f8) = true)
    {f9 : Addr} {oc9 kV9 dc9 pm9 cd9 ct9 : Value} {od9 an9 : Option Addr} {sl9 : Array (Option Value)}
    (a9 : PySem.W.findIn K (.ref cq2) "update" = some (some (.ref f9))) (i9 : PySem.W.isFn K (.ref f9) = true)
    (l9 : K.lookup f9 = some ⟨oc9, od9, .func (PySem.W.fnOf "update" "Live.update" (defArgs stLive_update) (defBody stLive_update) (defScope stLive_update) .none kV9 dc9 pm9 an9 cd9 ct9), sl9⟩)
    (c9 : PySem.W.codeIn K cd9 "Live.update" = true) (k9 : PySem.W.keepIn K (.ref f9) = true)
    {f10 : Addr} {oc10 kV10 dc10 pm10 cd10 ct10 : Value} {od10 an10 : Option Addr} {sl10 : Array (Option Value)}
    (a10 : PySem.W.findIn K (.ref cq2) "insert" = some (some (.ref f10))) (i10 : PySem.W.isFn K (.ref f10) = true)
    (l10 : K.lookup f10 = some ⟨oc10, od10, .func (PySem.W.fnOf "insert" "Live.insert" (defArgs stLive_insert) (defBody stLive_insert) (defScope stLive_insert) .none kV10 dc10 pm10 an10 cd10 ct10), sl10⟩)
    (c10 : PySem.W.codeIn K cd10 "Live.insert" = true) (k10 : PySem.W.keepIn K (.ref f10) = true)
    {f11 : Addr} {oc11 kV11 dc11 pm11 cd11 ct11 : Value} {od11 an11 : Option Addr} {sl11 : Array (Option Value)}
    (a11 : PySem.W.findIn K (.ref cq2) "remove" = some (some (.ref f11))) (i11 : PySem.W.isFn K (.ref f11) = true)
    (l11 : K.lookup f11 = some ⟨oc11, od11, .func (PySem.W.fnOf "remove" "Live.remove" (defArgs stLive_remove) (defBody stLive_remove) (defScope stLive_remove) .none kV11 dc11 pm11 an11 cd11 ct11), sl11⟩)
    (c11 : PySem.W.codeIn K cd11 "Live.remove" = true) (k11 : PySem.W.keepIn K (.ref f11) = true)
    {f12 : Addr} {oc12 kV12 dc12 pm12 cd12 ct12 : Value} {od12 an12 : Option Addr} {sl12 : Array (Option Value)}
    (a12 : PySem.W.nsIn K mainGlobals "_law_pool" = some (some (.ref f12)))
    (l12 : K.lookup f12 = some ⟨oc12, od12, .func (PySem.W.fnOf "_law_pool" "_law_pool" (defArgs st_law_pool) (defBody st_law_pool) (defScope st_law_pool) .none kV12 dc12 pm12 an12 cd12 ct12), sl12⟩)
    (c12 : PySem.W.codeIn K cd12 "_law_pool" = true) (k12 : PySem.W.keepIn K (.ref f12) = true)
    {f13 : Addr} {oc13 kV13 dc13 pm13 cd13 ct13 : Value} {od13 an13 : Option Addr} {sl13 : Array (Option Value)}
    (a13 : PySem.W.nsIn K mainGlobals "_law_draw" = some (some (.ref f13)))
    (l13 : K.lookup f13 = some ⟨oc13, od13, .func (PySem.W.fnOf "_law_draw" "_law_draw" (defArgs st_law_draw) (defBody st_law_draw) (defScope st_law_draw) .none kV13 dc13 pm13 an13 cd13 ct13), sl13⟩)
    (c13 : PySem.W.codeIn K cd13 "_law_draw" = true) (k13 : PySem.W.keepIn K (.ref f13) = true)
    {f14 : Addr} {oc14 kV14 dc14 pm14 cd14 ct14 : Value} {od14 an14 : Option Addr} {sl14 : Array (Option Value)}
    (a14 : PySem.W.nsIn K mainGlobals "_law_number" = some (some (.ref f14)))
    (l14 : K.lookup f14 = some ⟨oc14, od14, .func (PySem.W.fnOf "_law_number" "_law_number" (defArgs st_law_number) (defBody st_law_number) (defScope st_law_number) .none kV14 dc14 pm14 an14 cd14 ct14), sl14⟩)
    (c14 : PySem.W.codeIn K cd14 "_law_number" = true) (k14 : PySem.W.keepIn K (.ref f14) = true)
    {f15 : Addr} {oc15 kV15 dc15 pm15 cd15 ct15 : Value} {od15 an15 : Option Addr} {sl15 : Array (Option Value)}
    (a15 : PySem.W.nsIn K mainGlobals "_law_stages" = some (some (.ref f15)))
    (l15 : K.lookup f15 = some ⟨oc15, od15, .func (PySem.W.fnOf "_law_stages" "_law_stages" (defArgs st_law_stages) (defBody st_law_stages) (defScope st_law_stages) .none kV15 dc15 pm15 an15 cd15 ct15), sl15⟩)
    (c15 : PySem.W.codeIn K cd15 "_law_stages" = true) (k15 : PySem.W.keepIn K (.ref f15) = true)
    {f16 : Addr} {oc16 kV16 dc16 pm16 cd16 ct16 : Value} {od16 an16 : Option Addr} {sl16 : Array (Option Value)}
    (a16 : PySem.W.nsIn K mainGlobals "_law_words" = some (some (.ref f16)))
    (l16 : K.lookup f16 = some ⟨oc16, od16, .func (PySem.W.fnOf "_law_words" "_law_words" (defArgs st_law_words) (defBody st_law_words) (defScope st_law_words) .none kV16 dc16 pm16 an16 cd16 ct16), sl16⟩)
    (c16 : PySem.W.codeIn K cd16 "_law_words" = true) (k16 : PySem.W.keepIn K (.ref f16) = true)
    {f17 : Addr} {oc17 kV17 dc17 pm17 cd17 ct17 : Value} {od17 an17 : Option Addr} {sl17 : Array (Option Value)}
    (a17 : PySem.W.nsIn K mainGlobals "_law_rows" = some (some (.ref f17)))
    (l17 : K.lookup f17 = some ⟨oc17, od17, .func (PySem.W.fnOf "_law_rows" "_law_rows" (defArgs st_law_rows) (defBody st_law_rows) (defScope st_law_rows) .none kV17 dc17 pm17 an17 cd17 ct17), sl17⟩)
    (c17 : PySem.W.codeIn K cd17 "_law_rows" = true) (k17 : PySem.W.keepIn K (.ref f17) = true)
    {f18 : Addr} {oc18 kV18 dc18 pm18 cd18 ct18 : Value} {od18 an18 : Option Addr} {sl18 : Array (Option Value)}
    (a18 : PySem.W.nsIn K mainGlobals "_law_after" = some (some (.ref f18)))
    (l18 : K.lookup f18 = some ⟨oc18, od18, .func (PySem.W.fnOf "_law_after" "_law_after" (defArgs st_law_after) (defBody st_law_after) (defScope st_law_after) .none kV18 dc18 pm18 an18 cd18 ct18), sl18⟩)
    (c18 : PySem.W.codeIn K cd18 "_law_after" = true) (k18 : PySem.W.keepIn K (.ref f18) = true)
    {f19 : Addr} {oc19 kV19 dc19 pm19 cd19 ct19 : Value} {od19 an19 : Option Addr} {sl19 : Array (Option Value)}
    (a19 : PySem.W.nsIn K mainGlobals "_law_asked" = some (some (.ref f19)))
    (l19 : K.lookup f19 = some ⟨oc19, od19, .func (PySem.W.fnOf "_law_asked" "_law_asked" (defArgs st_law_asked) (defBody st_law_asked) (defScope st_law_asked) .none kV19 dc19 pm19 an19 cd19 ct19), sl19⟩)
    (c19 : PySem.W.codeIn K cd19 "_law_asked" = true) (k19 : PySem.W.keepIn K (.ref f19) = true)
    {f20 : Addr} {oc20 kV20 dc20 pm20 cd20 ct20 : Value} {od20 an20 : Option Addr} {sl20 : Array (Option Value)}
    (a20 : PySem.W.nsIn K mainGlobals "_law_right" = some (some (.ref f20)))
    (l20 : K.lookup f20 = some ⟨oc20, od20, .func (PySem.W.fnOf "_law_right" "_law_right" (defArgs st_law_right) (defBody st_law_right) (defScope st_law_right) .none kV20 dc20 pm20 an20 cd20 ct20), sl20⟩)
    (c20 : PySem.W.codeIn K cd20 "_law_right" = true) (k20 : PySem.W.keepIn K (.ref f20) = true)
    {f21 : Addr} {oc21 kV21 dc21 pm21 cd21 ct21 : Value} {od21 an21 : Option Addr} {sl21 : Array (Option Value)}
    (a21 : PySem.W.nsIn K mainGlobals "law" = some (some (.ref f21)))
    (l21 : K.lookup f21 = some ⟨oc21, od21, .func (PySem.W.fnOf "law" "law" (defArgs stlaw) (defBody stlaw) (defScope stlaw) .none kV21 dc21 pm21 an21 cd21 ct21), sl21⟩)
    (c21 : PySem.W.codeIn K cd21 "law" = true) (k21 : PySem.W.keepIn K (.ref f21) = true)
    {q0 : Addr} (qa0 : PySem.W.nsIn K mainGlobals "InvalidCommand" = some (some (.ref q0)))
    {q1 : Addr} (qa1 : PySem.W.nsIn K mainGlobals "InvalidIndex" = some (some (.ref q1)))
    {q2 : Addr} (qa2 : PySem.W.nsIn K mainGlobals "InvalidNumber" = some (some (.ref q2)))
    {q3 : Addr} (qa3 : PySem.W.nsIn K mainGlobals "InvalidRun" = some (some (.ref q3)))
    {q4 : Addr} (qa4 : PySem.W.nsIn K mainGlobals "PipeError" = some (some (.ref q4)))
    {q5 : Addr} (qa5 : PySem.W.nsIn K mainGlobals "Unreadable" = some (some (.ref q5)))
    (rg : PySem.W.specialIn K (.ref q4) "__getattribute__" = some (some (.builtin "type.__getattribute__"))) (rr : PySem.W.readsIn K q4 (.type "type") = true) (ri : PySem.W.findCls K (.ref q4) (.type "type") "__init__" = some (.val (.builtin "ValueError.__init__")))
    (xn : PySem.W.specialIn K (.builtin "object.__class__") "__get__" = some (some (.builtin "getset_descriptor.__get__"))) (xt : PySem.W.takesIn K (.builtin "object.__class__") = some true)
    {fi1 N1 : Addr} {nm1 qn1 : Str} {bs1 : List Value} {sn1 : List Str} {sb1 : List Value} {ab1 : Bool} {clx1 : Option Bool} {dd1 : Option Addr} {ma1 mb1 mc1 md1 me1 : Option Value}
    (xl1 : K.lookup q1 = some (excClassObj nm1 qn1 q1 N1 bs1 [.ref q4, .type "ValueError", .type "Exception", .type "BaseException", .type "object"] true sn1 sb1 ab1 clx1 dd1 ma1 mb1 mc1 md1 me1 "ValueError.__new__"))
    (xs1 : PySem.W.findIn K (.ref q1) "__setattr__" = some (some (.builtin "object.__setattr__"))) (xg1 : PySem.W.findIn K (.ref q1) "__getattribute__" = some (some (.builtin "BaseException.__getattribute__"))) (xh1 : PySem.W.findIn K (.ref q1) "__getattr__" = some none) (xv1 : PySem.W.findIn K (.ref q1) "value" = some none)
    (xi1 : PySem.W.findIn K (.ref q1) "__init__" = some (some (.ref fi1))) (xj1 : PySem.W.typeIn K (.ref fi1) = some (.type "function"))
    (xk1 : PySem.W.keepIn K (.ref q1) = true) (xe1 : PySem.W.subIn K (.ref q1) (.type "BaseException") = some true) (xc1 : PySem.W.findIn K (.ref q1) "__class__" = some (some (.builtin "object.__class__"))) (xm1 : PySem.W.mroIn K q1 (.type "object") = some true)
    {oci1 kVi1 dci1 pmi1 cdi1 cti1 : Value} {odi1 ani1 : Option Addr} {sli1 : Array (Option Value)}
    (li1 : K.lookup fi1 = some ⟨oci1, odi1, .func (PySem.W.fnOf "__init__" "InvalidIndex.__init__" (defArgs sti_InvalidIndex) (defBody sti_InvalidIndex) (defScope sti_InvalidIndex) .none kVi1 dci1 pmi1 ani1 cdi1 cti1), sli1⟩)
    (cix1 : PySem.W.codeIn K cdi1 "InvalidIndex.__init__" = true) (ki1 : PySem.W.keepIn K (.ref fi1) = true)
    (tq0 : PySem.W.typeIn K (.ref q0) = some (.type "type")) (hq0 : PySem.W.hasDictIn K q0 = true) (sqx0 : PySem.W.subIn K (.ref q0) (.ref q0) = some true) (bq0 : PySem.W.subIn K (.ref q0) (.type "BaseException") = some true)
    (tq1 : PySem.W.typeIn K (.ref q1) = some (.type "type")) (hq1 : PySem.W.hasDictIn K q1 = true) (sqx1 : PySem.W.subIn K (.ref q1) (.ref q1) = some true) (bq1 : PySem.W.subIn K (.ref q1) (.type "BaseException") = some true)
    (tq2 : PySem.W.typeIn K (.ref q2) = some (.type "type")) (hq2 : PySem.W.hasDictIn K q2 = true) (sqx2 : PySem.W.subIn K (.ref q2) (.ref q2) = some true) (bq2 : PySem.W.subIn K (.ref q2) (.type "BaseException") = some true)
    (tq3 : PySem.W.typeIn K (.ref q3) = some (.type "type")) (hq3 : PySem.W.hasDictIn K q3 = true) (sqx3 : PySem.W.subIn K (.ref q3) (.ref q3) = some true) (bq3 : PySem.W.subIn K (.ref q3) (.type "BaseException") = some true)
    (tq4 : PySem.W.typeIn K (.ref q4) = some (.type "type")) (hq4 : PySem.W.hasDictIn K q4 = true) (sqx4 : PySem.W.subIn K (.ref q4) (.ref q4) = some true) (bq4 : PySem.W.subIn K (.ref q4) (.type "BaseException") = some true)
    (tq5 : PySem.W.typeIn K (.ref q5) = some (.type "type")) (hq5 : PySem.W.hasDictIn K q5 = true) (sqx5 : PySem.W.subIn K (.ref q5) (.ref q5) = some true) (bq5 : PySem.W.subIn K (.ref q5) (.type "BaseException") = some true)
    (u1_0 : PySem.W.subIn K (.ref q1) (.ref q0) = some false)
    (u1_1 : PySem.W.subIn K (.ref q1) (.ref q1) = some true)
    (u1_2 : PySem.W.subIn K (.ref q1) (.ref q2) = some false)
    (u1_3 : PySem.W.subIn K (.ref q1) (.ref q3) = some false)
    (u1_4 : PySem.W.subIn K (.ref q1) (.ref q4) = some true)
    (u1_5 : PySem.W.subIn K (.ref q1) (.ref q5) = some false)
    (uv1 : PySem.W.subIn K (.ref q1) (.type "ValueError") = some true)
    (z0 : PySem.W.nsIn K mainGlobals "ValueError" = some none)
    (z1 : PySem.W.nsIn K mainGlobals "abs" = some none)
    (z2 : PySem.W.nsIn K mainGlobals "enumerate" = some none)
    (z3 : PySem.W.nsIn K mainGlobals "int" = some none)
    (z4 : PySem.W.nsIn K mainGlobals "isinstance" = some none)
    (z5 : PySem.W.nsIn K mainGlobals "len" = some none)
    (z6 : PySem.W.nsIn K mainGlobals "list" = some none)
    (z7 : PySem.W.nsIn K mainGlobals "max" = some none)
    (z8 : PySem.W.nsIn K mainGlobals "min" = some none)
    (z9 : PySem.W.nsIn K mainGlobals "range" = some none)
    (z10 : PySem.W.nsIn K mainGlobals "set" = some none)
    (z11 : PySem.W.nsIn K mainGlobals "sorted" = some none)
    (z12 : PySem.W.nsIn K mainGlobals "zip" = some none)
    {t0 : Tok} (y0 : PySem.W.nsIn K mainGlobals "CHOP" = some (some (.str (("chop" : String) : Str) t0)))
    {t1 : Tok} (y1 : PySem.W.nsIn K mainGlobals "HEAD" = some (some (.str (("head" : String) : Str) t1)))
    {p2 : Addr} {n_2 : Nat} {s_2 : Array (Option Value)} {r2_0 : Addr}
    (y2 : PySem.W.nsIn K mainGlobals "NOTHING" = some (some (.ref p2)))
    (u2 : K.lookup p2 = some ⟨.type "list", none, .seq #[.ref r2_0] n_2, s_2⟩)
    {o2_0 : Option Addr} {m2_0 : Nat} {q2_0 : Array (Option Value)} {t2_0_0 t2_0_1 : Tok} (u2_0 : K.lookup r2_0 = some ⟨.type "tuple", o2_0, .seq #[.str (("head" : String) : Str) t2_0_0, .int 0 t2_0_1] m2_0, q2_0⟩)
    {p3 : Addr} {od_3 : Option Addr} {n_3 : Nat} {t3_0 t3_1 t3_2 t3_3 : Tok} {s_3 : Array (Option Value)}
    (y3 : PySem.W.nsIn K mainGlobals "NUMBERED" = some (some (.ref p3)))
    (u3 : K.lookup p3 = some ⟨.type "tuple", od_3, .seq #[.str (("head" : String) : Str) t3_0, .str (("tail" : String) : Str) t3_1, .str (("skip" : String) : Str) t3_2, .str (("chop" : String) : Str) t3_3] n_3, s_3⟩)
    {p4 : Addr} {od_4 : Option Addr} {n_4 : Nat} {t4_0 t4_1 t4_2 : Tok} {s_4 : Array (Option Value)}
    (y4 : PySem.W.nsIn K mainGlobals "PLAIN" = some (some (.ref p4)))
    (u4 : K.lookup p4 = some ⟨.type "tuple", od_4, .seq #[.str (("reverse" : String) : Str) t4_0, .str (("uniq" : String) : Str) t4_1, .str (("sort" : String) : Str) t4_2] n_4, s_4⟩)
    {t5 : Tok} (y5 : PySem.W.nsIn K mainGlobals "REVERSE" = some (some (.str (("reverse" : String) : Str) t5)))
    {t6 : Tok} (y6 : PySem.W.nsIn K mainGlobals "SKIP" = some (some (.str (("skip" : String) : Str) t6)))
    {t7 : Tok} (y7 : PySem.W.nsIn K mainGlobals "SORT" = some (some (.str (("sort" : String) : Str) t7)))
    {t8 : Tok} (y8 : PySem.W.nsIn K mainGlobals "UNIQ" = some (some (.str (("uniq" : String) : Str) t8)))
    : Nonempty (Txt w K mg) := ⟨{
  na_Slice_skip := cx0_0,
  na_Slice_chop := cx0_1,
  na_Slice_sizes := cx0_2,
  p_Slice := cq0, g_Slice := PySem.W.mg_of X G ca0, cl_Slice := ⟨cg0, ch0, co0, cs0⟩, i_Slice := ci0, di_Slice := (PySem.W.fnOf "__init__" "Slice.__init__" (defArgs sti_Slice) (defBody sti_Slice) (defScope sti_Slice) (.ref cT) cB0 cC0 cD0 cG0 cE0 cK0), M_Slice := ⟨cm0, cf0, cn0, ck0⟩,
  e_Slice := cZ, z_Slice := .inr ⟨_, _, _, lZ, rfl, rfl, (by show 0 ≤ sizeLine; decide), .nil⟩, Fi_Slice := (⟨⟨_, _, _, _, _, _, _, _, _, _, rfl, cl0, cc0, .inr ⟨(fun z => nomatch z), cT, _, [.int 0 tT, .int 0 tU, .ref cZ], nT, rfl, lT, rfl, .cons ⟨_, rfl⟩ (.cons ⟨_, rfl⟩ (.cons rfl .nil))⟩, .inl rfl⟩, cp0⟩ : FunD K "__init__" "Slice.__init__" (defArgs sti_Slice) (defBody sti_Slice) (defScope sti_Slice) [.int 0, .int 0, .ref cZ] [] ci0 (PySem.W.fnOf "__init__" "Slice.__init__" (defArgs sti_Slice) (defBody sti_Slice) (defScope sti_Slice) (.ref cT) cB0 cC0 cD0 cG0 cE0 cK0)),
  b3_Slice := (by obtain ⟨ds, h1, h2⟩ := (⟨⟨_, _, _, _, _, _, _, _, _, _, rfl, cl0, cc0, .inr ⟨(fun z => nomatch z), cT, _, [.int 0 tT, .int 0 tU, .ref cZ], nT, rfl, lT, rfl, .cons ⟨_, rfl⟩ (.cons ⟨_, rfl⟩ (.cons rfl .nil))⟩, .inl rfl⟩, cp0⟩ : FunD K "__init__" "Slice.__init__" (defArgs sti_Slice) (defBody sti_Slice) (defScope sti_Slice) [.int 0, .int 0, .ref cZ] [] ci0 (PySem.W.fnOf "__init__" "Slice.__init__" (defArgs sti_Slice) (defBody sti_Slice) (defScope sti_Slice) (.ref cT) cB0 cC0 cD0 cG0 cE0 cK0)).binds1 (ps := ["self", "skip", "chop", "sizes"]) 4 3 (fun z => nomatch z) rfl fun _ _ _ _ _ _ _ us its hl hi => match us, its, hl, hi with | [_, _, _, _], [_, _, _], _, _ => ⟨_, rfl, rfl⟩; cases h1; exact h2),
  d0_Slice := Classical.choose ((⟨⟨_, _, _, _, _, _, _, _, _, _, rfl, cl0, cc0, .inr ⟨(fun z => nomatch z), cT, _, [.int 0 tT, .int 0 tU, .ref cZ], nT, rfl, lT, rfl, .cons ⟨_, rfl⟩ (.cons ⟨_, rfl⟩ (.cons rfl .nil))⟩, .inl rfl⟩, cp0⟩ : FunD K "__init__" "Slice.__init__" (defArgs sti_Slice) (defBody sti_Slice) (defScope sti_Slice) [.int 0, .int 0, .ref cZ] [] ci0 (PySem.W.fnOf "__init__" "Slice.__init__" (defArgs sti_Slice) (defBody sti_Slice) (defScope sti_Slice) (.ref cT) cB0 cC0 cD0 cG0 cE0 cK0)).binds1 (ps := ["self", "skip", "chop", "sizes"]) 1 0 (fun z => nomatch z) rfl fun _ _ _ _ _ _ _ us its hl hi => match us, its, hl, hi with | [_], [_, _, _], _, _ => ⟨_, rfl, rfl⟩), v0_Slice := (Classical.choose_spec ((⟨⟨_, _, _, _, _, _, _, _, _, _, rfl, cl0, cc0, .inr ⟨(fun z => nomatch z), cT, _, [.int 0 tT, .int 0 tU, .ref cZ], nT, rfl, lT, rfl, .cons ⟨_, rfl⟩ (.cons ⟨_, rfl⟩ (.cons rfl .nil))⟩, .inl rfl⟩, cp0⟩ : FunD K "__init__" "Slice.__init__" (defArgs sti_Slice) (defBody sti_Slice) (defScope sti_Slice) [.int 0, .int 0, .ref cZ] [] ci0 (PySem.W.fnOf "__init__" "Slice.__init__" (defArgs sti_Slice) (defBody sti_Slice) (defScope sti_Slice) (.ref cT) cB0 cC0 cD0 cG0 cE0 cK0)).binds1 (ps := ["self", "skip", "chop", "sizes"]) 1 0 (fun z => nomatch z) rfl fun _ _ _ _ _ _ _ us its hl hi => match us, its, hl, hi with | [_], [_, _, _], _, _ => ⟨_, rfl, rfl⟩)).1, b0_Slice := (Classical.choose_spec ((⟨⟨_, _, _, _, _, _, _, _, _, _, rfl, cl0, cc0, .inr ⟨(fun z => nomatch z), cT, _, [.int 0 tT, .int 0 tU, .ref cZ], nT, rfl, lT, rfl, .cons ⟨_, rfl⟩ (.cons ⟨_, rfl⟩ (.cons rfl .nil))⟩, .inl rfl⟩, cp0⟩ : FunD K "__init__" "Slice.__init__" (defArgs sti_Slice) (defBody sti_Slice) (defScope sti_Slice) [.int 0, .int 0, .ref cZ] [] ci0 (PySem.W.fnOf "__init__" "Slice.__init__" (defArgs sti_Slice) (defBody sti_Slice) (defScope sti_Slice) (.ref cT) cB0 cC0 cD0 cG0 cE0 cK0)).binds1 (ps := ["self", "skip", "chop", "sizes"]) 1 0 (fun z => nomatch z) rfl fun _ _ _ _ _ _ _ us its hl hi => match us, its, hl, hi with | [_], [_, _, _], _, _ => ⟨_, rfl, rfl⟩)).2,
  na_Form_slices := cx1_0,
  na_Form_words := cx1_1,
  na_Form_is_reversed := cx1_2,
  p_Form := cq1, g_Form := PySem.W.mg_of X G ca1, cl_Form := ⟨cg1, ch1, co1, cs1⟩, i_Form := ci1, di_Form := _, M_Form := ⟨cm1, cf1, cn1, ck1⟩,
  Fi_Form := fun_mk (st := sti_Form) cl1 cc1 cp1,
  bI_Form := (fun_mk (st := sti_Form) cl1 cc1 cp1).binds fun _ _ _ _ _ _ us hl => match us, hl with | [_], _ => rfl,
  na_Live_chain := cx2_0,
  na_Live_present := cx2_1,
  na_Live_known := cx2_2,
  p_Live := cq2, g_Live := PySem.W.mg_of X G ca2, cl_Live := ⟨cg2, ch2, co2, cs2⟩, i_Live := ci2, di_Live := _, M_Live := ⟨cm2, cf2, cn2, ck2⟩,
  Fi_Live := fun_mk (st := sti_Live) cl2 cc2 cp2,
  bI_Live := (fun_mk (st := sti_Live) cl2 cc2 cp2).binds fun _ _ _ _ _ _ us hl => match us, hl with | [_, _, _], _ => rfl,
  p_MIRRORED := sq0, c_MIRRORED := PySem.W.mg_of X G sa0, k_MIRRORED := (fun q h => by
    rcases List.mem_cons.mp h with rfl | h
    · exact kdct_of sl_0 sk0 sv0_0
    rcases List.mem_cons.mp h with rfl | h
    · exact kdct_of sl_0 sk0 sv0_1
    rcases List.mem_cons.mp h with rfl | h
    · exact kdct_of sl_0 sk0 sv0_2
    rcases List.mem_cons.mp h with rfl | h
    · exact kdct_of sl_0 sk0 sv0_3
    · cases h),
  ais_command := f0, dis_command := _, Fis_command := fun_mk (st := stis_command) l0 c0 k0,
  gis_command := PySem.W.mg_of X G a0,
  nis_command := (fun_mk (st := stis_command) l0 c0 k0).binds fun _ _ _ _ _ _ us hl => match us, hl with | [_], _ => rfl,
  acheck_pipeline := f1, dcheck_pipeline := _, Fcheck_pipeline := fun_mk (st := stcheck_pipeline) l1 c1 k1,
  gcheck_pipeline := PySem.W.mg_of X G a1,
  ncheck_pipeline := (fun_mk (st := stcheck_pipeline) l1 c1 k1).binds fun _ _ _ _ _ _ us hl => match us, hl with | [_], _ => rfl,
  awithout_repeats := f2, dwithout_repeats := _, Fwithout_repeats := fun_mk (st := stwithout_repeats) l2 c2 k2,
  gwithout_repeats := PySem.W.mg_of X G a2,
  nwithout_repeats := (fun_mk (st := stwithout_repeats) l2 c2 k2).binds fun _ _ _ _ _ _ us hl => match us, hl with | [_], _ => rfl,
  aapply_command := f3, dapply_command := _, Fapply_command := fun_mk (st := stapply_command) l3 c3 k3,
  gapply_command := PySem.W.mg_of X G a3,
  napply_command := (fun_mk (st := stapply_command) l3 c3 k3).binds fun _ _ _ _ _ _ us hl => match us, hl with | [_, _], _ => rfl,
  arun := f4, drun := _, Frun := fun_mk (st := strun) l4 c4 k4,
  grun := PySem.W.mg_of X G a4,
  nrun := (fun_mk (st := strun) l4 c4 k4).binds fun _ _ _ _ _ _ us hl => match us, hl with | [_, _], _ => rfl,
  acommon_lengths := f5, dcommon_lengths := _, Fcommon_lengths := fun_mk (st := stcommon_lengths) l5 c5 k5,
  gcommon_lengths := PySem.W.mg_of X G a5,
  ncommon_lengths := (fun_mk (st := stcommon_lengths) l5 c5 k5).binds fun _ _ _ _ _ _ us hl => match us, hl with | [_, _], _ => rfl,
  alist_changes := f6, dlist_changes := _, Flist_changes := fun_mk (st := stlist_changes) l6 c6 k6,
  glist_changes := PySem.W.mg_of X G a6,
  nlist_changes := (fun_mk (st := stlist_changes) l6 c6 k6).binds fun _ _ _ _ _ _ us hl => match us, hl with | [_, _], _ => rfl,
  aLive_lines := f7, dLive_lines := _, FLive_lines := fun_mk (st := stLive_lines) l7 c7 k7,
  mLive_lines := ⟨a7, i7, k7⟩,
  nLive_lines := (fun_mk (st := stLive_lines) l7 c7 k7).binds fun _ _ _ _ _ _ us hl => match us, hl with | [_], _ => rfl,
  aLive_result := f8, dLive_result := _, FLive_result := fun_mk (st := stLive_result) l8 c8 k8,
  mLive_result := ⟨a8, i8, k8⟩,
  nLive_result := (fun_mk (st := stLive_result) l8 c8 k8).binds fun _ _ _ _ _ _ us hl => match us, hl with | [_], _ => rfl,
  aLive_update := f9, dLive_update := _, FLive_update := fun_mk (st := stLive_update) l9 c9 k9,
  mLive_update := ⟨a9, i9, k9⟩,
  nLive_update := (fun_mk (st := stLive_update) l9 c9 k9).binds fun _ _ _ _ _ _ us hl => match us, hl with | [_], _ => rfl,
  aLive_insert := f10, dLive_insert := _, FLive_insert := fun_mk (st := stLive_insert) l10 c10 k10,
  mLive_insert := ⟨a10, i10, k10⟩,
  nLive_insert := (fun_mk (st := stLive_insert) l10 c10 k10).binds fun _ _ _ _ _ _ us hl => match us, hl with | [_, _, _], _ => rfl,
  aLive_remove := f11, dLive_remove := _, FLive_remove := fun_mk (st := stLive_remove) l11 c11 k11,
  mLive_remove := ⟨a11, i11, k11⟩,
  nLive_remove := (fun_mk (st := stLive_remove) l11 c11 k11).binds fun _ _ _ _ _ _ us hl => match us, hl with | [_, _], _ => rfl,
  a_law_pool := f12, d_law_pool := _, F_law_pool := fun_mk (st := st_law_pool) l12 c12 k12,
  g_law_pool := PySem.W.mg_of X G a12,
  n_law_pool := (fun_mk (st := st_law_pool) l12 c12 k12).binds fun _ _ _ _ _ _ us hl => match us, hl with | [_, _], _ => rfl,
  a_law_draw := f13, d_law_draw := _, F_law_draw := fun_mk (st := st_law_draw) l13 c13 k13,
  g_law_draw := PySem.W.mg_of X G a13,
  n_law_draw := (fun_mk (st := st_law_draw) l13 c13 k13).binds fun _ _ _ _ _ _ us hl => match us, hl with | [_, _], _ => rfl,
  a_law_number := f14, d_law_number := _, F_law_number := fun_mk (st := st_law_number) l14 c14 k14,
  g_law_number := PySem.W.mg_of X G a14,
  n_law_number := (fun_mk (st := st_law_number) l14 c14 k14).binds fun _ _ _ _ _ _ us hl => match us, hl with | [_], _ => rfl,
  a_law_stages := f15, d_law_stages := _, F_law_stages := fun_mk (st := st_law_stages) l15 c15 k15,
  g_law_stages := PySem.W.mg_of X G a15,
  n_law_stages := (fun_mk (st := st_law_stages) l15 c15 k15).binds fun _ _ _ _ _ _ us hl => match us, hl with | [_, _], _ => rfl,
  a_law_words := f16, d_law_words := _, F_law_words := fun_mk (st := st_law_words) l16 c16 k16,
  g_law_words := PySem.W.mg_of X G a16,
  n_law_words := (fun_mk (st := st_law_words) l16 c16 k16).binds fun _ _ _ _ _ _ us hl => match us, hl with | [_], _ => rfl,
  a_law_rows := f17, d_law_rows := _, F_law_rows := fun_mk (st := st_law_rows) l17 c17 k17,
  g_law_rows := PySem.W.mg_of X G a17,
  n_law_rows := (fun_mk (st := st_law_rows) l17 c17 k17).binds fun _ _ _ _ _ _ us hl => match us, hl with | [_, _, _], _ => rfl,
  a_law_after := f18, d_law_after := _, F_law_after := fun_mk (st := st_law_after) l18 c18 k18,
  g_law_after := PySem.W.mg_of X G a18,
  n_law_after := (fun_mk (st := st_law_after) l18 c18 k18).binds fun _ _ _ _ _ _ us hl => match us, hl with | [_, _, _], _ => rfl,
  a_law_asked := f19, d_law_asked := _, F_law_asked := fun_mk (st := st_law_asked) l19 c19 k19,
  g_law_asked := PySem.W.mg_of X G a19,
  n_law_asked := (fun_mk (st := st_law_asked) l19 c19 k19).binds fun _ _ _ _ _ _ us hl => match us, hl with | [_, _, _], _ => rfl,
  a_law_right := f20, d_law_right := _, F_law_right := fun_mk (st := st_law_right) l20 c20 k20,
  g_law_right := PySem.W.mg_of X G a20,
  n_law_right := (fun_mk (st := st_law_right) l20 c20 k20).binds fun _ _ _ _ _ _ us hl => match us, hl with | [_], _ => rfl,
  alaw := f21, dlaw := _, Flaw := fun_mk (st := stlaw) l21 c21 k21,
  glaw := PySem.W.mg_of X G a21,
  nlaw := (fun_mk (st := stlaw) l21 c21 k21).binds fun _ _ _ _ _ _ us hl => match us, hl with | [_], _ => rfl,
  p_InvalidCommand := q0, g_InvalidCommand := PySem.W.mg_of X G qa0,
  p_InvalidIndex := q1, g_InvalidIndex := PySem.W.mg_of X G qa1,
  p_InvalidNumber := q2, g_InvalidNumber := PySem.W.mg_of X G qa2,
  p_InvalidRun := q3, g_InvalidRun := PySem.W.mg_of X G qa3,
  p_PipeError := q4, g_PipeError := PySem.W.mg_of X G qa4,
  p_Unreadable := q5, g_Unreadable := PySem.W.mg_of X G qa5,
  r_PipeError := ⟨PySem.W.mg_of X G qa4, rg, rr, ri⟩,
  i_InvalidIndex := fi1, di_InvalidIndex := _, Fi_InvalidIndex := fun_mk (st := sti_InvalidIndex) li1 cix1 ki1,
  ni_InvalidIndex := (fun_mk (st := sti_InvalidIndex) li1 cix1 ki1).binds fun _ _ _ _ _ _ us hl => match us, hl with | [_, _], _ => rfl,
  x_InvalidIndex := excT_mk (PySem.W.mg_of X G qa1) xl1 xs1 xg1 xh1 xv1 xi1 xj1 xk1 xe1 tq1 hq1 xc1 xn xt xm1,
  k_InvalidIndex_InvalidCommand := kit_ref hq0 tq0 sqx0 u1_0,
  k_InvalidIndex_InvalidIndex := kit_ref hq1 tq1 sqx1 u1_1,
  k_InvalidIndex_InvalidNumber := kit_ref hq2 tq2 sqx2 u1_2,
  k_InvalidIndex_InvalidRun := kit_ref hq3 tq3 sqx3 u1_3,
  k_InvalidIndex_Unreadable := kit_ref hq5 tq5 sqx5 u1_5,
  e_InvalidIndex_PipeError := PySem.W.exm_ref bq4 hq4 tq4 u1_4,
  kv_InvalidIndex := kit_ve uv1,
  b_ValueError := PySem.W.mg_none_of X G z0,
  b_abs := PySem.W.mg_none_of X G z1,
  b_enumerate := PySem.W.mg_none_of X G z2,
  b_int := PySem.W.mg_none_of X G z3,
  b_isinstance := PySem.W.mg_none_of X G z4,
  b_len := PySem.W.mg_none_of X G z5,
  b_list := PySem.W.mg_none_of X G z6,
  b_max := PySem.W.mg_none_of X G z7,
  b_min := PySem.W.mg_none_of X G z8,
  b_range := PySem.W.mg_none_of X G z9,
  b_set := PySem.W.mg_none_of X G z10,
  b_sorted := PySem.W.mg_none_of X G z11,
  b_zip := PySem.W.mg_none_of X G z12,
  t_CHOP := t0, c_CHOP := PySem.W.mg_of X G y0,
  t_HEAD := t1, c_HEAD := PySem.W.mg_of X G y1,
  p_NOTHING := p2, c_NOTHING := PySem.W.mg_of X G y2, f_NOTHING := .sls (.inr (.inr ⟨_, _, _, u2, rfl, rfl, rfl, (by show 1 ≤ sizeLine; decide), (.cons (show RelV (.ref r2_0) (.ref r2_0) from rfl) .nil)⟩)) (.cons (.tup (.inr (.inr ⟨_, _, _, u2_0, rfl, rfl, (by show 2 ≤ sizeLine; decide), (.cons (show RelV (.str (("head" : String) : Str)) (.str (("head" : String) : Str) _) from ⟨_, rfl⟩) (.cons (show RelV (.int 0) (.int 0 _) from ⟨_, rfl⟩) .nil))⟩)) (.cons (.str _) (.cons (.int _) .nil))) .nil),
  p_NUMBERED := p3, c_NUMBERED := PySem.W.mg_of X G y3, q_NUMBERED := .inr ⟨_, _, _, u3, rfl, rfl, (by show 4 ≤ sizeLine; decide), (.cons ⟨_, rfl⟩ (.cons ⟨_, rfl⟩ (.cons ⟨_, rfl⟩ (.cons ⟨_, rfl⟩ .nil))))⟩,
  p_PLAIN := p4, c_PLAIN := PySem.W.mg_of X G y4, q_PLAIN := .inr ⟨_, _, _, u4, rfl, rfl, (by show 3 ≤ sizeLine; decide), (.cons ⟨_, rfl⟩ (.cons ⟨_, rfl⟩ (.cons ⟨_, rfl⟩ .nil)))⟩,
  t_REVERSE := t5, c_REVERSE := PySem.W.mg_of X G y5,
  t_SKIP := t6, c_SKIP := PySem.W.mg_of X G y6,
  t_SORT := t7, c_SORT := PySem.W.mg_of X G y7,
  t_UNIQ := t8, c_UNIQ := PySem.W.mg_of X G y8 }⟩
theorem lawOk {P : Program} {w : World} {K : PySem.W.Frag} {h : Heap} {mg : Str → Option Value} {fa : Addr} (X : K.In h) (G : h.Ns mainGlobals mg) (T : Txt w K mg) (hfa : mg "law" = some (.ref fa)) (H : LawHolds Mlaw) :
    ∀ base : Heap, K.In base → base.Ns mainGlobals mg → LawAt P w K mg base fa := by
  have e := hfa.symm.trans T.glaw
  cases e
  exact fun base _ _ => lawAt T H
end Lw

/-! ## the mirrors by what is wanted behind them: one rule a construct -/
namespace Sm
open PySem L2
structure wE (f : G → Option (R × G)) (g : G) (Q : R → G → Prop) : Prop where
  ex : ∃ r g', f g = some (r, g') ∧ Q r g'
structure wT (f : G → Option (Bool × G)) (g : G) (Q : Bool → G → Prop) : Prop where
  ex : ∃ b g', f g = some (b, g') ∧ Q b g'
structure wA (f : G → Option (List R × G)) (g : G) (Q : List R → G → Prop) : Prop where
  ex : ∃ r g', f g = some (r, g') ∧ Q r g'
structure wO (f : G → Option (Option Int × G)) (g : G) (Q : Option Int → G → Prop) : Prop where
  ex : ∃ r g', f g = some (r, g') ∧ Q r g'
structure wI (f : G → Option (List D × G)) (g : G) (Q : List D → G → Prop) : Prop where
  ex : ∃ l g', f g = some (l, g') ∧ Q l g'
structure wG (f : D → G → Option G) (d : D) (g : G) (Q : G → Prop) : Prop where
  ex : ∃ g', f d g = some g' ∧ Q g'
structure wGs (f : List D → G → Option G) (d : List D) (g : G) (Q : G → Prop) : Prop where
  ex : ∃ g', f d g = some g' ∧ Q g'
structure wS (f : G → Option O) (g : G) (Q : O → Prop) : Prop where
  ex : ∃ o, f g = some o ∧ Q o
structure wF (F : G → Option (R × G)) (g : G) (Q : R → G → Prop) : Prop where
  ex : ∃ r g', F g = some (r, g') ∧ Q r g'
structure wX (F : G → Option RX) (g : G) (Q : RX → Prop) : Prop where
  ex : ∃ r, F g = some r ∧ Q r
structure wN (f : MN) (g : G) (Q : OK → List PF → G → Prop) : Prop where
  ex : ∃ k ps g', f g = some ((k, ps), g') ∧ Q k ps g'
section
variable {f fa fb fe fo fu : G → Option (R × G)} {ft fw : G → Option (Bool × G)} {fs : G → Option (List R × G)} {fl fh : G → Option (Option Int × G)} {fi fj : G → Option (List D × G)} {gf : D → G → Option G} {gs : List D → G → Option G} {s s' : G → Option O} {F : G → Option (R × G)} {X : G → Option RX}
variable {g g1 g2 : G} {i j n k : Nat} {d x y : D} {l l' : List D} {b : Bool} {r r1 r2 : R} {rs : List R} {h h' : D → D → Option R} {hb : List D → Option R} {hm : Str → D → Option R} {vs : List Nat} {κ : Ky}
variable {Q : R → G → Prop} {QB : Bool → G → Prop} {QL : List R → G → Prop} {QO : Option Int → G → Prop} {QI : List D → G → Prop} {QG : G → Prop} {QS : O → Prop}
theorem wF.eq (e : F g = some (r, g1)) (q : Q r g1) : wF F g Q := ⟨r, g1, e, q⟩
theorem wE.eq (e : f g = some (r, g1)) (q : Q r g1) : wE f g Q := ⟨r, g1, e, q⟩
theorem wF.mono {Q' : R → G → Prop} (h : wF F g Q) (k : ∀ r g', Q r g' → Q' r g') : wF F g Q' := let ⟨r, g', e, q⟩ := h; ⟨r, g', e, k _ _ q⟩
theorem wS.mono {Q' : O → Prop} (h : wS s g QS) (k : ∀ o, QS o → Q' o) : wS s g Q' := let ⟨o, e, q⟩ := h; ⟨o, e, k _ q⟩
theorem wE.mono {Q' : R → G → Prop} (h : wE f g Q) (k : ∀ r g', Q r g' → Q' r g') : wE f g Q' := let ⟨r, g', e, q⟩ := h; ⟨r, g', e, k _ _ q⟩
/-! ### what a value is -/
structure dQ (r : R) (K : D → Prop) : Prop where
  ex : ∃ d, r = .d d ∧ K d
theorem q_d {K : D → Prop} {d : D} (q : K d) : dQ (.d d) K := ⟨d, rfl, q⟩
structure blQ (r : R) (K : Bool → Prop) : Prop where
  ex : ∃ b, r = .d (.bl b) ∧ K b
structure intQ (r : R) (K : Int → Prop) : Prop where
  ex : ∃ v : Int, r = .d (.int v) ∧ K v
structure strQ (r : R) (K : Str → Prop) : Prop where
  ex : ∃ z : Str, r = .d (.str z) ∧ K z
structure nwQ (r : R) (K : List D → Prop) : Prop where
  ex : ∃ l, r = .nw l ∧ K l
structure olQ (i : Nat) (g : G) (K : Bool → List D → Prop) : Prop where
  ex : ∃ b l, g[i]? = some (.ol b l) ∧ K b l
structure obQ (i : Nat) (g : G) (K : Bool → OK → List Sm.F → Prop) : Prop where
  ex : ∃ b kk cs, g[i]? = some (.ob b kk cs) ∧ K b kk cs
structure flQ (i n : Nat) (κ : Ky) (g : G) (K : Addr → List D → Prop) : Prop where
  ex : ∃ q l, flAt g i n κ = some (q, l) ∧ K q l
structure seqDQ (d : D) (K : List D → Prop) : Prop where
  ex : ∃ l, seqD d = some l ∧ K l
structure ldCQ (rs : List R) (g : G) (K : List D → Prop) : Prop where
  ex : ∃ ds, ldsC g rs = some ds ∧ K ds
theorem q_bl {K : Bool → Prop} {b : Bool} (q : K b) : blQ (.d (.bl b)) K := ⟨b, rfl, q⟩
theorem q_int {K : Int → Prop} {v : Int} (q : K v) : intQ (.d (.int v)) K := ⟨v, rfl, q⟩
theorem q_str {K : Str → Prop} {v : Str} (q : K v) : strQ (.d (.str v)) K := ⟨v, rfl, q⟩
theorem q_nw {K : List D → Prop} {v : List D} (q : K v) : nwQ (.nw v) K := ⟨v, rfl, q⟩
theorem q_ol {i : Nat} {g : G} {K : Bool → List D → Prop} {b : Bool} {l : List D} (e : g[i]? = some (.ol b l)) (q : K b l) : olQ i g K := ⟨b, l, e, q⟩
theorem q_ob {i : Nat} {g : G} {K : Bool → OK → List Sm.F → Prop} {b : Bool} {k : OK} {cs : List Sm.F} (e : g[i]? = some (.ob b k cs)) (q : K b k cs) : obQ i g K := ⟨b, k, cs, e, q⟩
theorem q_fl {i n : Nat} {κ : Ky} {g : G} {K : Addr → List D → Prop} {a : Addr} {l : List D} (e : flAt g i n κ = some (a, l)) (q : K a l) : flQ i n κ g K := ⟨a, l, e, q⟩
theorem q_seq {d : D} {K : List D → Prop} {l : List D} (e : seqD d = some l) (q : K l) : seqDQ d K := ⟨l, e, q⟩
theorem q_ldC {rs : List R} {g : G} {K : List D → Prop} {ds : List D} (e : ldsC g rs = some ds) (q : K ds) : ldCQ rs g K := ⟨ds, e, q⟩
theorem flAt_of {i n : Nat} {κ : Ky} {g : G} {b : Bool} {k : OK} {cs : List Sm.F} {a : Addr} {l : List D} (e : g[i]? = some (.ob b k cs)) (hk : keyIs k n κ = true) (hn : cs[n]? = some (.fl a l)) : flAt g i n κ = some (a, l) := by
  unfold flAt
  rw [e]
  dsimp only
  rw [if_pos hk, hn]
theorem ky_li {n : Nat} : keyIs .li n .ix = true := rfl
theorem ky_d0 {a : Str} {ks : List Str} : keyIs (.di (a :: ks)) 0 (.tx a) = true := decide_eq_true rfl
theorem ky_d1 {a b : Str} {ks : List Str} : keyIs (.di (a :: b :: ks)) 1 (.tx b) = true := decide_eq_true rfl
theorem ky_d2 {a b c : Str} {ks : List Str} : keyIs (.di (a :: b :: c :: ks)) 2 (.tx c) = true := decide_eq_true rfl
theorem ky_d3 {a b c d : Str} {ks : List Str} : keyIs (.di (a :: b :: c :: d :: ks)) 3 (.tx d) = true := decide_eq_true rfl
theorem ky_n0 {C a : Str} {ks : List Str} : keyIs (.ns C (a :: ks)) 0 (.at C a) = true := by show (decide (C = C) && decide (a = a)) = true; rw [decide_eq_true rfl, decide_eq_true rfl]; rfl
theorem ky_n1 {C a b : Str} {ks : List Str} : keyIs (.ns C (a :: b :: ks)) 1 (.at C b) = true := by show (decide (C = C) && decide (b = b)) = true; rw [decide_eq_true rfl, decide_eq_true rfl]; rfl
theorem ky_n2 {C a b c : Str} {ks : List Str} : keyIs (.ns C (a :: b :: c :: ks)) 2 (.at C c) = true := by show (decide (C = C) && decide (c = c)) = true; rw [decide_eq_true rfl, decide_eq_true rfl]; rfl
/-! ### expressions -/
theorem w_c (q : Q (.d d) g) : wE (eC d) g Q := ⟨_, _, rfl, q⟩
theorem w_var (e : eVar i g = some (r, g)) (q : Q r g) : wE (eVar i) g Q := ⟨_, _, e, q⟩
/-- two values are read, an operation is done -/
structure opQ (h : D → D → Option R) (r1 r2 : R) (g : G) (Q : R → G → Prop) : Prop where
  ex : ∃ x y r, ld g r1 = some x ∧ ld g r2 = some y ∧ h x y = some r ∧ Q r g
theorem w_bin (q : wE fa g fun r1 g1 => wE fb g1 fun r2 g2 => opQ h r1 r2 g2 Q) : wE (eBin h fa fb) g Q := by
  obtain ⟨r1, g1, e1, r2, g2, e2, x, y, r, e3, e4, e5, q⟩ := q
  exact ⟨r, g2, by unfold eBin; rw [e1, Option.bind_some, e2, Option.bind_some, e3, Option.bind_some, e4, Option.bind_some, e5]; rfl, q⟩
theorem w_op (e1 : ld g r1 = some x) (e2 : ld g r2 = some y) (e3 : h x y = some r) (q : Q r g) : opQ h r1 r2 g Q := ⟨x, y, r, e1, e2, e3, q⟩
theorem w_neg (q : wE fa g fun r g1 => intQ r fun v => Q (.d (.int (-v))) g1) : wE (eNeg fa) g Q := by
  obtain ⟨r1, g1, e1, v, rfl, q⟩ := q
  exact ⟨_, g1, by unfold eNeg; rw [e1]; rfl, q⟩
theorem w_if (q : wT ft g fun b g1 => (b = true → wE fa g1 Q) ∧ (b = false → wE fb g1 Q)) : wE (eIf ft fa fb) g Q := by
  obtain ⟨b, g1, e1, q1, q2⟩ := q
  cases b with
  | true => obtain ⟨r, g2, e2, q⟩ := q1 rfl; exact ⟨r, g2, by unfold eIf; rw [e1]; exact e2, q⟩
  | false => obtain ⟨r, g2, e2, q⟩ := q2 rfl; exact ⟨r, g2, by unfold eIf; rw [e1]; exact e2, q⟩
theorem w_tst (q : wE f g fun r g1 => blQ r fun b => QB b g1) : wT (tst f) g QB := by
  obtain ⟨r1, g1, e1, b, rfl, q⟩ := q
  exact ⟨b, g1, by unfold tst; rw [e1], q⟩
theorem w_band (q : wT ft g fun b g1 => (b = true → wT fw g1 QB) ∧ (b = false → QB false g1)) : wT (bAnd ft fw) g QB := by
  obtain ⟨b, g1, e1, q1, q2⟩ := q
  cases b with
  | true => obtain ⟨r, g2, e2, q⟩ := q1 rfl; exact ⟨r, g2, by unfold bAnd; rw [e1]; exact e2, q⟩
  | false => exact ⟨false, g1, by unfold bAnd; rw [e1]; rfl, q2 rfl⟩
theorem w_bor (q : wT ft g fun b g1 => (b = true → QB true g1) ∧ (b = false → wT fw g1 QB)) : wT (bOr ft fw) g QB := by
  obtain ⟨b, g1, e1, q1, q2⟩ := q
  cases b with
  | false => obtain ⟨r, g2, e2, q⟩ := q2 rfl; exact ⟨r, g2, by unfold bOr; rw [e1]; exact e2, q⟩
  | true => exact ⟨true, g1, by unfold bOr; rw [e1]; rfl, q1 rfl⟩
theorem w_bnot (q : wT ft g fun b g1 => QB (!b) g1) : wT (bNot ft) g QB := by
  obtain ⟨b, g1, e1, q⟩ := q
  exact ⟨!b, g1, by unfold bNot; rw [e1]; rfl, q⟩
theorem w_and (q : wT (tst fa) g fun b g1 => (b = true → wE fb g1 Q) ∧ (b = false → Q (.d (.bl false)) g1)) : wE (eAnd fa fb) g Q := by
  obtain ⟨b, g1, e1, q1, q2⟩ := q
  cases b with
  | true => obtain ⟨r, g2, e2, q⟩ := q1 rfl; exact ⟨r, g2, by unfold eAnd; rw [e1]; exact e2, q⟩
  | false => exact ⟨_, g1, by unfold eAnd; rw [e1]; rfl, q2 rfl⟩
theorem w_or (q : wT (tst fa) g fun b g1 => (b = true → Q (.d (.bl true)) g1) ∧ (b = false → wE fb g1 Q)) : wE (eOr fa fb) g Q := by
  obtain ⟨b, g1, e1, q1, q2⟩ := q
  cases b with
  | false => obtain ⟨r, g2, e2, q⟩ := q2 rfl; exact ⟨r, g2, by unfold eOr; rw [e1]; exact e2, q⟩
  | true => exact ⟨_, g1, by unfold eOr; rw [e1]; rfl, q1 rfl⟩
theorem w_not (q : wT (tst fa) g fun b g1 => Q (.d (.bl !b)) g1) : wE (eNot fa) g Q := by
  obtain ⟨b, g1, e1, q⟩ := q
  exact ⟨_, g1, by unfold eNot; rw [e1]; rfl, q⟩
/-- the second comparison of a chain -/
structure chQ (h h' : D → D → Option R) (fe : G → Option (R × G)) (r1 r2 : R) (g : G) (Q : R → G → Prop) : Prop where
  ex : ∃ x y b, ld g r1 = some x ∧ ld g r2 = some y ∧ h x y = some (.d (.bl b)) ∧ (b = true → wE fe g fun r3 g3 => opQ h' r2 r3 g3 Q) ∧ (b = false → Q (.d (.bl false)) g)
theorem w_chain (q : wE fa g fun r1 g1 => wE fb g1 fun r2 g2 => chQ h h' fe r1 r2 g2 Q) : wE (eChain h h' fa fb fe) g Q := by
  obtain ⟨r1, g1, e1, r2, g2, e2, x, y, b, e3, e4, e5, q1, q2⟩ := q
  cases b with
  | true =>
    obtain ⟨r3, g3, e6, x', y', r, e7, e8, e9, q⟩ := q1 rfl
    exact ⟨r, g3, by unfold eChain; rw [e1, Option.bind_some, e2, Option.bind_some, e3, Option.bind_some, e4, Option.bind_some, e5, Option.bind_some]; dsimp only; rw [e6, Option.bind_some, e7, Option.bind_some, e8, Option.bind_some, e9]; rfl, q⟩
  | false => exact ⟨_, g2, by unfold eChain; rw [e1, Option.bind_some, e2, Option.bind_some, e3, Option.bind_some, e4, Option.bind_some, e5]; rfl, q2 rfl⟩
theorem w_ch (e1 : ld g r1 = some x) (e2 : ld g r2 = some y) (e3 : h x y = some (.d (.bl b))) (q : (b = true → wE fe g fun r3 g3 => opQ h' r2 r3 g3 Q) ∧ (b = false → Q (.d (.bl false)) g)) : chQ h h' fe r1 r2 g Q := ⟨x, y, b, e1, e2, e3, q⟩
/-! ### arguments -/
theorem w_anil (q : QL [] g) : wA aNil g QL := ⟨_, _, rfl, q⟩
theorem w_acons (q : wE f g fun r g1 => wA fs g1 fun rs g2 => QL (r :: rs) g2) : wA (aCons f fs) g QL := by
  obtain ⟨r, g1, e1, rs, g2, e2, q⟩ := q
  exact ⟨_, g2, by unfold aCons; rw [e1, Option.bind_some, e2]; rfl, q⟩
theorem w_perm {perm : List Nat} (q : wA fs g fun rs g1 => rs.length = perm.length ∧ QL (prm perm rs) g1) : wA (aPerm perm fs) g QL := by
  obtain ⟨rs, g1, e1, e2, q⟩ := q
  exact ⟨_, g1, by unfold aPerm; rw [e1, Option.bind_some, if_pos e2], q⟩
theorem w_recA {C m : Str} (q : wE fo g fun r g1 => recIs C m g1 r = true ∧ wA fs g1 fun rs g2 => QL (r :: rs) g2) : wA (recA C m fo fs) g QL := by
  obtain ⟨r, g1, e1, e2, rs, g2, e3, q⟩ := q
  exact ⟨_, g2, by unfold recA; rw [e1]; dsimp only; rw [if_pos e2, e3]; rfl, q⟩
/-- the items are frozen -/
structure frQ (rs : List R) (g : G) (Q : List D → G → Prop) : Prop where
  ex : ∃ ds g', frzs g rs = some (ds, g') ∧ Q ds g'
theorem w_fr0 (q : QI [] g) : frQ [] g QI := ⟨_, _, rfl, q⟩
theorem w_frd (q : frQ rs g fun ds g1 => QI (d :: ds) g1) : frQ (.d d :: rs) g QI := by
  obtain ⟨ds, g1, e, q⟩ := q
  exact ⟨_, g1, by unfold frzs frz; rw [Option.bind_some, e]; rfl, q⟩
theorem w_frn (q : frQ rs g fun ds g1 => QI (.lst l :: ds) g1) : frQ (.nw l :: rs) g QI := by
  obtain ⟨ds, g1, e, q⟩ := q
  exact ⟨_, g1, by unfold frzs frz; rw [Option.bind_some, e]; rfl, q⟩
theorem w_frs (e0 : frz g (.sl i) = some (d, g1)) (q : frQ rs g1 fun ds g1 => QI (d :: ds) g1) : frQ (.sl i :: rs) g QI := by
  obtain ⟨ds, g2, e, q⟩ := q
  exact ⟨_, g2, by unfold frzs; rw [e0, Option.bind_some, e]; rfl, q⟩
theorem w_tup (q : wA fs g fun rs g1 => frQ rs g1 fun ds g2 => ds.length ≤ 1000 ∧ Q (.d (.tup ds)) g2) : wE (eTup fs) g Q := by
  obtain ⟨rs, g1, e1, ds, g2, e2, e3, q⟩ := q
  exact ⟨_, g2, by unfold eTup; rw [e1, Option.bind_some, e2, Option.bind_some, if_pos e3], q⟩
theorem w_lst (q : wA fs g fun rs g1 => frQ rs g1 fun ds g2 => ds.length ≤ 1000 ∧ Q (.nw ds) g2) : wE (eLst fs) g Q := by
  obtain ⟨rs, g1, e1, ds, g2, e2, e3, q⟩ := q
  exact ⟨_, g2, by unfold eLst; rw [e1, Option.bind_some, e2, Option.bind_some, if_pos e3], q⟩
/-! ### slices -/
theorem w_on (q : QO none g) : wO oNone g QO := ⟨_, _, rfl, q⟩
theorem w_os (q : wE f g fun r g1 => intQ r fun v => QO (some v) g1) : wO (oSome f) g QO := by
  obtain ⟨r, g1, e, v, rfl, q⟩ := q
  exact ⟨_, g1, by unfold oSome; rw [e]; rfl, q⟩
structure slQ (r : R) (lo hi : Option Int) (g : G) (Q : R → G → Prop) : Prop where
  ex : ∃ x r', ld g r = some x ∧ slD x lo hi = some r' ∧ Q r' g
theorem w_sl (q : wE fa g fun r g1 => wO fl g1 fun lo g2 => wO fh g2 fun hi g3 => slQ r lo hi g3 Q) : wE (eSl fa fl fh) g Q := by
  obtain ⟨r, g1, e1, lo, g2, e2, hi, g3, e3, x, r', e4, e5, q⟩ := q
  exact ⟨r', g3, by unfold eSl; rw [e1, Option.bind_some, e2, Option.bind_some, e3, Option.bind_some, e4, Option.bind_some, e5]; rfl, q⟩
theorem w_slq {lo hi : Option Int} (e1 : ld g r = some x) (e2 : slD x lo hi = some r1) (q : Q r1 g) : slQ r lo hi g Q := ⟨x, r1, e1, e2, q⟩
structure revQ (r : R) (g : G) (K : List D → Prop) : Prop where
  ex : ∃ l, (ld g r = some (.lst l) ∨ ld g r = some (.sls l)) ∧ K l
theorem q_rev {K : List D → Prop} (e : ld g r = some (.lst l)) (q : K l) : revQ r g K := ⟨l, .inl e, q⟩
theorem q_revs {K : List D → Prop} (e : ld g r = some (.sls l)) (q : K l) : revQ r g K := ⟨l, .inr e, q⟩
theorem w_rev (q : wE fa g fun r g1 => revQ r g1 fun l => Q (.nw l.reverse) g1) : wE (eRev fa) g Q := by
  obtain ⟨r, g1, e1, l, e2 | e2, q⟩ := q
  · exact ⟨_, g1, by unfold eRev; rw [e1, Option.bind_some, e2], q⟩
  · exact ⟨_, g1, by unfold eRev; rw [e1, Option.bind_some, e2], q⟩
/-! ### built-ins -/
structure cbQ (hb : List D → Option R) (rs : List R) (g : G) (Q : R → G → Prop) : Prop where
  ex : ∃ ds r, lds g rs = some ds ∧ hb ds = some r ∧ Q r g
theorem w_cb (q : wA fs g fun rs g1 => cbQ hb rs g1 Q) : wE (eCB hb fs) g Q := by
  obtain ⟨rs, g1, e1, ds, r, e2, e3, q⟩ := q
  exact ⟨r, g1, by unfold eCB; rw [e1, Option.bind_some, e2, Option.bind_some, e3]; rfl, q⟩
theorem w_cbq {ds : List D} (e1 : lds g rs = some ds) (e2 : hb ds = some r) (q : Q r g) : cbQ hb rs g Q := ⟨ds, r, e1, e2, q⟩
structure m1Q (hm : Str → D → Option R) (z : Str) (r : R) (g : G) (Q : R → G → Prop) : Prop where
  ex : ∃ y r', ld g r = some y ∧ hm z y = some r' ∧ Q r' g
theorem w_m1 (q : wE fo g fun r g1 => strQ r fun z => wE fe g1 fun r2 g2 => m1Q hm z r2 g2 Q) : wE (eM1 hm fo fe) g Q := by
  obtain ⟨r, g1, e1, z, rfl, r2, g2, e2, y, r', e3, e4, q⟩ := q
  exact ⟨r', g2, by unfold eM1; rw [e1, Option.bind_some]; dsimp only; rw [e2, Option.bind_some, e3, Option.bind_some, e4]; rfl, q⟩
/-! ### lists of slots -/
structure lm1Q (h : List D → D → Option R) (r1 r2 : R) (g : G) (Q : R → G → Prop) : Prop where
  ex : ∃ l y r, ld g r1 = some (.lst l) ∧ ld g r2 = some y ∧ h l y = some r ∧ Q r g
structure fzQ (r : R) (g : G) (Q : D → G → Prop) : Prop where
  ex : ∃ d g', frz g r = some (d, g') ∧ Q d g'
theorem w_fz {QD : D → G → Prop} (e : frz g r = some (d, g1)) (q : QD d g1) : fzQ r g QD := ⟨d, g1, e, q⟩
theorem w_app (e0 : g[i]? = some (.ol b l')) (q : wE fe g fun r g1 => fzQ r g1 fun d g2 => olQ i g2 fun b l => l.length ≤ 100000 ∧ Q (.d .non) (g2.set i (.ol b (l ++ [d])))) : wE (eApp i fe) g Q := by
  obtain ⟨r, g1, e1, d, g2, e2, b, l, e3, e4, q⟩ := q
  exact ⟨_, _, by unfold eApp; rw [e0]; dsimp only; rw [e1, Option.bind_some, e2, Option.bind_some, e3]; dsimp only; rw [if_pos e4], q⟩
theorem w_popAt (e0 : g[i]? = some (.ol b l')) (q : wE fe g fun r g1 => intQ r fun v => olQ i g1 fun b l => (0 ≤ v ∧ v < 100000) ∧ ∃ d, l[v.toNat]? = some d ∧ Q (.d d) (g1.set i (.ol b (l.eraseIdx v.toNat)))) : wE (ePopAt i fe) g Q := by
  obtain ⟨r, g1, e1, v, rfl, b, l, e2, ⟨h1, h2⟩, d, e3, q⟩ := q
  exact ⟨_, _, by unfold ePopAt; rw [e0]; dsimp only; rw [e1, Option.bind_some]; dsimp only; rw [e2]; dsimp only; rw [if_pos ⟨h1, h2⟩, e3], q⟩
structure ldlQ (r : R) (g : G) (K : List D → Prop) : Prop where
  ex : ∃ z, ld g r = some (.lst z) ∧ K z
theorem q_ldl {K : List D → Prop} (e : ld g r = some (.lst l)) (q : K l) : ldlQ r g K := ⟨l, e, q⟩
theorem w_ext (e0 : g[i]? = some (.ol b l')) (q : wE fe g fun r g1 => ldlQ r g1 fun z => olQ i g1 fun b l => l.length + z.length ≤ 100000 ∧ Q (.d .non) (g1.set i (.ol b (l ++ z)))) : wE (eExt i fe) g Q := by
  obtain ⟨r, g1, e1, z, e2, b, l, e3, h, q⟩ := q
  exact ⟨_, _, by unfold eExt; rw [e0]; dsimp only; rw [e1, Option.bind_some]; dsimp only; rw [e2, e3]; dsimp only; rw [if_pos h], q⟩
theorem w_ins (e0 : g[i]? = some (.ol b l')) (q : wE fu g fun r g1 => wE fe g1 fun r2 g2 => fzQ r2 g2 fun d g3 => intQ r fun v => olQ i g3 fun b l => (0 ≤ v ∧ v < 100000 ∧ l.length ≤ 100000) ∧ Q (.d .non) (g3.set i (.ol b (l.take v.toNat ++ [d] ++ l.drop v.toNat)))) : wE (eIns i fu fe) g Q := by
  obtain ⟨r, g1, e1, r2, g2, e2, d, g3, e3, v, rfl, b, l, e4, h, q⟩ := q
  exact ⟨_, _, by unfold eIns; rw [e0]; dsimp only; rw [e1, Option.bind_some, e2, Option.bind_some, e3, Option.bind_some]; dsimp only; rw [e4]; dsimp only; rw [if_pos h], q⟩
/-! ### calls -/
structure aftQ (r : R) (rs : List R) (g : G) (Q : R → G → Prop) : Prop where
  ex : ∃ g', (if noRs r = true then some g else meltAll g (lent rs)) = some g' ∧ Q r g'
theorem w_afty (e : noRs r = true) (q : Q r g) : aftQ r rs g Q := ⟨g, if_pos e, q⟩
theorem w_aft0 (e : lent rs = []) (q : Q r g) : aftQ r rs g Q := ⟨g, by rw [e]; split <;> rfl, q⟩
theorem w_c0 (q : wA fs g fun rs g1 => ldCQ rs g1 fun ds => wF F (ds.map .fz) fun r _ => aftQ r rs g1 Q) : wE (eCall0 F fs) g Q := by
  obtain ⟨rs, g1, e1, ds, e2, r, g2, e3, g3, e4, q⟩ := q
  exact ⟨r, g3, by unfold eCall0; rw [e1, Option.bind_some, e2, Option.bind_some, e3, Option.bind_some]; dsimp only; rw [e4]; rfl, q⟩
/-- a call that changes its first argument -/
def c1Q (F : G → Option (R × G)) (rs : List R) (g : G) (Q : R → G → Prop) : Prop := ∀ x, (∀ fs : G → Option (List R × G), ∀ g0, fs g0 = some (rs, g) → eCall1 F fs g0 = x) → ∃ r g', x = some (r, g') ∧ Q r g'
theorem w_c1 (q : wA fs g fun rs g1 => c1Q F rs g1 Q) : wE (eCall1 F fs) g Q := by
  obtain ⟨rs, g1, e1, q⟩ := q
  obtain ⟨r, g', e, q⟩ := q (eCall1 F (fun _ => some (rs, g1)) g1) fun fs g0 e => by unfold eCall1; rw [e]
  refine ⟨r, g', ?_, q⟩
  rw [← e]
  unfold eCall1
  rw [e1]
structure bakL (r : R) (rs : List R) (g2 : G) (K : List D → Prop) : Prop where
  ex : ∃ l' t, g2 = .ol true l' :: t ∧ ((noRs r = true ∧ noLs l' = true) ∨ lent rs = []) ∧ K l'
theorem q_bakL {K : List D → Prop} {t : G} (h : (noRs r = true ∧ noLs l' = true) ∨ lent rs = []) (q : K l') : bakL r rs (.ol true l' :: t) K := ⟨l', t, rfl, h, q⟩
structure bakO (r : R) (rs : List R) (g2 : G) (K : List Sm.F → Prop) : Prop where
  ex : ∃ kk' cs' t, g2 = .ob true kk' cs' :: t ∧ ((noRs r = true ∧ noFs cs' = true) ∨ lent rs = []) ∧ K cs'
theorem q_bakO {K : List Sm.F → Prop} {t : G} {kk : OK} {cs : List Sm.F} (h : (noRs r = true ∧ noFs cs = true) ∨ lent rs = []) (q : K cs) : bakO r rs (.ob true kk cs :: t) K := ⟨kk, cs, t, rfl, h, q⟩
theorem w_c1ol {ds : List D} (hi : i ∉ lent rs) (hg : g[i]? = some (.ol b l)) (hd : ldsC g rs = some ds) (q : wF F (.ol true l :: ds.map .fz) fun r g2 => bakL r rs g2 fun l' => Q r (g.set i (.ol b l'))) : c1Q F (.sl i :: rs) g Q := by
  intro x hx
  obtain ⟨r, g2, e1, l', t, rfl, e2, q⟩ := q
  refine ⟨r, _, ?_, q⟩
  rw [← hx (fun _ => some (.sl i :: rs, g)) g rfl]
  unfold eCall1
  rw [Option.bind_some]
  dsimp only
  rw [if_neg hi, hg]
  dsimp only
  rw [hd, Option.bind_some, e1, Option.bind_some]
  dsimp only [List.head?_cons]
  rcases e2 with e2 | e2
  · rw [if_pos e2]; rfl
  · rw [e2]
    split <;> rfl
theorem w_c1ob {ds : List D} {kk : OK} {cs : List Sm.F} (hi : i ∉ lent rs) (hg : g[i]? = some (.ob b kk cs)) (hd : ldsC g rs = some ds) (q : wF F (.ob true kk cs :: ds.map .fz) fun r g2 => bakO r rs g2 fun cs' => Q r (g.set i (.ob b kk cs'))) : c1Q F (.sl i :: rs) g Q := by
  intro x hx
  obtain ⟨r, g2, e1, kk', cs', t, rfl, e2, q⟩ := q
  refine ⟨r, _, ?_, q⟩
  rw [← hx (fun _ => some (.sl i :: rs, g)) g rfl]
  unfold eCall1
  rw [Option.bind_some]
  dsimp only
  rw [if_neg hi, hg]
  dsimp only
  rw [hd, Option.bind_some, e1, Option.bind_some]
  dsimp only [List.head?_cons]
  rcases e2 with e2 | e2
  · rw [if_pos e2]; rfl
  · rw [e2]
    split <;> rfl
/-- a def's body -/
inductive fnQ (n : Nat) (Q : R → G → Prop) : O → Prop
  | rt {r r' : R} {g : G} : retR g r = some r' → Q r' (g.take n) → fnQ n Q (.rt r g)
  | nx {g : G} : Q (.d .non) (g.take n) → fnQ n Q (.nx g)
theorem w_dM (hl : g.length = n) (q : wS s (g ++ uns (k - n)) (fnQ n Q)) : wF (dM n k s) g Q := by
  obtain ⟨o, e, q⟩ := q
  cases q with
  | rt e' q => exact ⟨_, _, by rw [dM_run hl, e, outK_rt, e']; rfl, q⟩
  | nx q => exact ⟨_, _, by rw [dM_run hl, e]; rfl, q⟩
theorem w_fnrt (e : retR g r = some r1) (q : Q r1 (g.take n)) : fnQ n Q (.rt r g) := .rt e q
theorem w_fnnx (q : Q (.d .non) (g.take n)) : fnQ n Q (.nx g) := .nx q
/-! ### composites -/
theorem w_part {kk : OK} {cs : List Sm.F} {c : Sm.F} (e0 : g[i]? = some (.ob b kk cs)) (hk : keyIs kk n κ = true) (e : cs[n]? = some c) (q : Q (Rof i c) g) : wE (ePart i n κ) g Q := ⟨_, _, by unfold ePart; rw [e0]; dsimp only; rw [if_pos hk, e]; rfl, q⟩
structure insQ (C m : Str) (n : Nat) (r : R) (g : G) (K : D → Prop) : Prop where
  ex : ∃ fs d, ld g r = some (.ins C fs) ∧ (fs.map (·.1)).Nodup ∧ fldAt fs n m = some d ∧ K d
theorem q_ins {C m : Str} {K : D → Prop} {fs : List (Str × D)} (e : ld g r = some (.ins C fs)) (nd : (fs.map (·.1)).Nodup) (e2 : fldAt fs n m = some d) (q : K d) : insQ C m n r g K := ⟨fs, d, e, nd, e2, q⟩
theorem w_fld {C m : Str} (q : wE fo g fun r g1 => insQ C m n r g1 fun d => Q (.d d) g1) : wE (eFld C n m fo) g Q := by
  obtain ⟨r, g1, e1, fs, d, e2, nd, e3, q⟩ := q
  exact ⟨_, g1, by unfold eFld; rw [e1]; dsimp only; rw [e2]; dsimp only; rw [if_pos ⟨rfl, nd⟩, e3]; rfl, q⟩
theorem w_sd {tb : List (Str × Str)} (q : wE f g fun r g1 => strQ r fun z => ∃ w, tb.lookup z = some w ∧ Q (.d (.str w)) g1) : wE (eSD tb f) g Q := by
  obtain ⟨r, g1, e1, z, rfl, w, e2, q⟩ := q
  exact ⟨_, g1, by unfold eSD; rw [e1]; dsimp only; rw [e2]; rfl, q⟩
theorem w_appP {q0 : Addr} (e0 : flAt g i n κ = some (q0, l')) (q : wE fe g fun r g1 => fzQ r g1 fun d g2 => flQ i n κ g2 fun q1 l => (q1 = q0 ∧ l.length ≤ 100000) ∧ Q (.d .non) (flSet g2 i n q0 (l ++ [d]))) : wE (eAppP i n κ fe) g Q := by
  obtain ⟨r, g1, e1, d, g2, e2, q1, l, e3, ⟨rfl, e4⟩, q⟩ := q
  exact ⟨_, _, by unfold eAppP; rw [e0]; dsimp only; rw [e1, Option.bind_some, e2, Option.bind_some, e3]; dsimp only; rw [if_pos ⟨rfl, e4⟩], q⟩
theorem w_popAtP {q0 : Addr} (e0 : flAt g i n κ = some (q0, l')) (q : wE fe g fun r g1 => intQ r fun v => flQ i n κ g1 fun q1 l => (q1 = q0 ∧ 0 ≤ v ∧ v < 100000) ∧ ∃ d, l[v.toNat]? = some d ∧ Q (.d d) (flSet g1 i n q0 (l.eraseIdx v.toNat))) : wE (ePopAtP i n κ fe) g Q := by
  obtain ⟨r, g1, e1, v, rfl, q1, l, e2, ⟨rfl, h1, h2⟩, d, e3, q⟩ := q
  exact ⟨_, _, by unfold ePopAtP; rw [e0]; dsimp only; rw [e1, Option.bind_some]; dsimp only; rw [e2]; dsimp only; rw [if_pos ⟨rfl, h1, h2⟩, e3], q⟩
theorem w_insP {q0 : Addr} (e0 : flAt g i n κ = some (q0, l')) (q : wE fu g fun r g1 => wE fe g1 fun r2 g2 => fzQ r2 g2 fun d g3 => intQ r fun v => flQ i n κ g3 fun q1 l => (q1 = q0 ∧ 0 ≤ v ∧ v < 100000 ∧ l.length ≤ 100000) ∧ Q (.d .non) (flSet g3 i n q0 (l.take v.toNat ++ [d] ++ l.drop v.toNat))) : wE (eInsP i n κ fu fe) g Q := by
  obtain ⟨r, g1, e1, r2, g2, e2, d, g3, e3, v, rfl, q1, l, e4, ⟨rfl, h⟩, q⟩ := q
  exact ⟨_, _, by unfold eInsP; rw [e0]; dsimp only; rw [e1, Option.bind_some, e2, Option.bind_some, e3, Option.bind_some]; dsimp only; rw [e4]; dsimp only; rw [if_pos ⟨rfl, h⟩], q⟩
/-! ### what is walked, targets -/
def anyQ (r : R) (g : G) (QI : List D → G → Prop) : Prop := (∃ l, r = .d (.tup l) ∧ QI l g) ∨ (∃ z : Str, r = .d (.str z) ∧ QI (z.cps.toList.map fun x => .str ⟨#[x]⟩) g) ∨ ((∀ l, r ≠ .d (.tup l)) ∧ (∀ z, r ≠ .d (.str z)) ∧ fzQ r g fun d g2 => ∃ l, seqD d = some l ∧ QI l g2)
theorem q_anyt (q : QI l g) : anyQ (.d (.tup l)) g QI := .inl ⟨l, rfl, q⟩
theorem q_anyl (q : QI l g) : anyQ (.d (.lst l)) g QI := .inr (.inr ⟨(fun _ z => nomatch z), (fun _ z => nomatch z), _, _, rfl, l, rfl, q⟩)
theorem q_anyS (q : QI l g) : anyQ (.d (.sls l)) g QI := .inr (.inr ⟨(fun _ z => nomatch z), (fun _ z => nomatch z), _, _, rfl, l, rfl, q⟩)
theorem q_anyn (q : QI l g) : anyQ (.nw l) g QI := .inr (.inr ⟨(fun _ z => nomatch z), (fun _ z => nomatch z), _, _, rfl, l, rfl, q⟩)
theorem q_anys (e : frz g (.sl i) = some (.lst l, g1)) (q : QI l g1) : anyQ (.sl i) g QI := .inr (.inr ⟨(fun _ z => nomatch z), (fun _ z => nomatch z), _, _, e, l, rfl, q⟩)
theorem w_iA (q : wE fe g fun r g1 => anyQ r g1 QI) : wI (iA fe) g QI := by
  obtain ⟨r, g1, e1, ⟨l, rfl, q⟩ | ⟨z, rfl, q⟩ | ⟨n1, n2, d, g2, e2, l, e3, q⟩⟩ := q
  · exact ⟨l, g1, by unfold iA; rw [e1], q⟩
  · exact ⟨_, g1, by unfold iA; rw [e1], q⟩
  · refine ⟨l, g2, ?_, q⟩
    unfold iA
    rw [e1]
    split
    · rename_i h; cases h; exact absurd rfl (n1 _)
    · rename_i h; cases h; exact absurd rfl (n2 _)
    · unfold iL
      rw [e1, Option.bind_some]
      dsimp only
      rw [e2, Option.bind_some]
      cases d <;> cases e3 <;> rfl
theorem w_iR1 (q : wE fe g fun r g1 => intQ r fun v => (-(2 ^ 62) ≤ v ∧ v < 2 ^ 62) ∧ QI (rangeD 0 v.toNat) g1) : wI (iR1 fe) g QI := by
  obtain ⟨r, g1, e1, v, rfl, h, q⟩ := q
  exact ⟨_, g1, by unfold iR1; rw [e1, Option.bind_some]; dsimp only; rw [if_pos h], q⟩
theorem w_iR2 (q : wE fa g fun r g1 => wE fe g1 fun r2 g2 => intQ r fun u => intQ r2 fun v => (-(2 ^ 62) ≤ v ∧ v < 2 ^ 62 ∧ -(2 ^ 62) ≤ u ∧ u < 2 ^ 62) ∧ QI (rangeD u (v - u).toNat) g2) : wI (iR2 fa fe) g QI := by
  obtain ⟨r, g1, e1, r2, g2, e2, u, rfl, v, rfl, h, q⟩ := q
  exact ⟨_, g2, by unfold iR2; rw [e1, Option.bind_some]; dsimp only; rw [e2, Option.bind_some]; dsimp only; rw [if_pos h], q⟩
theorem w_iEn (q : wE fe g fun r g1 => fzQ r g1 fun d g2 => seqDQ d fun l => QI (enumD l) g2) : wI (iEn fe) g QI := by
  obtain ⟨r, g1, e1, d, g2, e2, l, e3, q⟩ := q
  refine ⟨_, g2, ?_, q⟩
  have : iL fe g = some (l, g2) := by
    unfold iL
    rw [e1, Option.bind_some]
    dsimp only
    rw [e2, Option.bind_some]
    cases d <;> cases e3 <;> rfl
  unfold iEn
  rw [this]; rfl
structure twoQ (ds : List D) (K : List D → List D → Prop) : Prop where
  ex : ∃ l l', ds = [.lst l, .lst l'] ∧ K l l'
theorem q_two {K : List D → List D → Prop} (q : K l l') : twoQ [.lst l, .lst l'] K := ⟨l, l', rfl, q⟩
theorem w_iZ (q : wE fa g fun r g1 => wE fe g1 fun r2 g2 => frQ [r, r2] g2 fun ds g3 => twoQ ds fun l l' => QI (zipD l l') g3) : wI (iZ fa fe) g QI := by
  obtain ⟨r, g1, e1, r2, g2, e2, ds, g3, e3, l, l', rfl, q⟩ := q
  exact ⟨_, g3, by unfold iZ; rw [e1, Option.bind_some, e2, Option.bind_some]; dsimp only; rw [e3]; rfl, q⟩
theorem w_gN (hn : notT g i = true) (q : QG (g.set i (.fz d))) : wG (gN i) d g QG := ⟨_, by unfold gN; rw [if_pos hn], q⟩
theorem w_gT (hl : l.length = n) (q : wGs gs l g QG) : wG (gT n gs) (.tup l) g QG := by
  obtain ⟨g', e, q⟩ := q
  exact ⟨g', by unfold gT; dsimp only; rw [if_pos hl]; exact e, q⟩
theorem w_g0 (q : QG g) : wGs gNil' [] g QG := ⟨g, rfl, q⟩
theorem w_g1 (q : wG gf d g fun g1 => wGs gs l g1 QG) : wGs (gCons' gf gs) (d :: l) g QG := by
  obtain ⟨g1, e1, g2, e2, q⟩ := q
  exact ⟨g2, by unfold gCons'; dsimp only; rw [e1]; exact e2, q⟩
theorem w_gStar (hi : notT g i = true) (hj : notT (g.set i (.fz x)) j = true) (q : QG ((g.set i (.fz x)).set j (.ol false l))) : wG (gStar i j) (.tup (x :: l)) g QG := ⟨_, by unfold gStar; dsimp only; rw [if_pos ⟨hi, hj⟩], q⟩
/-! ### statements -/
inductive seqQ (s' : G → Option O) (Q : O → Prop) : O → Prop
  | nx {g : G} : wS s' g Q → seqQ s' Q (.nx g)
  | rt {r : R} {g : G} : Q (.rt r g) → seqQ s' Q (.rt r g)
  | ct {g : G} : Q (.ct g) → seqQ s' Q (.ct g)
  | bk {g : G} : Q (.bk g) → seqQ s' Q (.bk g)
  | xc {C : Str} {x : D} {g : G} : Q (.xc C x g) → seqQ s' Q (.xc C x g)
theorem w_seq (q : wS s g (seqQ s' QS)) : wS (sSeq s s') g QS := by
  obtain ⟨o, e, q⟩ := q
  cases q with
  | nx q =>
    obtain ⟨o', e', q⟩ := q
    exact ⟨o', by unfold sSeq; rw [e]; exact e', q⟩
  | bk q => exact ⟨_, by unfold sSeq; rw [e]; rfl, q⟩
  | ct q => exact ⟨_, by unfold sSeq; rw [e]; rfl, q⟩
  | rt q => exact ⟨_, by unfold sSeq; rw [e]; rfl, q⟩
  | xc q => exact ⟨_, by unfold sSeq; rw [e]; rfl, q⟩
theorem sq_nx (q : wS s' g QS) : seqQ s' QS (.nx g) := .nx q
theorem sq_rt (q : QS (.rt r g)) : seqQ s' QS (.rt r g) := .rt q
theorem sq_ct (q : QS (.ct g)) : seqQ s' QS (.ct g) := .ct q
theorem sq_xc {C : Str} (q : QS (.xc C x g)) : seqQ s' QS (.xc C x g) := .xc q
theorem w_next (q : QS (.nx g)) : wS sNext g QS := ⟨_, rfl, q⟩
theorem w_cont (q : QS (.ct g)) : wS sCont g QS := ⟨_, rfl, q⟩
theorem w_expr (q : wE f g fun _ g1 => QS (.nx g1)) : wS (sExpr f) g QS := by
  obtain ⟨r, g1, e, q⟩ := q
  exact ⟨_, by unfold sExpr; rw [e]; rfl, q⟩
theorem w_ret (q : wE f g fun r g1 => QS (.rt r g1)) : wS (sRet f) g QS := by
  obtain ⟨r, g1, e, q⟩ := q
  exact ⟨_, by unfold sRet; rw [e]; rfl, q⟩
theorem w_retN (q : QS (.rt (.d .non) g)) : wS sRetN g QS := ⟨_, rfl, q⟩
theorem w_sif (q : wT ft g fun b g1 => (b = true → wS s g1 QS) ∧ (b = false → wS s' g1 QS)) : wS (sIf ft s s') g QS := by
  obtain ⟨b, g1, e1, q1, q2⟩ := q
  cases b with
  | true => obtain ⟨o, e2, q⟩ := q1 rfl; exact ⟨o, by unfold sIf; rw [e1]; exact e2, q⟩
  | false => obtain ⟨o, e2, q⟩ := q2 rfl; exact ⟨o, by unfold sIf; rw [e1]; exact e2, q⟩
structure asgQ (i : Nat) (r : R) (g : G) (Q : O → Prop) : Prop where
  ex : ∃ g', stS i r g = some g' ∧ Q (.nx g')
theorem w_asg (q : wE f g fun r g1 => asgQ i r g1 QS) : wS (sAsg i f) g QS := by
  obtain ⟨r, g1, e, g2, e2, q⟩ := q
  exact ⟨_, by unfold sAsg; rw [e, Option.bind_some]; dsimp only; rw [e2]; rfl, q⟩
theorem w_asn (hn : notT g i = true) (q : QS (.nx (g.set i (.ol false l)))) : asgQ i (.nw l) g QS := ⟨_, by unfold stS; dsimp only; rw [if_pos hn], q⟩
theorem w_asd (hn : notT g i = true) (q : QS (.nx (g.set i (.fz d)))) : asgQ i (.d d) g QS := ⟨_, by unfold stS frz; dsimp only; rw [Option.bind_some]; dsimp only; rw [if_pos hn], q⟩
theorem w_ass (e : frz g (.sl j) = some (d, g1)) (hn : notT g1 i = true) (q : QS (.nx (g1.set i (.fz d)))) : asgQ i (.sl j) g QS := ⟨_, by unfold stS; dsimp only; rw [e, Option.bind_some]; dsimp only; rw [if_pos hn], q⟩
theorem w_asgT (q : wE f g fun r g1 => fzQ r g1 fun d g2 => wG gf d g2 fun g3 => QS (.nx g3)) : wS (sAsgT gf f) g QS := by
  obtain ⟨r, g1, e, d, g2, e2, g3, e3, q⟩ := q
  exact ⟨_, by unfold sAsgT; rw [e, Option.bind_some, e2, Option.bind_some, e3]; rfl, q⟩
structure rsQ (rs : List R) (K : R → R → Prop) : Prop where
  ex : ∃ r1 r2, rs = [r1, r2] ∧ K r1 r2
theorem q_rs {K : R → R → Prop} (q : K r1 r2) : rsQ [r1, r2] K := ⟨r1, r2, rfl, q⟩
theorem w_par (q : wA fs g fun rs g1 => rsQ rs fun r1 r2 => fzQ r1 g1 fun d1 g2 => fzQ r2 g2 fun d2 g3 => (notT g3 i = true ∧ notT g3 j = true) ∧ QS (.nx ((g3.set i (.fz d1)).set j (.fz d2)))) : wS (sPar i j fs) g QS := by
  obtain ⟨rs, g1, e, r1, r2, rfl, d1, g2, e2, d2, g3, e3, h, q⟩ := q
  exact ⟨_, by unfold sPar; rw [e, Option.bind_some]; dsimp only; rw [e2, Option.bind_some, e3, Option.bind_some, if_pos h], q⟩
theorem w_parO (q : wE fa g fun r g1 => nwQ r fun l => wE fb g1 fun r2 g2 => fzQ r2 g2 fun d g3 => (notT g3 i = true ∧ notT g3 j = true) ∧ QS (.nx ((g3.set i (.ol false l)).set j (.fz d)))) : wS (sParO i j fa fb) g QS := by
  obtain ⟨r, g1, e, l, rfl, r2, g2, e2, d, g3, e3, h, q⟩ := q
  exact ⟨_, by unfold sParO; rw [e, Option.bind_some]; dsimp only; rw [e2, Option.bind_some, e3, Option.bind_some, if_pos h], q⟩
theorem w_parN (q : wE fa g fun r g1 => dQ r fun d => wE fb g1 fun r2 g2 => nwQ r2 fun l => (notT g2 i = true ∧ notT (g2.set i (.fz d)) j = true) ∧ QS (.nx ((g2.set i (.fz d)).set j (.ol false l)))) : wS (sParN i j fa fb) g QS := by
  obtain ⟨r1, g1, e1, d, rfl, r2, g2, e2, l, rfl, h, q⟩ := q
  exact ⟨_, by unfold sParN; rw [e1, Option.bind_some]; dsimp only; rw [e2, Option.bind_some]; dsimp only; rw [if_pos ⟨h.1, by
    obtain ⟨h1, h2⟩ := h
    unfold notT at h2 ⊢
    by_cases e : i = j
    · subst e; exact h1
    · rw [List.getElem?_set_ne e] at h2; exact h2⟩], q⟩
structure ds3Q (rs : List R) (K : D → D → D → Prop) : Prop where
  ex : ∃ x y z, rs = [.d x, .d y, .d z] ∧ K x y z
theorem q_ds3 {K : D → D → D → Prop} {x y z : D} (q : K x y z) : ds3Q [.d x, .d y, .d z] K := ⟨x, y, z, rfl, q⟩
theorem w_par3 (q : wA fs g fun rs g1 => ds3Q rs fun x y z => notT g1 i = true ∧ notT g1 j = true ∧ notT g1 k = true ∧ QS (.nx (((g1.set i (.fz x)).set j (.fz y)).set k (.fz z)))) : wS (sPar3 i j k fs) g QS := by
  obtain ⟨rs, g1, e1, x, y, z, rfl, h1, h2, h3, q⟩ := q
  exact ⟨_, by unfold sPar3; rw [e1, Option.bind_some]; dsimp only; rw [if_pos ⟨h1, h2, h3⟩], q⟩
structure augQ (h : D → D → Option R) (v : Int) (r : R) (g : G) (K : D → Prop) : Prop where
  ex : ∃ d x, ld g r = some d ∧ h (.int v) d = some (.d x) ∧ K x
theorem q_aug {v : Int} {K : D → Prop} (e : ld g r = some d) (e2 : h (.int v) d = some (.d x)) (q : K x) : augQ h v r g K := ⟨d, x, e, e2, q⟩
theorem w_aug {v : Int} (e0 : g[i]? = some (.fz (.int v))) (q : wE f g fun r g1 => augQ h v r g1 fun x => notT g1 i = true ∧ QS (.nx (g1.set i (.fz x)))) : wS (sAug i h f) g QS := by
  obtain ⟨r, g1, e, d, x, e2, e3, hn, q⟩ := q
  exact ⟨_, by unfold sAug; rw [e0]; dsimp only; rw [e, Option.bind_some]; dsimp only; rw [e2, Option.bind_some, e3]; dsimp only; rw [if_pos hn], q⟩
theorem w_six (q : wE fe g fun r g1 => fzQ r g1 fun d g2 => olQ i g2 fun _ _ => wE fu g2 fun r2 g3 => intQ r2 fun v => olQ i g3 fun b l => ∃ j, ixN l.length v = some j ∧ QS (.nx (g3.set i (.ol b (l.set j d))))) : wS (sSetIx i fu fe) g QS := by
  obtain ⟨r, g1, e, d, g2, e2, b0, l0, e3, r2, g3, e4, v, rfl, b, l, e5, j, e6, q⟩ := q
  exact ⟨_, by unfold sSetIx; rw [e, Option.bind_some, e2, Option.bind_some, e3]; dsimp only; rw [e4, Option.bind_some]; dsimp only; rw [e5]; dsimp only; rw [e6], q⟩
theorem w_put (q : wE fe g fun r g1 => fzQ r g1 fun d g2 => obQ i g2 fun b kk cs => (keyIs kk n κ = true ∧ n < cs.length ∧ cs.length ≤ 900) ∧ QS (.nx (g2.set i (.ob b kk (cs.set n (.fd d)))))) : wS (sPut i n κ fe) g QS := by
  obtain ⟨r, g1, e, d, g2, e2, b, kk, cs, e3, h, q⟩ := q
  exact ⟨_, by unfold sPut; rw [e, Option.bind_some, e2, Option.bind_some, e3]; dsimp only; rw [if_pos h], q⟩
theorem w_augP {kk : OK} {cs : List Sm.F} {v : Int} (e0 : g[i]? = some (.ob b kk cs)) (e1 : cs[n]? = some (.fd (.int v))) (hk : keyIs kk n κ = true) (q : wE fe g fun r g1 => intQ r fun w => obQ i g1 fun b' kk' cs' => (keyIs kk' n κ = true ∧ n < cs'.length ∧ cs'.length ≤ 900) ∧ QS (.nx (g1.set i (.ob b' kk' (cs'.set n (.fd (.int (v + w)))))))) : wS (sAugP i n κ fe) g QS := by
  obtain ⟨r, g1, e, w, rfl, b', kk', cs', e2, h, q⟩ := q
  exact ⟨_, by unfold sAugP; rw [e0]; dsimp only; rw [e1]; dsimp only; rw [if_pos hk, e]; dsimp only; rw [e2]; dsimp only; rw [if_pos h], q⟩
theorem w_sixP (q : wE fe g fun r g1 => fzQ r g1 fun d g2 => flQ i n κ g2 fun q0 _ => wE fu g2 fun r2 g3 => intQ r2 fun v => flQ i n κ g3 fun q1 l => q1 = q0 ∧ ∃ j, ixN l.length v = some j ∧ QS (.nx (flSet g3 i n q0 (l.set j d)))) : wS (sSetIxP i n κ fu fe) g QS := by
  obtain ⟨r, g1, e, d, g2, e2, q0, l0, e3, r2, g3, e4, v, rfl, q1, l, e5, rfl, j, e6, q⟩ := q
  exact ⟨_, by unfold sSetIxP; rw [e, Option.bind_some, e2, Option.bind_some, e3]; dsimp only; rw [e4, Option.bind_some]; dsimp only; rw [e5]; dsimp only; rw [if_pos rfl, e6], q⟩
/-! ### loops -/
inductive turnQ (P : G → Prop) (Q : O → Prop) : O → Prop
  | nx {g : G} : P g → turnQ P Q (.nx g)
  | ct {g : G} : P g → turnQ P Q (.ct g)
  | bk {g : G} : Q (.nx g) → turnQ P Q (.bk g)
  | rt {r : R} {g : G} : Q (.rt r g) → turnQ P Q (.rt r g)
  | xc {C : Str} {x : D} {g : G} : Q (.xc C x g) → turnQ P Q (.xc C x g)
theorem tq_nx {P : G → Prop} (q : P g) : turnQ P QS (.nx g) := .nx q
theorem tq_ct {P : G → Prop} (q : P g) : turnQ P QS (.ct g) := .ct q
theorem tq_rt {P : G → Prop} (q : QS (.rt r g)) : turnQ P QS (.rt r g) := .rt q
structure forQ (gf : D → G → Option G) (s : G → Option O) (l : List D) (g : G) (Q : O → Prop) : Prop where
  ex : ∃ o, forL gf s l g = some o ∧ Q o
theorem w_for (q : wI fi g fun l g1 => forQ gf s l g1 QS) : wS (sFor fi gf s) g QS := by
  obtain ⟨l, g1, e, o, e2, q⟩ := q
  exact ⟨o, by unfold sFor; rw [e]; exact e2, q⟩
theorem for_wp {L : List D} (P : List D → G → Prop) (hs : ∀ pr d rest g, L = pr ++ d :: rest → P pr g → wG gf d g fun g1 => wS s g1 (turnQ (P (pr ++ [d])) QS)) (he : ∀ g, P L g → QS (.nx g)) : ∀ {l pr : List D} {g : G}, L = pr ++ l → P pr g → forQ gf s l g QS
  | [], pr, g, e, h => ⟨_, rfl, he g (by rw [e, List.append_nil]; exact h)⟩
  | d :: l, pr, g, e, h => by
    obtain ⟨g1, e1, o, e2, q⟩ := hs pr d l g e h
    cases q with
    | nx q =>
      obtain ⟨o', e3, q'⟩ := for_wp P hs he (by rw [e, List.append_assoc]; rfl) q
      exact ⟨o', by unfold forL; rw [e1, Option.bind_some, e2]; exact e3, q'⟩
    | ct q =>
      obtain ⟨o', e3, q'⟩ := for_wp P hs he (by rw [e, List.append_assoc]; rfl) q
      exact ⟨o', by unfold forL; rw [e1, Option.bind_some, e2]; exact e3, q'⟩
    | bk q => exact ⟨_, by unfold forL; rw [e1, Option.bind_some, e2]; rfl, q⟩
    | rt q => exact ⟨_, by unfold forL; rw [e1, Option.bind_some, e2]; rfl, q⟩
    | xc q => exact ⟨_, by unfold forL; rw [e1, Option.bind_some, e2]; rfl, q⟩
/-- a for by its invariant: what is walked is done, the state -/
theorem for_by (P : List D → G → Prop) (h0 : P [] g) (hs : ∀ pr d rest g, l = pr ++ d :: rest → P pr g → wG gf d g fun g1 => wS s g1 (turnQ (P (pr ++ [d])) QS)) (he : ∀ g, P l g → QS (.nx g)) : forQ gf s l g QS := for_wp (L := l) P hs he (pr := []) rfl h0
/-- a for whose items matter only by a property, whose invariant counts the turns -/
theorem for_n (P : Nat → G → Prop) (h0 : P 0 g) (hs : ∀ m d g, m < l.length → d ∈ l → P m g → wG gf d g fun g1 => wS s g1 (turnQ (P (m + 1)) QS)) (he : ∀ g, P l.length g → QS (.nx g)) : forQ gf s l g QS :=
  for_by (fun pr g => P pr.length g) h0 (fun pr d rest g e h => by
    have hm : pr.length < l.length := by rw [e, List.length_append, List.length_cons]; omega
    have := hs pr.length d g hm (by rw [e]; simp) h
    rw [List.length_append]
    exact this) he
theorem w_while (P : Nat → G → Prop) (hs : ∀ m g, P m g → wT ft g fun b g1 => (b = false → QS (.nx g1)) ∧ (b = true → wS s g1 (turnQ (fun g2 => ∃ m', m' < m ∧ P m' g2) QS))) : ∀ {n : Nat} {g : G}, P n g → wS (sWhile ft s) g QS := by
  have key : ∀ n g, P n g → ∃ k o, whL ft s k g = some o ∧ QS o := by
    intro n
    induction n using Nat.strongRecOn with
    | _ n ih =>
      intro g h
      obtain ⟨b, g1, e1, q1, q2⟩ := hs n g h
      cases b with
      | false => exact ⟨1, _, by unfold whL; rw [e1]; rfl, q1 rfl⟩
      | true =>
        obtain ⟨o, e2, q⟩ := q2 rfl
        cases q with
        | nx q =>
          obtain ⟨m', hm, hp⟩ := q
          obtain ⟨k, o', e3, q'⟩ := ih m' hm _ hp
          exact ⟨k + 1, o', by unfold whL; rw [e1, Option.bind_some]; dsimp only; rw [if_pos rfl, e2]; exact e3, q'⟩
        | ct q =>
          obtain ⟨m', hm, hp⟩ := q
          obtain ⟨k, o', e3, q'⟩ := ih m' hm _ hp
          exact ⟨k + 1, o', by unfold whL; rw [e1, Option.bind_some]; dsimp only; rw [if_pos rfl, e2]; exact e3, q'⟩
        | bk q => exact ⟨1, _, by unfold whL; rw [e1, Option.bind_some]; dsimp only; rw [if_pos rfl, e2]; rfl, q⟩
        | rt q => exact ⟨1, _, by unfold whL; rw [e1, Option.bind_some]; dsimp only; rw [if_pos rfl, e2]; rfl, q⟩
        | xc q => exact ⟨1, _, by unfold whL; rw [e1, Option.bind_some]; dsimp only; rw [if_pos rfl, e2]; rfl, q⟩
  intro n g h
  obtain ⟨k, o, e, q⟩ := key n g h
  exact ⟨o, sWhile_of e, q⟩
/-! ### comprehensions -/
structure lcQ (gf : D → G → Option G) (ft : G → Option (Bool × G)) (fe : G → Option (R × G)) (vs : List Nat) (l : List D) (g : G) (Q : List D → G → Prop) : Prop where
  ex : ∃ out g', lcL gf ft fe vs l g = some (out, g') ∧ Q out g'
theorem w_lc (q : wI fi g fun l g1 => (notOl g1 vs = true ∧ l.length ≤ 100000) ∧ lcQ gf ft fe vs l (wipeG g1 vs) fun out g2 => Q (.nw out) (restG g2 g1 vs)) : wE (eLc fi gf ft fe vs) g Q := by
  obtain ⟨l, g1, e, h, out, g2, e2, q⟩ := q
  exact ⟨_, _, by unfold eLc; rw [e, Option.bind_some]; dsimp only; rw [if_pos h, e2]; rfl, q⟩
theorem lcQ.eq {out : List D} (e : lcL gf ft fe vs l g = some (out, g1)) (q : QI out g1) : lcQ gf ft fe vs l g QI := ⟨_, _, e, q⟩
theorem lc_wp {L : List D} (P : List D → List D → G → Prop) (hs : ∀ pr d rest acc g, L = pr ++ d :: rest → P pr acc g → wG gf d g fun g1 => wT ft g1 fun b g2 => (b = true → wE fe g2 fun r g3 => fzQ r g3 fun x g4 => P (pr ++ [d]) (acc ++ [x]) (wipeG g4 vs)) ∧ (b = false → P (pr ++ [d]) acc (wipeG g2 vs))) :
    ∀ {l pr acc : List D} {g : G}, L = pr ++ l → P pr acc g → ∃ out g', lcL gf ft fe vs l g = some (out, g') ∧ P L (acc ++ out) g'
  | [], pr, acc, g, e, h => ⟨[], g, rfl, by rw [List.append_nil, e, List.append_nil]; exact h⟩
  | d :: l, pr, acc, g, e, h => by
    obtain ⟨g1, e1, b, g2, e2, q1, q2⟩ := hs pr d l acc g e h
    cases b with
    | true =>
      obtain ⟨r, g3, e3, x, g4, e4, q⟩ := q1 rfl
      obtain ⟨out, g', e5, q'⟩ := lc_wp P hs (by rw [e, List.append_assoc]; rfl) q
      refine ⟨x :: out, g', ?_, by rw [List.append_assoc] at q'; exact q'⟩
      unfold lcL
      rw [e1, Option.bind_some, e2, Option.bind_some]
      dsimp only
      rw [if_pos rfl, e3, Option.bind_some, e4, Option.bind_some]
      dsimp only
      rw [e5]; rfl
    | false =>
      obtain ⟨out, g', e5, q'⟩ := lc_wp P hs (by rw [e, List.append_assoc]; rfl) (q2 rfl)
      refine ⟨out, g', ?_, q'⟩
      unfold lcL
      rw [e1, Option.bind_some, e2, Option.bind_some]
      dsimp only
      rw [if_neg Bool.false_ne_true, e5]
/-- a comprehension by its invariant -/
theorem lc_by (P : List D → List D → G → Prop) (h0 : P [] [] g) (hs : ∀ pr d rest acc g, l = pr ++ d :: rest → P pr acc g → wG gf d g fun g1 => wT ft g1 fun b g2 => (b = true → wE fe g2 fun r g3 => fzQ r g3 fun x g4 => P (pr ++ [d]) (acc ++ [x]) (wipeG g4 vs)) ∧ (b = false → P (pr ++ [d]) acc (wipeG g2 vs)))
    (he : ∀ out g, P l out g → QI out g) : lcQ gf ft fe vs l g QI := by
  obtain ⟨out, g', e, q⟩ := lc_wp (L := l) P hs (pr := []) (acc := []) rfl h0
  exact ⟨out, g', e, he out g' q⟩
theorem w_yes (q : QB true g) : wT tYesG g QB := ⟨_, _, rfl, q⟩
/-! ### exceptions -/
theorem w_raise {C : Str} (q : wE f g fun r g1 => fzQ r g1 fun d g2 => QS (.xc C d g2)) : wS (sRaise C f) g QS := by
  obtain ⟨r, g1, e, d, g2, e2, q⟩ := q
  exact ⟨_, by unfold sRaise; rw [e, Option.bind_some, e2]; rfl, q⟩
inductive cxQ (ret : Bool) (rs : List R) (g : G) (QS : O → Prop) : RX → Prop
  | ok {r : R} {g2 : G} : (aftQ r rs g fun r g1 => QS (match ret with | true => .rt r g1 | false => .nx g1)) → cxQ ret rs g QS (.ok r g2)
  | xc {C : Str} {x : D} {g2 : G} : noL x = true → QS (.xc C x g) → cxQ ret rs g QS (.xc C x g2)
theorem w_callX {ret : Bool} (q : wA fs g fun rs g1 => ldCQ rs g1 fun ds => wX X (ds.map .fz) (cxQ ret rs g1 QS)) : wS (sCallX ret X fs) g QS := by
  obtain ⟨rs, g1, e1, ds, e2, rx, e3, q⟩ := q
  cases q with
  | ok q =>
    obtain ⟨g3, e4, q⟩ := q
    exact ⟨_, by unfold sCallX; rw [e1, Option.bind_some, e2, Option.bind_some, e3, Option.bind_some]; dsimp only; rw [e4]; rfl, q⟩
  | xc h q =>
    exact ⟨_, by unfold sCallX; rw [e1, Option.bind_some, e2, Option.bind_some, e3, Option.bind_some]; dsimp only; rw [if_pos h], q⟩
inductive fnXQ (n : Nat) (Q : RX → Prop) : O → Prop
  | rt {r r' : R} {g : G} : retR g r = some r' → Q (.ok r' (g.take n)) → fnXQ n Q (.rt r g)
  | nx {g : G} : Q (.ok (.d .non) (g.take n)) → fnXQ n Q (.nx g)
  | xc {C : Str} {x : D} {g : G} : Q (.xc C x (g.take n)) → fnXQ n Q (.xc C x g)
theorem w_dX {QX : RX → Prop} (hl : g.length = n) (q : wS s (g ++ uns (k - n)) (fnXQ n QX)) : wX (dX n k s) g QX := by
  obtain ⟨o, e, q⟩ := q
  cases q with
  | rt e' q => exact ⟨_, by rw [dX_run hl, e, outX_rt, e']; rfl, q⟩
  | nx q => exact ⟨_, by rw [dX_run hl, e]; rfl, q⟩
  | xc q => exact ⟨_, by rw [dX_run hl, e]; rfl, q⟩
theorem wX.eq {rx : RX} {QX : RX → Prop} (e : X g = some rx) (q : QX rx) : wX X g QX := ⟨rx, e, q⟩
structure unQ (i : Nat) (Q : O → Prop) (o : O) : Prop where
  ex : ∃ o', unX i o = some o' ∧ Q o'
inductive tryQ (i : Nat) (cl : List Str) (S : Str → G → Option O) (Q : O → Prop) : O → Prop
  | xc {C : Str} {x : D} {g : G} : (notT g i = true ∧ noXs g = true ∧ C ∈ cl) → wS (S C) (g.set i (.xs x)) (unQ i Q) → tryQ i cl S Q (.xc C x g)
  | nx {g : G} : Q (.nx g) → tryQ i cl S Q (.nx g)
  | rt {r : R} {g : G} : Q (.rt r g) → tryQ i cl S Q (.rt r g)
theorem uq_nx (e : unX i (.nx g) = some (.nx g1)) (q : QS (.nx g1)) : unQ i QS (.nx g) := ⟨_, e, q⟩
theorem uq_rt (e : unX i (.rt r g) = some (.rt r g1)) (q : QS (.rt r g1)) : unQ i QS (.rt r g) := ⟨_, e, q⟩
theorem w_try {cl : List Str} {S : Str → G → Option O} (q : wS s g (tryQ i cl S QS)) : wS (sTry i cl s S) g QS := by
  obtain ⟨o, e, q⟩ := q
  cases q with
  | xc h q =>
    obtain ⟨o2, e2, o3, e3, q⟩ := q
    exact ⟨o3, by unfold sTry; rw [e, Option.bind_some]; dsimp only; rw [if_pos h, e2]; exact e3, q⟩
  | nx q => exact ⟨_, by unfold sTry; rw [e]; rfl, q⟩
  | rt q => exact ⟨_, by unfold sTry; rw [e]; rfl, q⟩
theorem w_xv (e : g[i]? = some (.xs d)) (q : Q (.d d) g) : wE (eXv i) g Q := ⟨_, _, by unfold eXv; rw [e], q⟩
theorem w_is {bb : Bool} (e : g[i]? = some (.xs d)) (q : Q (.d (.bl bb)) g) : wE (eIs i bb) g Q := ⟨_, _, by unfold eIs; rw [e], q⟩
/-! ### composites made -/
end
end Sm

namespace Sm
open PySem L2
theorem o_mod {p q : Int} (h : 0 < q) : modD (.int p) (.int q) = some (.d (.int (p % q))) := by rw [mod_i, if_pos h]
theorem o_div {p q : Int} (h : 0 < q) (h2 : q.natAbs.log2 < 9000) : divD (.int p) (.int q) = some (.d (.int (p / q))) := by rw [div_i, if_pos ⟨h, h2⟩]
theorem o_ixl {l : List D} {p : Int} {d : D} (h : atI l p = some d) : ixD (.lst l) (.int p) = some (.d d) := by rw [ix_l, h]; rfl
theorem o_ixt {l : List D} {p : Int} {d : D} (h : atI l p = some d) : ixD (.tup l) (.int p) = some (.d d) := by rw [ix_t, h]; rfl
theorem o_ixs {l : List D} {p : Int} {d : D} (h : atI l p = some d) : ixD (.sls l) (.int p) = some (.d d) := by rw [ix_s, h]; rfl
theorem o_pow18 : powD (.int 10) (.int 18) = some (.d (.int 1000000000000000000)) := rfl
theorem o_pow29 : powD (.int 10) (.int 29) = some (.d (.int 100000000000000000000000000000)) := rfl
theorem o_pow30 : powD (.int 10) (.int 30) = some (.d (.int 1000000000000000000000000000000)) := rfl
theorem o_pow15 : powD (.int 10) (.int 15) = some (.d (.int 1000000000000000)) := rfl
theorem o_pow61 : powD (.int 2) (.int 61) = some (.d (.int 2305843009213693952)) := rfl
theorem o_addl {a b : List D} (h : a.length + b.length ≤ sizeLine) : addD (.lst a) (.lst b) = some (.nw (a ++ b)) := by rw [add_l, if_pos h]
/-- a slot that holds nothing that is watched -/
def Jk (s : Slot) : Prop := notTK (some s) = true ∧ noX1 s = true
def Jf (s : Slot) : Prop := s = .un ∨ ∃ d, s = .fz d
theorem jk_nt {s : Slot} (h : Jk s) : notTK (some s) = true := h.1
theorem lent_no {rs : List R} {i : Nat} (h : lent rs = []) : i ∉ lent rs := by rw [h]; exact fun z => nomatch z
theorem jk_un : Jk .un := ⟨rfl, rfl⟩
theorem jk_fz {d : D} : Jk (.fz d) := ⟨rfl, rfl⟩
theorem jk_ol {l : List D} : Jk (.ol false l) := ⟨rfl, rfl⟩
theorem Jf.jk {s : Slot} (h : Jf s) : Jk s := by rcases h with rfl | ⟨d, rfl⟩ <;> exact ⟨rfl, rfl⟩
theorem le_and {l : List D} {P : Prop} (h : l.length ≤ 1000) (p : P) : l.length ≤ 1000 ∧ P := ⟨h, p⟩
theorem nt_and {g g' : G} {i j : Nat} {P : Prop} (h : notT g i = true) (h' : notT g' j = true) (p : P) : (notT g i = true ∧ notT g' j = true) ∧ P := ⟨⟨h, h'⟩, p⟩
theorem range_at {n : Nat} {pr rest : List D} {d : D} (e : rangeD 0 n = pr ++ d :: rest) : d = .int (pr.length : Nat) ∧ pr.length < n := by
  have hl : pr.length < n := by
    have := congrArg List.length e
    rw [show (rangeD 0 n).length = n by simp [rangeD], List.length_append, List.length_cons] at this
    omega
  have h : (rangeD 0 n)[pr.length]? = some d := by rw [e, List.getElem?_append_right (Nat.le_refl _), Nat.sub_self]; rfl
  unfold rangeD at h
  rw [List.getElem?_map, List.getElem?_range hl, Option.map_some, Option.some.injEq] at h
  exact ⟨by rw [← h, Int.zero_add], hl⟩
theorem enum_at {l pr rest : List D} {d : D} (e : enumD l = pr ++ d :: rest) : ∃ x, d = .tup [.int (pr.length : Nat), x] ∧ l[pr.length]? = some x := by
  have h : (enumD l)[pr.length]? = some d := by rw [e, List.getElem?_append_right (Nat.le_refl _), Nat.sub_self]; rfl
  unfold enumD at h
  rw [List.getElem?_map, List.getElem?_zipIdx, Option.map_map] at h
  obtain ⟨x, hx, rfl⟩ := Option.map_eq_some_iff.mp h
  exact ⟨x, by show D.tup [.int ((0 + pr.length : Nat) : Int), x] = _; rw [Nat.zero_add], hx⟩
theorem inF_s {c : Str} {L : List Str} : inF (.str c) (L.map D.str) = decide (c ∈ L) := by
  induction L with
  | nil => rfl
  | cons a L ih =>
    unfold inF at ih ⊢
    rw [List.map_cons, List.any_cons, ih]
    show (a == c || _) = _
    by_cases h : a = c
    · subst h; rw [decide_eq_true List.mem_cons_self, beq_self_eq_true]; rfl
    · rw [beq_eq_false_iff_ne.mpr h, Bool.false_or]
      exact decide_eq_decide.mpr ⟨List.mem_cons_of_mem _, fun z => (List.mem_cons.mp z).resolve_left (Ne.symm h)⟩
theorem in_tup {c : Str} {L : List Str} : cIn (.str c) (.tup (L.map D.str)) = some (.d (.bl (decide (c ∈ L)))) := by
  have h : (L.map D.str).all flatD = true := by
    rw [List.all_map]; exact List.all_eq_true.mpr fun _ _ => rfl
  unfold cIn inD
  dsimp only
  rw [if_pos ⟨rfl, h⟩, inF_s]; rfl
theorem in2 {c a b : Str} : cIn (.str c) (.tup [.str a, .str b]) = some (.d (.bl (decide (c ∈ [a, b])))) := in_tup (L := [a, b])
theorem in3 {c a b d : Str} : cIn (.str c) (.tup [.str a, .str b, .str d]) = some (.d (.bl (decide (c ∈ [a, b, d])))) := in_tup (L := [a, b, d])
theorem in4 {c a b d e : Str} : cIn (.str c) (.tup [.str a, .str b, .str d, .str e]) = some (.d (.bl (decide (c ∈ [a, b, d, e])))) := in_tup (L := [a, b, d, e])
theorem nt1_and {g : G} {i : Nat} {P : Prop} (h : notT g i = true) (p : P) : notT g i = true ∧ P := ⟨h, p⟩
theorem isN_i {i : Int} : cIsN (.int i) .non = some (.d (.bl true)) := rfl
theorem isN_s {i : Str} : cIsN (.str i) .non = some (.d (.bl true)) := rfl
theorem isN_t {i : List D} : cIsN (.tup i) .non = some (.d (.bl true)) := rfl
theorem is_i {i : Int} : cIs (.int i) .non = some (.d (.bl false)) := rfl
theorem is_s {i : Str} : cIs (.str i) .non = some (.d (.bl false)) := rfl
theorem is_t {i : List D} : cIs (.tup i) .non = some (.d (.bl false)) := rfl
theorem eq_b {a b : Bool} : cEq (.bl a) (.bl b) = some (.d (.bl (decide (a = b)))) := rfl
theorem if_t {A B : Prop} (a : A) : (true = true → A) ∧ (true = false → B) := ⟨fun _ => a, fun h => nomatch h⟩
theorem if_f {A B : Prop} (b : B) : (false = true → A) ∧ (false = false → B) := ⟨fun h => (nomatch h), fun _ => b⟩
theorem if_nbf {A B : Prop} (a : A) : ((!false) = true → A) ∧ ((!false) = false → B) := ⟨fun _ => a, fun h => nomatch h⟩
theorem if_nbt {A B : Prop} (b : B) : ((!true) = true → A) ∧ ((!true) = false → B) := ⟨fun h => (nomatch h), fun _ => b⟩
theorem if_dt {A B p : Prop} [Decidable p] (h : p) (a : A) : (decide p = true → A) ∧ (decide p = false → B) := ⟨fun _ => a, fun z => absurd h (of_decide_eq_false z)⟩
theorem if_df {A B p : Prop} [Decidable p] (h : ¬ p) (b : B) : (decide p = true → A) ∧ (decide p = false → B) := ⟨fun z => absurd (of_decide_eq_true z) h, fun _ => b⟩
theorem if_d {A B p : Prop} [Decidable p] (a : p → A) (b : ¬ p → B) : (decide p = true → A) ∧ (decide p = false → B) := ⟨fun z => a (of_decide_eq_true z), fun z => b (of_decide_eq_false z)⟩
theorem if_nt {A B p : Prop} [Decidable p] (h : ¬ p) (a : A) : ((!decide p) = true → A) ∧ ((!decide p) = false → B) := ⟨fun _ => a, fun z => absurd h (by rw [decide_eq_false h] at z; cases z)⟩
theorem if_nf {A B p : Prop} [Decidable p] (h : p) (b : B) : ((!decide p) = true → A) ∧ ((!decide p) = false → B) := ⟨fun z => absurd h (by rw [decide_eq_true h] at z; cases z), fun _ => b⟩
section
variable {g : G} {i : Nat} {q q' : Addr} {k : OK} {b : Bool} {cs : List Sm.F} {l l' : List D} {d : D}
theorem ldQ_sk (h : q' ≠ q) (e : ldQ cs q = some l) : ldQ (.fl q' l' :: cs) q = some l := by unfold ldQ; rw [if_neg h]; exact e
theorem ldQ_sd (e : ldQ cs q = some l) : ldQ (.fd d :: cs) q = some l := e
theorem ld_pq (e : g[i]? = some (.ob b k cs)) (e2 : ldQ cs q = some l) : ld g (.pq i q) = some (.lst l) := by rw [v_ldp, e, pqK_ob, e2]; rfl
theorem lds_pq (e : g[i]? = some (.ob b k cs)) (e2 : ldQ cs q = some l) : lds g [.pq i q] = some [.lst l] := by unfold lds; rw [ld_pq e e2]; rfl
end
theorem o_mul {p q : Int} (hp : -1000000000000000000000000000000000000000000000000000000000000000000000000000000 < p ∧ p < 1000000000000000000000000000000000000000000000000000000000000000000000000000000) (hq : -1000000000000000000000000000000000000000000000000000000000000000000000000000000 < q ∧ q < 1000000000000000000000000000000000000000000000000000000000000000000000000000000) : mulD (.int p) (.int q) = some (.d (.int (p * q))) := Sp.mulS (by omega) (by omega)
end Sm

/-! ## equality of data without truth values -/
namespace Sp
open PySem L2 TL Sm
mutual
def nb : D → Bool
  | .non => true | .bl _ => false | .int _ => true | .str _ => true
  | .tup l => nbL l
  | .lst l => nbL l
  | .sls _ => false
  | .ins _ _ => false
def nbL : List D → Bool
  | [] => true
  | d :: l => nb d && nbL l
end
mutual
theorem eqv_nb : (d e : D) → (p q : PyData) → nb d = true → nb e = true → pyOf d = some p → pyOf e = some q → (PyData.eqv p q = true ↔ d = e)
  | .non, e, p, q, _, h2, h3, h4 => by
    cases h3
    cases e <;> simp [nb] at h2 <;> simp only [pyOf, Option.map_eq_some_iff] at h4
    all_goals first
      | (cases h4; simp [PyData.eqv]; done)
      | (obtain ⟨_, _, rfl⟩ := h4; simp [PyData.eqv]; done)
  | .int i, e, p, q, _, h2, h3, h4 => by
    cases h3
    cases e <;> simp [nb] at h2 <;> simp only [pyOf, Option.map_eq_some_iff] at h4
    all_goals first
      | (cases h4; simp [PyData.eqv]; done)
      | (obtain ⟨_, _, rfl⟩ := h4; simp [PyData.eqv]; done)
  | .str i, e, p, q, _, h2, h3, h4 => by
    cases h3
    cases e <;> simp [nb] at h2 <;> simp only [pyOf, Option.map_eq_some_iff] at h4
    all_goals first
      | (cases h4; simp [PyData.eqv]; done)
      | (obtain ⟨_, _, rfl⟩ := h4; simp [PyData.eqv]; done)
  | .bl _, _, _, _, h1, _, _, _ => nomatch h1
  | .sls _, _, _, _, h1, _, _, _ => nomatch h1
  | .ins _ _, _, _, _, h1, _, _, _ => nomatch h1
  | .tup l, e, p, q, h1, h2, h3, h4 => by
    simp only [pyOf, Option.map_eq_some_iff] at h3
    obtain ⟨ps, h3, rfl⟩ := h3
    cases e <;> simp [nb] at h2 <;> simp only [pyOf, Option.map_eq_some_iff] at h4
    case tup m =>
      obtain ⟨qs, h4, rfl⟩ := h4
      rw [show PyData.eqv (.tuple ps) (.tuple qs) = PyData.eqvAll ps qs by rw [PyData.eqv], eqv_nbL l m ps qs h1 h2 h3 h4]
      exact ⟨congrArg D.tup, fun h => by cases h; rfl⟩
    all_goals first
      | (cases h4; simp [PyData.eqv]; done)
      | (obtain ⟨_, _, rfl⟩ := h4; simp [PyData.eqv]; done)
  | .lst l, e, p, q, h1, h2, h3, h4 => by
    simp only [pyOf, Option.map_eq_some_iff] at h3
    obtain ⟨ps, h3, rfl⟩ := h3
    cases e <;> simp [nb] at h2 <;> simp only [pyOf, Option.map_eq_some_iff] at h4
    case lst m =>
      obtain ⟨qs, h4, rfl⟩ := h4
      rw [show PyData.eqv (.list ps) (.list qs) = PyData.eqvAll ps qs by rw [PyData.eqv], eqv_nbL l m ps qs h1 h2 h3 h4]
      exact ⟨congrArg D.lst, fun h => by cases h; rfl⟩
    all_goals first
      | (cases h4; simp [PyData.eqv]; done)
      | (obtain ⟨_, _, rfl⟩ := h4; simp [PyData.eqv]; done)
theorem eqv_nbL : (l m : List D) → (ps qs : List PyData) → nbL l = true → nbL m = true → pyAll l = some ps → pyAll m = some qs → (PyData.eqvAll ps qs = true ↔ l = m)
  | [], m, ps, qs, _, h2, h3, h4 => by
    cases h3
    cases m with
    | nil => cases h4; simp [PyData.eqvAll]
    | cons e m =>
      simp only [pyAll] at h4
      obtain ⟨a, _, h4⟩ := Option.bind_eq_some_iff.mp h4
      obtain ⟨b, _, rfl⟩ := Option.map_eq_some_iff.mp h4
      simp [PyData.eqvAll]
  | d :: l, m, ps, qs, h1, h2, h3, h4 => by
    simp only [pyAll] at h3
    obtain ⟨a, ha, h3⟩ := Option.bind_eq_some_iff.mp h3
    obtain ⟨b, hb, rfl⟩ := Option.map_eq_some_iff.mp h3
    cases m with
    | nil => cases h4; simp [PyData.eqvAll]
    | cons e m =>
      simp only [pyAll] at h4
      obtain ⟨a', ha', h4⟩ := Option.bind_eq_some_iff.mp h4
      obtain ⟨b', hb', rfl⟩ := Option.map_eq_some_iff.mp h4
      simp only [nbL, Bool.and_eq_true] at h1 h2
      rw [PyData.eqvAll, Bool.and_eq_true, eqv_nb d e a a' h1.1 h2.1 ha ha', eqv_nbL l m b b' h1.2 h2.2 hb hb', List.cons.injEq]
end
theorem eqD_nb {n : Nat} (hn : n ≤ 64) {d e : D} (hd : Shp n d) (he : Shp n e) (nd : nb d = true) (ne : nb e = true) : ∃ b, eqD d e = some b ∧ (b = true ↔ d = e) := by
  obtain ⟨p, h1, h2, h3⟩ := hd
  obtain ⟨q, h4, h5, h6⟩ := he
  have e1 : eqDt d e = some (PyData.eqv p q) := by
    unfold eqDt
    rw [h1, h4]
    dsimp only
    rw [if_pos ⟨shp_ok hn h1 h2 h3, shp_ok hn h4 h5 h6⟩]
  unfold eqD
  cases hs : eqSc d e with
  | none => exact ⟨_, e1, eqv_nb d e p q nd ne h1 h4⟩
  | some x =>
    refine ⟨x, rfl, ?_⟩
    cases d <;> cases e <;> simp [eqSc] at hs <;> subst hs <;> simp
theorem cNe_nb {n : Nat} (hn : n ≤ 64) {d e : D} (hd : Shp n d) (he : Shp n e) (nd : nb d = true) (ne : nb e = true) : ∃ b, cNe d e = some (.d (.bl b)) ∧ (b = false ↔ d = e) := by
  obtain ⟨b, h, k⟩ := eqD_nb hn hd he nd ne
  refine ⟨!b, by unfold cNe; rw [h]; rfl, ?_⟩
  rw [← k]; cases b <;> simp
theorem nbL_of : ∀ {l : List D}, (∀ d ∈ l, nb d = true) → nbL l = true
  | [], _ => rfl
  | d :: l, h => by unfold nbL; rw [h d List.mem_cons_self, nbL_of fun x hx => h x (List.mem_cons_of_mem _ hx)]; rfl
theorem noLs_of : ∀ {l : List D}, (∀ d ∈ l, noL d = true) → noLs l = true
  | [], _ => rfl
  | d :: l, h => by unfold noLs; rw [h d List.mem_cons_self, noLs_of fun x hx => h x (List.mem_cons_of_mem _ hx)]; rfl
theorem noLs_str {l : List Str} : noLs (l.map D.str) = true := noLs_of fun d hd => by obtain ⟨s, _, rfl⟩ := List.mem_map.mp hd; rfl
theorem nbL_str {l : List Str} : nbL (l.map D.str) = true := nbL_of fun d hd => by obtain ⟨s, _, rfl⟩ := List.mem_map.mp hd; rfl
end Sp

/-! ## comprehensions whose items are a function of what is walked -/
namespace Sm
open PySem L2
theorem slc_nd {a b c : D} : ((sliceF a b c).map (·.1)).Nodup := by show [("skip" : Str), "chop", "sizes"].Nodup; decide
theorem frm_nd {a b c : D} : (([("slices", a), ("words", b), ("is_reversed", c)] : List (Str × D)).map (·.1)).Nodup := by show [("slices" : Str), "words", "is_reversed"].Nodup; decide
theorem lv_nd {a b c : D} : (([("chain", a), ("present", b), ("known", c)] : List (Str × D)).map (·.1)).Nodup := by show [("chain" : Str), "present", "known"].Nodup; decide
theorem rec_and {C m : Str} {g : G} {r : R} {P : Prop} (h : recIs C m g r = true) (p : P) : recIs C m g r = true ∧ P := ⟨h, p⟩
theorem f_skip {a b c : D} : fldAt (sliceF a b c) 0 "skip" = some a := rfl
theorem f_chop {a b c : D} : fldAt (sliceF a b c) 1 "chop" = some b := rfl
theorem f_sizes {a b c : D} : fldAt (sliceF a b c) 2 "sizes" = some c := rfl
theorem f_slices {a b c : D} : fldAt [("slices", a), ("words", b), ("is_reversed", c)] 0 "slices" = some a := rfl
theorem f_words {a b c : D} : fldAt [("slices", a), ("words", b), ("is_reversed", c)] 1 "words" = some b := rfl
theorem f_isrev {a b c : D} : fldAt [("slices", a), ("words", b), ("is_reversed", c)] 2 "is_reversed" = some c := rfl
theorem f_chain {a b c : D} : fldAt [("chain", a), ("present", b), ("known", c)] 0 "chain" = some a := rfl
theorem f_present {a b c : D} : fldAt [("chain", a), ("present", b), ("known", c)] 1 "present" = some b := rfl
theorem f_known {a b c : D} : fldAt [("chain", a), ("present", b), ("known", c)] 2 "known" = some c := rfl
theorem wl_f {A B : Prop} (a : A) : (false = false → A) ∧ (false = true → B) := ⟨fun _ => a, fun h => nomatch h⟩
theorem wl_t {A B : Prop} (b : B) : (true = false → A) ∧ (true = true → B) := ⟨fun h => (nomatch h), fun _ => b⟩
section
variable {fe : G → Option (R × G)} {ft : G → Option (Bool × G)} {gf : D → G → Option G} {g : G} {l : List D} {vs : List Nat} {QI : List D → G → Prop}
end
theorem v_stop {ft : G → Option (Bool × G)} {a b s : G → Option O} {g : G} {Q : O → Prop} (h : wS (sSeq (sIf ft a b) s) g Q) : wS (sSeq (sIf ft a b) s) g Q := h
theorem u_stop {ft : G → Option (Bool × G)} {fa fb : G → Option (R × G)} {g : G} {Q : R → G → Prop} (h : wE (eIf ft fa fb) g Q) : wE (eIf ft fa fb) g Q := h
theorem u_stop2 {fa fb : G → Option (R × G)} {g : G} {Q : R → G → Prop} (h : wE (eAnd fa fb) g Q) : wE (eAnd fa fb) g Q := h
end Sm

/-! ## Live as an owned composite: rules by what is wanted -/
namespace Sm
open PySem L2
theorem strip_ex : ∀ (ps : List PF) (n : Nat), ∃ cs, strip cs = ps ∧ (qs cs).Nodup ∧ ∀ q ∈ qs cs, n ≤ q := fun ps => by
  induction ps with
  | nil => exact fun n => ⟨[], rfl, List.nodup_nil, fun q h => nomatch h⟩
  | cons p ps ih =>
    intro n
    obtain ⟨cs, h1, h2, h3⟩ := ih (n + 1)
    cases p with
    | pd d => exact ⟨.fd d :: cs, by rw [strip, h1], h2, fun q h => Nat.le_of_succ_le (h3 q h)⟩
    | pl l => exact ⟨.fl n l :: cs, by rw [strip, h1], List.nodup_cons.mpr ⟨fun z => Nat.lt_irrefl n (h3 n z), h2⟩, fun q h => by
        rcases List.mem_cons.mp h with h | h
        · rw [h]; exact Nat.le_refl _
        · exact Nat.le_of_succ_le (h3 q h)⟩
theorem w_newR {fe : MN} {s : G → Option O} {g g1 : G} {i : Nat} {QS : O → Prop} {ps : List PF} {kk : OK} (e : fe g = some ((kk, ps), g1)) (hn : notT g1 i = true) (hi : noIn1 g1 i = true) (o : O) (q : ∀ cs, strip cs = ps → (qs cs).Nodup → wS s (g1.set i (.ob false kk cs)) fun o' => setO i o' = o) (q2 : QS o) : wS (sNewR i fe s) g QS := by
  have h : (notT g1 i = true ∧ noIn1 g1 i = true) ∧ ∃ o, ∀ cs, strip cs = ps → (qs cs).Nodup → ∃ o', s (g1.set i (.ob false kk cs)) = some o' ∧ setO i o' = o := ⟨⟨hn, hi⟩, o, fun cs h1 h2 => (q cs h1 h2).ex⟩
  refine ⟨h.2.choose, ?_, ?_⟩
  · unfold sNewR
    rw [e]
    dsimp only
    rw [dif_pos h]
  · obtain ⟨cs, hcs, hnd, _⟩ := strip_ex ps 0
    obtain ⟨o1, e1, e2⟩ := h.2.choose_spec cs hcs hnd
    obtain ⟨o2, e3, e4⟩ := q cs hcs hnd
    rw [e1] at e3
    cases e3
    rw [← e2, e4]
    exact q2
abbrev LK : OK := .ns "Live" ["chain", "present", "known"]
theorem strip_lv {cs : List F} {a d : D} {b : List D} (h : strip cs = [.pd a, .pl b, .pd d]) : ∃ q, cs = [.fd a, .fl q b, .fd d] := by
  match cs, h with
  | [.fd _, .fl q _, .fd _], h => cases h; exact ⟨q, rfl⟩
  | [.fd _, .fl _ _, .fl _ _], h => cases h
  | [.fd _, .fd _, x], h => cases x <;> cases h
  | [.fl _ _, x, y], h => cases x <;> cases y <;> cases h
  | [], h => cases h
  | [x], h => cases x <;> cases h
  | [x, y], h => cases x <;> cases y <;> cases h
  | x :: y :: z :: u :: t, h => cases x <;> cases y <;> cases z <;> cases u <;> cases h
theorem w_newLv {fe : MN} {s : G → Option O} {g g1 : G} {i : Nat} {QS : O → Prop} {a d : D} {b : List D} (e : fe g = some ((LK, [.pd a, .pl b, .pd d]), g1)) (hn : notT g1 i = true) (hi : noIn1 g1 i = true) (o : O)
    (q : ∀ q : Addr, wS s (g1.set i (.ob false LK [.fd a, .fl q b, .fd d])) fun o' => setO i o' = o) (q2 : QS o) : wS (sNewR i fe s) g QS :=
  w_newR e hn hi o (fun cs hcs _ => by obtain ⟨q0, rfl⟩ := strip_lv hcs; exact q q0) q2
/-! calls that change several arguments -/
/-! loops whose states hold an address that nothing depends on -/
theorem forQ_cons {gf : D → G → Option G} {s : G → Option O} {d : D} {l : List D} {g g' : G} {QS : O → Prop} (h : wG gf d g fun g1 => wS s g1 (turnQ (fun g2 => g2 = g') fun _ => False)) (k : forQ gf s l g' QS) : forQ gf s (d :: l) g QS := by
  obtain ⟨g1, e1, o, e2, q⟩ := h
  obtain ⟨o', e3, q'⟩ := k
  cases q with
  | nx q => subst q; exact ⟨o', by unfold forL; rw [e1, Option.bind_some, e2]; exact e3, q'⟩
  | ct q => subst q; exact ⟨o', by unfold forL; rw [e1, Option.bind_some, e2]; exact e3, q'⟩
  | bk q => exact q.elim
  | rt q => exact q.elim
  | xc q => exact q.elim
theorem for_fam {T A : Type} {gf : D → G → Option G} {s : G → Option O} {L : List D} (st : T → A → G) (Inv : Nat → T → Prop)
    (hs : ∀ m t d, m < L.length → L[m]? = some d → Inv m t → ∃ t', Inv (m + 1) t' ∧ ∀ a, wG gf d (st t a) fun g1 => wS s g1 (turnQ (fun g2 => g2 = st t' a) fun _ => False)) {t0 : T} (h0 : Inv 0 t0) :
    ∃ t, Inv L.length t ∧ ∀ (a : A) (QS : O → Prop), QS (.nx (st t a)) → forQ gf s L (st t0 a) QS := by
  have key : ∀ (n : Nat) (l : List D) (m : Nat) (t : T), l.length = n → L.drop m = l → m + n = L.length → Inv m t → ∃ t', Inv L.length t' ∧ ∀ (a : A) (QS : O → Prop), QS (.nx (st t' a)) → forQ gf s l (st t a) QS := by
    intro n
    induction n with
    | zero =>
      intro l m t hl hd hm hI
      match l, hl with
      | [], _ => exact ⟨t, by rw [← hm]; exact hI, fun a QS q => ⟨_, rfl, q⟩⟩
    | succ n ih =>
      intro l m t hl hd hm hI
      match l, hl with
      | d :: l, hl =>
      have hml : m < L.length := by omega
      have hat : L[m]? = some d := by
        rw [← List.head?_drop, hd]
        rfl
      obtain ⟨t1, hI1, hst⟩ := hs m t d hml hat hI
      have hd1 : L.drop (m + 1) = l := by
        rw [← List.tail_drop, hd]
        rfl
      obtain ⟨t2, hI2, hrest⟩ := ih l (m + 1) t1 (Nat.succ.inj hl) hd1 (by omega) hI1
      exact ⟨t2, hI2, fun a QS q => forQ_cons (hst a) (hrest a QS q)⟩
  exact key L.length L 0 t0 rfl rfl (by omega) h0
end Sm

/-! ## windows of lines, slices and their normal forms -/
namespace Nf
open Sp
/-- a window: the first line kept and the one behind the last one -/
abbrev Wd := Nat × Nat
def wst : Nm → Nat → Wd → Wd
  | .head, n, w => (w.1, min w.2 (w.1 + n))
  | .tail, n, w => (max w.1 (w.2 - n), w.2)
  | .skip, n, w => (min w.2 (w.1 + n), w.2)
  | .chop, n, w => (w.1, max w.1 (w.2 - n))
def wins : List (Nm × Nat) → Wd → Wd
  | [], w => w
  | x :: l, w => wins l (wst x.1 x.2 w)
def Ok (w : Wd) : Prop := w.1 ≤ w.2
theorem wst_ok {a : Nm} {n : Nat} {w : Wd} (h : Ok w) : Ok (wst a n w) ∧ w.1 ≤ (wst a n w).1 ∧ (wst a n w).2 ≤ w.2 := by
  unfold Ok at *
  cases a <;> simp only [wst] <;> omega
def isSz (a : Nm) : Prop := a = .head ∨ a = .tail
instance (a : Nm) : Decidable (isSz a) := inferInstanceAs (Decidable (_ ∨ _))
/-- windows that keep the same lines -/
def Weq (a b : Wd) : Prop := a.1 < a.2 ∨ b.1 < b.2 → a = b
theorem Weq.rfl {a : Wd} : Weq a a := fun _ => Eq.refl a
theorem Weq.of {a b : Wd} (h : a = b) : Weq a b := fun _ => h
theorem Weq.trans {a b c : Wd} (h : Weq a b) (k : Weq b c) : Weq a c := by
  intro q
  rcases q with q | q
  · have e := h (.inl q)
    rw [e] at q
    rw [e, k (.inl q)]
  · have e := k (.inr q)
    rw [← e] at q
    rw [h (.inr q), e]
theorem wst_lt {a : Nm} {n : Nat} {w : Wd} (hw : Ok w) (h : (wst a n w).1 < (wst a n w).2) : w.1 < w.2 := by
  have := wst_ok (a := a) (n := n) hw
  omega
theorem Weq.wst {a : Nm} {n : Nat} {v w : Wd} (hv : Ok v) (hw : Ok w) (h : Weq v w) : Weq (wst a n v) (wst a n w) := by
  intro q
  rcases q with q | q
  · rw [h (.inl (wst_lt hv q))]
  · rw [h (.inr (wst_lt hw q))]
theorem Weq.wins : ∀ (l : List (Nm × Nat)) {v w : Wd}, Ok v → Ok w → Weq v w → Weq (wins l v) (wins l w)
  | [], _, _, _, _, h => h
  | x :: l, v, w, hv, hw, h => Weq.wins l (wst_ok hv).1 (wst_ok hw).1 (Weq.wst hv hw h)
/-- sizes alternate and fall -/
def Alt : List (Nm × Nat) → Prop
  | [] => True
  | [x] => isSz x.1 ∧ 0 < x.2
  | x :: y :: l => isSz x.1 ∧ x.1 ≠ y.1 ∧ y.2 < x.2 ∧ Alt (y :: l)
theorem Alt.tl {x : Nm × Nat} : ∀ {l : List (Nm × Nat)}, Alt (x :: l) → Alt l
  | [], _ => trivial
  | _ :: _, h => h.2.2.2
theorem Alt.hd {x : Nm × Nat} : ∀ {l : List (Nm × Nat)}, Alt (x :: l) → isSz x.1
  | [], h => h.1
  | _ :: _, h => h.1
theorem Alt.pos : ∀ {l : List (Nm × Nat)}, Alt l → ∀ x ∈ l, isSz x.1 ∧ 0 < x.2
  | [], _, _, h => nomatch h
  | [x], h, y, hy => by cases List.mem_singleton.mp hy; exact h
  | x :: z :: l, h, y, hy => by
    rcases List.mem_cons.mp hy with rfl | hy
    · exact ⟨h.1, by have := h.2.2.1; omega⟩
    · exact Alt.pos h.2.2.2 y hy
theorem snocC {α : Type} (l : List α) : l = [] ∨ ∃ xs z, l = xs ++ [z] := by
  cases l with
  | nil => exact .inl rfl
  | cons x l => exact .inr ⟨(x :: l).dropLast, (x :: l).getLast (List.cons_ne_nil _ _), (List.dropLast_concat_getLast _).symm⟩
theorem Alt.last_le : ∀ {l : List (Nm × Nat)} {z : Nm × Nat}, Alt l → l.getLast? = some z → ∀ x ∈ l, z.2 ≤ x.2
  | [], _, _, e, _, _ => nomatch e
  | [y], z, _, e, x, hx => by cases e; cases List.mem_singleton.mp hx; exact Nat.le_refl _
  | y :: u :: l, z, h, e, x, hx => by
    rw [List.getLast?_cons_cons] at e
    rcases List.mem_cons.mp hx with rfl | hx
    · exact Nat.le_trans (Alt.last_le (l := u :: l) h.2.2.2 e u List.mem_cons_self) (Nat.le_of_lt h.2.2.1)
    · exact Alt.last_le (l := u :: l) h.2.2.2 e x hx
/-! ### what sizes do -/
theorem sz_len {a : Nm} (ha : isSz a) {k : Nat} {w : Wd} (hw : Ok w) : (wst a k w).2 - (wst a k w).1 = min (w.2 - w.1) k := by
  obtain ⟨lo, hi⟩ := w
  have hw : lo ≤ hi := hw
  rcases ha with rfl | rfl <;> simp only [wst] <;> omega
theorem szs_len : ∀ {l : List (Nm × Nat)} {w : Wd}, Alt l → Ok w → (wins l w).2 - (wins l w).1 = match l.getLast? with | none => w.2 - w.1 | some z => min (w.2 - w.1) z.2
  | [], _, _, _ => rfl
  | [x], w, h, hw => sz_len h.1 hw
  | x :: y :: l, w, h, hw => by
    rw [List.getLast?_cons_cons]
    show (wins (y :: l) (wst x.1 x.2 w)).2 - (wins (y :: l) (wst x.1 x.2 w)).1 = _
    rw [szs_len (l := y :: l) h.2.2.2 (wst_ok hw).1]
    have e : ∃ z, (y :: l).getLast? = some z := ⟨_, List.getLast?_eq_some_getLast (List.cons_ne_nil _ _)⟩
    obtain ⟨z, e⟩ := e
    rw [e]
    have := Alt.last_le h.2.2.2 e y List.mem_cons_self
    have := h.2.2.1
    show min _ _ = min _ _
    rw [sz_len h.1 hw]
    omega
/-! ### slices -/
structure Slc where
  skip : Nat
  chop : Nat
  sizes : List (Nm × Nat)
deriving DecidableEq
namespace Slc
abbrev zero : Slc := ⟨0, 0, []⟩
def pre (s : Slc) (n : Nat) : Wd := wst .chop s.chop (wst .skip s.skip (0, n))
def win (s : Slc) (n : Nat) : Wd := wins s.sizes (s.pre n)
theorem pre_ok (s : Slc) (n : Nat) : Ok (s.pre n) := (wst_ok (wst_ok (w := (0, n)) (Nat.zero_le _)).1).1
theorem pre_len (s : Slc) (n : Nat) : (s.pre n).2 - (s.pre n).1 = n - s.skip - s.chop := by
  simp only [pre, wst]; omega
/-- what is asked of a slice behind so many lines -/
def Fits (s : Slc) : Option Nat → Prop
  | none => True
  | some r => s.skip + s.chop < r ∧ ∀ x ∈ s.sizes, x.2 < r - s.skip - s.chop
theorem len (s : Slc) (h : Alt s.sizes) (n : Nat) : (s.win n).2 - (s.win n).1 = match s.sizes.getLast? with | none => n - s.skip - s.chop | some z => min (n - s.skip - s.chop) z.2 := by
  unfold win
  rw [szs_len h (s.pre_ok n), s.pre_len]
theorem isSz.or {a : Nm} (ha : isSz a) {b : Nm} (hb : isSz b) {c : Nm} (hc : isSz c) (h1 : b ≠ a) (h2 : c ≠ b) : c = a := by
  rcases ha with rfl | rfl <;> rcases hb with rfl | rfl <;> rcases hc with rfl | rfl <;> first | rfl | exact absurd rfl h1 | exact absurd rfl h2
end Slc
end Nf

/-! ## all lists over some letters, counted -/
namespace Sp
open PySem L2 TL Sm
end Sp

/-! ## lists of lists: counted, found, summed -/
namespace Sp
open PySem L2 TL Sm
end Sp

namespace Lw
open PySem L2 TL Sm Sp Nf
local macro_rules | `(tactic| walk_at "lq") => `(tactic| first | exact ldQ_hit | exact ldQ_sk (by assumption) ldQ_hit | exact ldQ_sd ldQ_hit)
local macro_rules | `(tactic| walk_at "ld") => `(tactic| first | rfl | (apply ld_pq; (· rfl); (· walk_at "lq")))
local macro_rules | `(tactic| walk_at "lds") => `(tactic| first | rfl | (apply lds_pq; (· rfl); (· walk_at "lq")))
local macro_rules | `(tactic| walk_at "op") => `(tactic| first | (with_reducible first | assumption | exact add_i | exact sub_i | exact lt_i | exact le_i | exact gt_i | exact ge_i | exact eq_i | exact eq_b | exact ne_i | exact eq_s | exact ne_s | exact is_n | exact isN_n | exact isN_i | exact isN_s | exact isN_t | exact is_i | exact is_s | exact is_t | exact o_pow18 | exact o_pow29 | exact o_pow30 | exact o_pow15 | exact o_pow61 | exact len_l | exact len_s | exact len_t | exact abs_i | exact max_i | exact min_i | exact int_i | exact int_b | exact list_l | exact list_s) | (apply o_mul; (· omega); (· omega)) | (apply o_mod; omega) | (apply o_div; (· omega); (· first | assumption | decide)) | exact in2 | exact in3 | exact in4 | (apply o_ixl; (· first | exact at0 | exact at1 | exact atI_of (by assumption) | rfl)) | (apply o_ixt; (· first | exact at0 | exact at1 | exact atI_of (by assumption) | rfl)) | (apply o_ixs; rfl))
local macro_rules | `(tactic| walk_at "nt") => `(tactic| first | rfl | with_reducible assumption | exact jk_nt (by with_reducible assumption))
local macro_rules | `(tactic| walk_at "ky") => `(tactic| first | exact ky_li | exact ky_d0 | exact ky_d1 | exact ky_d2 | exact ky_d3 | exact ky_n0 | exact ky_n1 | exact ky_n2)
local macro_rules | `(tactic| walk_at "n") => `(tactic| try dsimp only [List.set_cons_zero, List.set_cons_succ, flSet, List.getElem?_cons_zero, List.getElem?_cons_succ, List.take_succ_cons, List.take_zero, wipeG, restG, Option.getD_some, Rof])
local macro_rules | `(tactic| walk_at "w1") => `(tactic| first
  | with_reducible refine w_seq ?_
  | with_reducible refine sq_nx ?_
  | with_reducible refine sq_rt ?_
  | with_reducible refine sq_ct ?_
  | with_reducible refine tq_nx ?_
  | with_reducible refine tq_ct ?_
  | with_reducible refine tq_rt ?_
  | with_reducible refine w_asg ?_
  | with_reducible refine sq_xc ?_
  | with_reducible refine turnQ.xc ?_
  | with_reducible refine fnXQ.xc ?_
  | (refine fnXQ.nx ?_; walk_at "n")
  | (apply fnXQ.rt; (· rfl); walk_at "n")
  | (apply w_var; (· rfl))
  | with_reducible refine w_c ?_
  | with_reducible refine w_bin ?_
  | (apply w_op; (· walk_at "ld"); (· walk_at "ld"); (· walk_at "op"))
  | (apply w_asd; (· walk_at "nt"); walk_at "n")
  | (apply w_asn; (· walk_at "nt"); walk_at "n")
  | (apply w_ass; (· rfl); (· walk_at "nt"); walk_at "n")
  | with_reducible refine w_sif ?_
  | with_reducible refine w_tst ?_
  | with_reducible refine q_bl ?_
  | with_reducible refine q_d ?_
  | with_reducible refine q_int ?_
  | with_reducible refine q_str ?_
  | with_reducible refine q_nw ?_
  | (apply q_ol; (· rfl))
  | (apply q_ob; (· rfl))
  | (apply q_fl; (· (apply flAt_of; (· rfl); (· walk_at "ky"); (· rfl))))
  | (apply q_seq; (· rfl))
  | (apply q_ldC; (· rfl))
  | (apply q_ldl; (· rfl))
  | (apply q_rev; (· rfl))
  | (apply q_revs; (· rfl))
  | with_reducible refine q_two ?_
  | with_reducible refine q_rs ?_
  | with_reducible refine q_anyt ?_
  | with_reducible refine q_anyl ?_
  | with_reducible refine q_anyS ?_
  | with_reducible refine q_anyn ?_
  | (apply q_anys; (· rfl); walk_at "n")
  | (apply q_bakL; (· exact .inr rfl); walk_at "n")
  | (apply q_bakO; (· exact .inr rfl); walk_at "n")
  | (apply q_aug; (· rfl); (· walk_at "op"))
  | with_reducible refine w_band ?_
  | with_reducible refine w_bor ?_
  | with_reducible refine w_bnot ?_
  | with_reducible refine wl_f ?_
  | with_reducible refine wl_t ?_
  | with_reducible refine if_t ?_
  | with_reducible refine if_f ?_
  | with_reducible refine if_nbf ?_
  | with_reducible refine if_nbt ?_
  | (apply if_dt; (· first | decide | omega | (simp only [List.length_cons, List.length_nil]; omega)))
  | (apply if_df; (· first | decide | omega | (simp only [List.length_cons, List.length_nil]; omega)))
  | (apply if_nt; (· first | decide | omega | (simp only [List.length_cons, List.length_nil]; omega)))
  | (apply if_nf; (· first | decide | omega | (simp only [List.length_cons, List.length_nil]; omega)))
  | with_reducible refine w_ret ?_
  | with_reducible refine w_expr ?_
  | with_reducible refine w_next ?_
  | with_reducible refine w_cont ?_
  | with_reducible refine w_retN ?_
  | (apply q_ins; (· rfl); (· first | exact slc_nd | exact frm_nd | exact lv_nd); (· first | exact f_skip | exact f_chop | exact f_sizes | exact f_slices | exact f_words | exact f_isrev | exact f_chain | exact f_present | exact f_known))
  | (apply w_fnrt; (· rfl); walk_at "n")
  | (refine w_fnnx ?_; walk_at "n")
  | with_reducible refine w_acons ?_
  | with_reducible refine w_anil ?_
  | with_reducible refine w_c1 ?_
  | (apply w_c1ol; (· first | exact lent_no rfl | decide); (· rfl); (· rfl))
  | (apply w_c1ob; (· first | exact lent_no rfl | decide); (· rfl); (· rfl))
  | with_reducible refine w_c0 ?_
  | (apply w_afty; (· first | rfl | with_reducible assumption))
  | (apply w_aft0; (· rfl))
  | with_reducible refine w_tup ?_
  | with_reducible refine w_lst ?_
  | with_reducible refine w_fr0 ?_
  | with_reducible refine w_frd ?_
  | with_reducible refine w_frn ?_
  | (apply w_frs; (· rfl); walk_at "n")
  | (apply w_fz; (· rfl); walk_at "n")
  | with_reducible refine w_cb ?_
  | (apply w_cbq; (· walk_at "lds"); (· walk_at "op"))
  | with_reducible refine w_if ?_
  | with_reducible refine w_and ?_
  | with_reducible refine w_or ?_
  | with_reducible refine w_not ?_
  | with_reducible refine w_neg ?_
  | with_reducible refine w_chain ?_
  | (apply w_ch; (· walk_at "ld"); (· walk_at "ld"); (· walk_at "op"))
  | with_reducible refine w_sl ?_
  | with_reducible refine w_on ?_
  | with_reducible refine w_os ?_
  | (apply w_slq; (· walk_at "ld"); (· first | with_reducible assumption | rfl))
  | with_reducible refine w_rev ?_
  | with_reducible refine w_perm ?_
  | with_reducible refine w_recA ?_
  | (apply w_part; (· rfl); (· walk_at "ky"); (· rfl); walk_at "n")
  | with_reducible refine w_fld ?_
  | with_reducible refine w_sd ?_
  | with_reducible refine w_put ?_
  | (apply w_augP; (· rfl); (· rfl); (· walk_at "ky"))
  | (apply w_aug; (· rfl))
  | with_reducible refine w_six ?_
  | with_reducible refine w_sixP ?_
  | (refine And.intro ?_ ?_; (· (refine And.intro ?_ (And.intro ?_ ?_); (· walk_at "ky"); (· (simp only [List.length_cons, List.length_nil, List.length_set]; decide)); (· (simp only [List.length_cons, List.length_nil, List.length_set]; decide)))); walk_at "n")
  | ((with_reducible refine le_and ?_ ?_); (· first | omega | exact of_decide_eq_true rfl | (simp only [List.length_cons, List.length_nil]; decide)))
  | ((with_reducible refine nt1_and ?_ ?_); (· walk_at "nt"); walk_at "n")
  | ((with_reducible refine nt_and ?_ ?_ ?_); (· walk_at "nt"); (· walk_at "nt"); walk_at "n")
  | (apply w_app; (· rfl))
  | (apply w_appP; (· (apply flAt_of; (· rfl); (· walk_at "ky"); (· rfl))))
  | (apply w_popAt; (· rfl))
  | (apply w_popAtP; (· (apply flAt_of; (· rfl); (· walk_at "ky"); (· rfl))))
  | (apply w_insP; (· (apply flAt_of; (· rfl); (· walk_at "ky"); (· rfl))))
  | (apply w_ext; (· rfl))
  | (apply w_ins; (· rfl))
  | with_reducible refine w_for ?_
  | with_reducible refine w_iR1 ?_
  | with_reducible refine w_iR2 ?_
  | with_reducible refine w_iA ?_
  | with_reducible refine w_iEn ?_
  | with_reducible refine w_iZ ?_
  | (apply w_gN; (· walk_at "nt"); walk_at "n")
  | (apply w_gT; (· rfl))
  | with_reducible refine w_g1 ?_
  | with_reducible refine w_g0 ?_
  | (apply w_gStar; (· walk_at "nt"); (· walk_at "nt"); walk_at "n")
  | (apply uq_nx; (· rfl))
  | (apply uq_rt; (· rfl))
  | with_reducible refine turnQ.nx ?_
  | with_reducible refine tryQ.nx ?_
  | with_reducible refine tryQ.rt ?_
  | with_reducible refine w_asgT ?_
  | with_reducible refine w_par ?_
  | with_reducible refine w_par3 ?_
  | with_reducible refine q_ds3 ?_
  | with_reducible refine w_parN ?_
  | with_reducible refine w_parO ?_
  | with_reducible refine w_lc ?_
  | with_reducible refine w_yes ?_
  | with_reducible refine w_raise ?_
  | with_reducible refine w_callX ?_
  | with_reducible refine w_try ?_
  | (apply w_xv; (· rfl))
  | (apply w_is; (· rfl))
  | with_reducible refine w_m1 ?_)
local macro_rules | `(tactic| walk_at "w") => `(tactic| repeat walk_at "w1")
local macro_rules | `(tactic| walk_at "u") => `(tactic| repeat ((fail_if_success (with_reducible refine u_stop ?_)); (fail_if_success (with_reducible refine u_stop2 ?_)); walk_at "w1"))
local macro_rules | `(tactic| walk_at "v") => `(tactic| repeat ((fail_if_success (with_reducible refine v_stop ?_)); walk_at "w1"))
/-! ### commands that are commands -/
theorem w_isc {c : Cmd} {Q : R → G → Prop} (k : ∀ g, Q (.d (.bl true)) g) : wF Mis_command [.fz c.enc] Q := by
  refine w_dM rfl ?_
  unfold Bis_command
  show wS _ [.fz c.enc, .un, .un] _
  cases c with
  | num a n =>
    have h1 := nm_in a
    have h2 := nm_in' a
    have h3 : cNe (.lst [.int (n : Nat)]) (.lst []) = some (.d (.bl true)) := rfl
    have e : (Cmd.num a n).enc = .tup [.str a.str, .int (n : Nat)] := rfl
    rw [e]
    walk_at "w"
    have h4 : decide (0 ≤ (n : Int)) = true := decide_eq_true (by omega)
    rw [h4]
    exact k _
  | pl a =>
    have h1 := pl_in a
    have h3 : cEq (.lst []) (.lst []) = some (.d (.bl true)) := rfl
    have e : (Cmd.pl a).enc = .tup [.str a.str] := rfl
    rw [e]
    walk_at "w"
    exact k _
theorem w_check {p : List Cmd} {Q : R → G → Prop} (k : ∀ g, Q (.d .non) g) : wF Mcheck_pipeline [.fz (.lst (p.map Cmd.enc))] Q := by
  refine w_dM rfl ?_
  unfold Bcheck_pipeline
  show wS _ [.fz (.lst (p.map Cmd.enc)), .un, .un] _
  walk_at "w"
  refine for_by (fun _ g => ∃ x y, g = [.fz (.lst (p.map Cmd.enc)), x, y] ∧ Jf x ∧ Jf y) ⟨_, _, rfl, .inl rfl, .inl rfl⟩ ?_ ?_
  · rintro pr d rest g e ⟨x, y, rfl, jx, jy⟩
    obtain ⟨z, rfl, hz⟩ := enum_at e
    rw [List.getElem?_map] at hz
    obtain ⟨c, _, rfl⟩ := Option.map_eq_some_iff.mp hz
    clear hz e
    have jxk := jx.jk
    have jyk := jy.jk
    walk_at "w"
    refine w_isc fun g => ?_
    walk_at "w"
    exact ⟨_, _, rfl, .inr ⟨_, rfl⟩, .inr ⟨_, rfl⟩⟩
  · rintro g ⟨x, y, rfl, jx, jy⟩
    walk_at "w"
    exact k _
theorem map_at {α : Type} {f : α → D} {l : List α} {pr rest : List D} {d : D} (e : l.map f = pr ++ d :: rest) : ∃ x, l[pr.length]? = some x ∧ d = f x := by
  have h : (l.map f)[pr.length]? = some d := by rw [e, List.getElem?_append_right (Nat.le_refl _), Nat.sub_self]; rfl
  rw [List.getElem?_map] at h
  obtain ⟨x, h1, h2⟩ := Option.map_eq_some_iff.mp h
  exact ⟨x, h1, h2.symm⟩
theorem take_snoc {α : Type} {l : List α} {n : Nat} {x : α} (h : l[n]? = some x) : l.take (n + 1) = l.take n ++ [x] := by
  rw [List.take_succ, h]; rfl

theorem runL_snoc (p : List Cmd) (c : Cmd) (l : List Str) : runL (p ++ [c]) l = c.step (runL p l) := by unfold runL; rw [List.foldl_append]; rfl
/-! ### list_changes -/
abbrev encL (l : List Str) : D := .lst (l.map D.str)
def encC : Nf.Chg → D
  | .ins o y => .tup [.str (("insert" : String) : Str), .int (o : Nat), .str y]
  | .rem o => .tup [.str (("remove" : String) : Str), .int (o : Nat)]
theorem w_common {L0 L1 : List Str} (h0 : L0.length ≤ 1000) (h1 : L1.length ≤ 1000) {Q : R → G → Prop} (k : Q (.d (tabD L0 L1)) [.fz (encL L0), .fz (encL L1)]) : wF Mcommon_lengths [.fz (encL L0), .fz (encL L1)] Q := by
  refine w_dM rfl ?_
  unfold Bcommon_lengths
  show wS _ [.fz (encL L0), .fz (encL L1), .un, .un, .un, .un] _
  refine ⟨.rt (.d (tabD L0 L1)) [.fz (encL L0), .fz (encL L1), .un, .un, .un, .un], ?_, ?_⟩
  · unfold sLcs
    dsimp only [List.getElem?_cons_zero, List.getElem?_cons_succ]
    rw [strsOf_map, strsOf_map]
    exact if_pos ⟨h0, h1, of_decide_eq_true rfl⟩
  · exact .rt rfl k
def rowD (L0 L1 : List Str) (i : Nat) : List D := (List.range (L1.length + 1)).map fun j => .int (Nf.lc (L0.drop i) (L1.drop j) : Nat)
theorem tab_row {L0 L1 : List Str} {i : Nat} (h : i ≤ L0.length) : ixD (tabD L0 L1) (.int (i : Nat)) = some (.d (.lst (rowD L0 L1 i))) := by
  unfold tabD
  refine o_ixl (atI_of ?_)
  rw [List.getElem?_map, List.getElem?_range (by omega)]
  rfl
theorem tab_cell {L0 L1 : List Str} {i j : Nat} (h : j ≤ L1.length) : ixD (.lst (rowD L0 L1 i)) (.int (j : Nat)) = some (.d (.int (Nf.lc (L0.drop i) (L1.drop j) : Nat))) := by
  unfold rowD
  refine o_ixl (atI_of ?_)
  rw [List.getElem?_map, List.getElem?_range (by omega)]
  rfl
theorem drop_at {L : List Str} {i : Nat} {x : Str} (h : L[i]? = some x) : L.drop i = x :: L.drop (i + 1) := by
  obtain ⟨h1, h2⟩ := List.getElem?_eq_some_iff.mp h
  rw [List.drop_eq_getElem_cons h1, h2]
theorem w_changes {L0 L1 : List Str} (h0 : L0.length ≤ 1000) (h1 : L1.length ≤ 1000) {Q : R → G → Prop} (k : ∀ g, Q (.nw ((Nf.chgL L0 L1 0).map encC)) g) : wF Mlist_changes [.fz (encL L0), .fz (encL L1)] Q := by
  refine w_dM rfl ?_
  unfold Blist_changes
  show wS _ [.fz (encL L0), .fz (encL L1), .un, .un, .un, .un] _
  walk_at "w"
  refine w_common h0 h1 ?_
  refine w_aft0 rfl ?_
  obtain ⟨T, hT⟩ : ∃ T, tabD L0 L1 = T := ⟨_, rfl⟩
  rw [hT]
  walk_at "w"
  refine w_while (fun k g => ∃ (one other : Nat) (acc : List Nf.Chg), k = (L0.length - one) + (L1.length - other) ∧ one ≤ L0.length ∧ other ≤ L1.length ∧ g = [.fz (encL L0), .fz (encL L1), .fz T, .ol false (acc.map encC), .fz (.int (one : Nat)), .fz (.int (other : Nat))] ∧ acc ++ Nf.chgL (L0.drop one) (L1.drop other) other = Nf.chgL L0 L1 0 ∧ acc.length ≤ one + other) ?_ (n := L0.length + L1.length) ⟨0, 0, [], rfl, Nat.zero_le _, Nat.zero_le _, rfl, rfl, Nat.zero_le _⟩
  rintro mm g ⟨one, other, acc, rfl, ho, hp, rfl, he, hac⟩
  have l0 : (L0.map D.str).length = L0.length := List.length_map ..
  have l1 : (L1.map D.str).length = L1.length := List.length_map ..
  walk_at "w"
  have hal : (acc.map encC).length ≤ 100000 := by rw [List.length_map]; omega
  by_cases ha : one < L0.length
  · refine if_dt (by rw [l0]; omega) ⟨(fun z => nomatch z), fun _ => ?_⟩
    obtain ⟨x, hx⟩ : ∃ x, L0[one]? = some x := ⟨_, List.getElem?_eq_getElem ha⟩
    have e0 := drop_at hx
    walk_at "w"
    by_cases hb : other < L1.length
    · refine if_dt (by rw [l1]; omega) ?_
      obtain ⟨y, hy⟩ : ∃ y, L1[other]? = some y := ⟨_, List.getElem?_eq_getElem hb⟩
      have e1 := drop_at hy
      have hx2 : (L0.map D.str)[one]? = some (.str x) := by rw [List.getElem?_map, hx]; rfl
      have hy2 : (L1.map D.str)[other]? = some (.str y) := by rw [List.getElem?_map, hy]; rfl
      walk_at "w"
      by_cases exy : x = y
      · refine if_dt exy ?_
        walk_at "w"
        refine ⟨_, ?_, one + 1, other + 1, acc, rfl, ha, hb, rfl, ?_, by omega⟩
        · omega
        · rw [← he, e0, e1, Nf.chgL, if_pos exy]
      · refine if_df exy ?_
        have t1 : ixD T (.int ((one : Int) + 1)) = some (.d (.lst (rowD L0 L1 (one + 1)))) := by rw [← hT]; exact tab_row (i := one + 1) ha
        have t2 : ixD (.lst (rowD L0 L1 (one + 1))) (.int (other : Int)) = some (.d (.int (Nf.lc (L0.drop (one + 1)) (L1.drop other) : Nat))) := tab_cell hp
        have t3 : ixD T (.int (one : Int)) = some (.d (.lst (rowD L0 L1 one))) := by rw [← hT]; exact tab_row ho
        have t4 : ixD (.lst (rowD L0 L1 one)) (.int ((other : Int) + 1)) = some (.d (.int (Nf.lc (L0.drop one) (L1.drop (other + 1)) : Nat))) := tab_cell (j := other + 1) hb
        rw [e1] at t2
        rw [e0] at t4
        walk_at "w"
        refine if_d (fun hc => ?_) (fun hc => ?_)
        · walk_at "w"
          refine ⟨hal, .nx ?_⟩
          walk_at "w"
          refine ⟨_, ?_, one + 1, other, acc ++ [.rem other], rfl, ha, hp, ?_, ?_, by rw [List.length_append]; simp; omega⟩
          · omega
          · rw [List.map_append]; rfl
          · rw [← he, e0, e1, Nf.chgL, if_neg exy, if_pos (by omega), List.append_assoc]; rfl
        · walk_at "w"
          refine ⟨hal, .nx ?_⟩
          walk_at "w"
          refine ⟨_, ?_, one, other + 1, acc ++ [.ins other y], rfl, ho, hb, ?_, ?_, by rw [List.length_append]; simp; omega⟩
          · omega
          · rw [List.map_append]; rfl
          · rw [← he, e0, e1, Nf.chgL, if_neg exy, if_neg (by omega), List.append_assoc]; rfl
    · refine if_df (by rw [l1]; omega) ?_
      walk_at "w"
      refine ⟨hal, .nx ?_⟩
      walk_at "w"
      have e1 : L1.drop other = [] := List.drop_eq_nil_of_le (by omega)
      refine ⟨_, ?_, one + 1, other, acc ++ [.rem other], rfl, ha, hp, ?_, ?_, by rw [List.length_append]; simp; omega⟩
      · omega
      · rw [List.map_append]; rfl
      · rw [← he, e0, e1, Nf.chgL, List.append_assoc]; rfl
  · refine if_df (by rw [l0]; omega) ?_
    have e0 : L0.drop one = [] := List.drop_eq_nil_of_le (by omega)
    walk_at "w"
    by_cases hb : other < L1.length
    · obtain ⟨y, hy⟩ : ∃ y, L1[other]? = some y := ⟨_, List.getElem?_eq_getElem hb⟩
      have e1 := drop_at hy
      have hy2 : (L1.map D.str)[other]? = some (.str y) := by rw [List.getElem?_map, hy]; rfl
      refine ⟨fun z => absurd (of_decide_eq_false z) (by rw [l1]; omega), fun _ => ?_⟩
      walk_at "w"
      refine ⟨hal, .nx ?_⟩
      walk_at "w"
      refine ⟨_, ?_, one, other + 1, acc ++ [.ins other y], rfl, ho, hb, ?_, ?_, by rw [List.length_append]; simp; omega⟩
      · omega
      · rw [List.map_append]; rfl
      · rw [← he, e0, e1, Nf.chgL, List.append_assoc]; rfl
    · refine ⟨fun _ => .nx ?_, fun z => absurd (of_decide_eq_true z) (by rw [l1]; omega)⟩
      walk_at "w"
      have e1 : L1.drop other = [] := List.drop_eq_nil_of_le (by omega)
      rw [e0, e1, Nf.chgL, List.append_nil] at he
      rw [he]
      exact k _
/-! ### run -/
theorem w_run {p : List Cmd} {l : List Str} (hl : l.length ≤ 1000) {Q : R → G → Prop} (k : ∀ g, Q (.nw ((runL p l).map D.str)) g) : wF Mrun [.fz (.lst (p.map Cmd.enc)), .fz (.lst (l.map D.str))] Q := by
  refine w_dM rfl ?_
  unfold Brun
  show wS _ [.fz (.lst (p.map Cmd.enc)), .fz (.lst (l.map D.str)), .un, .un] _
  walk_at "w"
  refine w_check fun g => ?_
  walk_at "w"
  refine for_by (fun pr g => ∃ x, g = [.fz (.lst (p.map Cmd.enc)), .fz (.lst (l.map D.str)), .ol false ((runL (p.take pr.length) l).map D.str), x] ∧ Jk x) ⟨_, rfl, jk_un⟩ ?_ ?_
  · rintro pr d rest g e ⟨x, rfl, jx⟩
    obtain ⟨c, hc, rfl⟩ := map_at e
    clear e
    have hs : runL (p.take (pr ++ [c.enc]).length) l = c.step (runL (p.take pr.length) l) := by
      rw [List.length_append, show pr.length + [c.enc].length = pr.length + 1 from rfl, take_snoc hc, runL_snoc]
    have hm : (runL (p.take pr.length) l).length ≤ 1000 := Nat.le_trans (runL_len _ _) hl
    rw [hs]
    generalize runL (p.take pr.length) l = m at hm
    clear hs hc
    walk_at "w"
    refine ⟨_, _, apply_ok hm, ?_⟩
    refine w_afty noLs_str ?_
    walk_at "w"
    exact ⟨_, rfl, jk_fz⟩
  · rintro g ⟨x, rfl, jx⟩
    rw [List.length_map, List.take_length]
    walk_at "w"
    exact k _
/-! ### Live, its methods -/
abbrev lvP (p : List Cmd) (q : Addr) (L kn : List Str) : List Sm.F := [.fd (.lst (p.map Cmd.enc)), .fl q (L.map D.str), .fd (.lst (kn.map D.str))]
theorem chgs_noL : ∀ c : List Nf.Chg, noLs (c.map encC) = true := fun c => noLs_of fun d hd => by
  obtain ⟨x, _, rfl⟩ := List.mem_map.mp hd
  cases x <;> rfl
theorem recL {g : G} {i : Nat} {b : Bool} {cs : List Sm.F} {m : Str} (hg : g[i]? = some (.ob b LK cs)) (h : decide (m ∉ [("chain" : Str), "present", "known"]) = true) : recIs "Live" m g (.sl i) = true := by
  unfold recIs
  dsimp only
  rw [hg]
  show (decide (("Live" : Str) = "Live") && decide (m ∉ [("chain" : Str), "present", "known"])) = true
  rw [h, decide_eq_true rfl]; rfl
local macro_rules | `(tactic| walk_at "w1") => `(tactic| ((with_reducible refine rec_and ?_ ?_); (· exact recL rfl (by decide))))
theorem lds_dq {g : G} {d : D} {i : Nat} {q : Addr} {b : Bool} {kk : OK} {cs : List Sm.F} {l : List D} (hg : g[i]? = some (.ob b kk cs)) (h : ldQ cs q = some l) : ldsC g [.d d, .pq i q] = some [d, .lst l] := by
  have h1 : ldC g (.pq i q) = some (.lst l) := ld_pq hg h
  have h2 : ldC g (.d d) = some d := rfl
  unfold ldsC ldsC ldsC
  rw [h1, h2]; rfl
theorem w_update {p : List Cmd} {q : Addr} {L kn : List Str} (hL : L.length ≤ 1000) (hk : kn.length ≤ 1000) {Q : R → G → Prop} (k : Q (.nw ((Nf.chgL kn (runL p L) 0).map encC)) [.ob true LK (lvP p q L (runL p L))]) : wF MLive_update [.ob true LK (lvP p q L kn)] Q := by
  refine w_dM rfl ?_
  unfold BLive_update
  show wS _ [.ob true LK (lvP p q L kn), .un] _
  walk_at "w"
  refine q_ldC (lds_dq rfl (ldQ_sd ldQ_hit)) ?_
  refine w_run hL fun g => ?_
  refine w_afty noLs_str ?_
  walk_at "w"
  refine w_changes hk (Nat.le_trans (runL_len _ _) hL) fun g => ?_
  refine w_afty (chgs_noL _) ?_
  walk_at "w"
  exact k
theorem x_insert {p : List Cmd} {q : Addr} {L kn : List Str} {x : Str} {i : Nat} (hi : i ≤ L.length) (hL : L.length < 1000) (hk : kn.length ≤ 1000) {QX : RX → Prop}
    (k : QX (.ok (.nw ((Nf.chgL kn (runL p (L.take i ++ [x] ++ L.drop i)) 0).map encC)) [.ob true LK (lvP p q (L.take i ++ [x] ++ L.drop i) (runL p (L.take i ++ [x] ++ L.drop i))), .fz (.int (i : Nat)), .fz (.str x)])) : wX XLive_insert [.ob true LK (lvP p q L kn), .fz (.int (i : Nat)), .fz (.str x)] QX := by
  refine w_dX rfl ?_
  unfold BLive_insert
  show wS _ [.ob true LK (lvP p q L kn), .fz (.int (i : Nat)), .fz (.str x)] _
  have hm : (L.take i ++ [x] ++ L.drop i).length ≤ 1000 := by simp; omega
  have hLm : (L.map D.str).length = L.length := List.length_map ..
  have he : (L.map D.str).take i ++ [D.str x] ++ (L.map D.str).drop i = (L.take i ++ [x] ++ L.drop i).map D.str := by
    rw [List.map_append, List.map_append, List.map_take, List.map_drop]; rfl
  walk_at "w"
  refine ⟨⟨rfl, by omega, by omega, by omega⟩, ?_⟩
  rw [Int.toNat_natCast, he]
  generalize L.take i ++ [x] ++ L.drop i = M at hm k
  walk_at "w"
  refine w_update hm hk ?_
  walk_at "w"
  exact k
theorem x_remove {p : List Cmd} {q : Addr} {L kn : List Str} {i : Nat} (hi : i < L.length) (hL : L.length ≤ 1000) (hk : kn.length ≤ 1000) {QX : RX → Prop}
    (k : QX (.ok (.nw ((Nf.chgL kn (runL p (L.take i ++ L.drop (i + 1))) 0).map encC)) [.ob true LK (lvP p q (L.take i ++ L.drop (i + 1)) (runL p (L.take i ++ L.drop (i + 1)))), .fz (.int (i : Nat))])) : wX XLive_remove [.ob true LK (lvP p q L kn), .fz (.int (i : Nat))] QX := by
  refine w_dX rfl ?_
  unfold BLive_remove
  show wS _ [.ob true LK (lvP p q L kn), .fz (.int (i : Nat))] _
  have hm : (L.take i ++ L.drop (i + 1)).length ≤ 1000 := by simp; omega
  have hLm : (L.map D.str).length = L.length := List.length_map ..
  have he : (L.map D.str).eraseIdx i = (L.take i ++ L.drop (i + 1)).map D.str := by
    rw [List.map_append, List.map_take, List.map_drop, List.eraseIdx_eq_take_drop_succ]
  have hat : (L.map D.str)[i]? = some (.str L[i]) := by rw [List.getElem?_map, List.getElem?_eq_getElem hi]; rfl
  walk_at "w"
  refine ⟨⟨rfl, by omega, by omega⟩, _, hat, ?_⟩
  rw [Int.toNat_natCast, he]
  dsimp only [flSet, lvP, List.getElem?_cons_zero, List.getElem?_cons_succ, List.set_cons_zero, List.set_cons_succ]
  generalize L.take i ++ L.drop (i + 1) = M at hm k
  walk_at "w"
  refine w_update hm hk ?_
  walk_at "w"
  exact k
theorem w_result1 {p : List Cmd} {L kn : List Str} {Q : R → G → Prop} (k : ∀ g, Q (.nw (kn.map D.str)) g) : wF MLive_result [.fz (.ins "Live" [("chain", .lst (p.map Cmd.enc)), ("present", .lst (L.map D.str)), ("known", .lst (kn.map D.str))])] Q := by
  refine w_dM rfl ?_
  unfold BLive_result
  show wS _ [.fz _] _
  walk_at "w"
  exact k _
theorem live_new {fs : G → Option (List R × G)} {g g1 : G} {rs : List R} {p : List Cmd} {l : List Str} (e : fs g = some (rs, g1)) (e2 : ldsC g1 rs = some [.lst (p.map Cmd.enc), .lst (l.map D.str)]) (hl : l.length ≤ 1000) :
    frz13 (eCallN (mkLiveN Mcheck_pipeline Mrun) fs) g = some ((LK, [.pd (.lst (p.map Cmd.enc)), .pl (l.map D.str), .pd (.lst ((runL p l).map D.str))]), g1) := by
  obtain ⟨r0, g0, e0, _⟩ := w_check (p := p) (Q := fun _ _ => True) fun _ => trivial
  obtain ⟨r1, g2, e1, h1⟩ := w_run (p := p) hl (Q := fun r _ => r = .nw ((runL p l).map D.str)) fun _ => rfl
  subst h1
  have hn : noLs (p.map Cmd.enc) = true ∧ noLs (l.map D.str) = true ∧ noLs ((runL p l).map D.str) = true := ⟨encs_noL p, noLs_str, noLs_str⟩
  have hp : noPs [.pl (p.map Cmd.enc), .pl (l.map D.str), .pl ((runL p l).map D.str)] = true := by
    unfold noPs noPs noPs noPs
    rw [hn.1, hn.2.1, hn.2.2]; rfl
  have hm : mkLiveN Mcheck_pipeline Mrun [.fz (.lst (p.map Cmd.enc)), .fz (.lst (l.map D.str))] = some ((LK, [.pl (p.map Cmd.enc), .pl (l.map D.str), .pl ((runL p l).map D.str)]), [.fz (.lst (p.map Cmd.enc)), .fz (.lst (l.map D.str))]) := by
    unfold mkLiveN
    try dsimp only
    rw [e0, e1]
    try dsimp only
    rw [show listD [.lst (p.map Cmd.enc)] = some (.nw (p.map Cmd.enc)) from rfl, show listD [.lst (l.map D.str)] = some (.nw (l.map D.str)) from rfl]
    try dsimp only
    rw [if_pos hn]
  have hN : eCallN (mkLiveN Mcheck_pipeline Mrun) fs g = some ((LK, [.pl (p.map Cmd.enc), .pl (l.map D.str), .pl ((runL p l).map D.str)]), g1) := by
    unfold eCallN
    rw [e]
    show (ldsC g1 rs).bind _ = _
    rw [e2]
    show (mkLiveN Mcheck_pipeline Mrun [.fz (.lst (p.map Cmd.enc)), .fz (.lst (l.map D.str))]).bind _ = _
    rw [hm]
    show (if noPs [.pl (p.map Cmd.enc), .pl (l.map D.str), .pl ((runL p l).map D.str)] = true then _ else _) = _
    rw [if_pos hp]
  unfold frz13
  rw [hN]
end Lw

/-! ## _law_written; keyword arguments; sTold -/
namespace Sm
open PySem L2
def apK (perm : List Nat) : Option (List R × G) → Option (List R × G)
  | some (rs, g) => if rs.length = perm.length then some (prm perm rs, g) else none
  | none => none
theorem v_aPerm {perm : List Nat} {fs : G → Option (List R × G)} {g : G} : aPerm perm fs g = apK perm (fs g) := by
  unfold aPerm apK
  cases fs g <;> rfl
theorem apK_some {perm : List Nat} {rs : List R} {g : G} : apK perm (some (rs, g)) = if rs.length = perm.length then some (prm perm rs, g) else none := rfl
theorem prm0 {a : R} : prm [0] [a] = [a] := rfl
theorem prm10 {a b : R} : prm [1, 0] [a, b] = [b, a] := rfl
theorem ones_nil : Ones [] [] = True := eq_true .nil
theorem ones_cons {s t : Slot} {g h : List Slot} : Ones (s :: g) (t :: h) = (One s t ∧ Ones g h) := propext ⟨fun q => by cases q with | cons a b => exact ⟨a, b⟩, fun q => .cons q.1 q.2⟩
theorem one_un : One .un .un = True := eq_true .un
theorem one_fz {d : D} : One (.fz d) (.fz d) = True := eq_true (.fz d)
theorem one_ol {b : Bool} {l : List D} : One (.ol b l) (.ol b l) = (noLs l = true) := propext ⟨fun q => by cases q with | ol _ h => exact h, fun h => .ol b h⟩
theorem one_mt {l : List D} : One (.ol false l) (.fz (.lst l)) = (noLs l = true) := propext ⟨fun q => by cases q with | mt h => exact h, fun h => .mt h⟩
end Sm
namespace Sp
open PySem L2 TL Sm Lw
local macro_rules | `(tactic| walk_at "ev") => `(tactic| simp (config := { implicitDefEqProofs := false }) only [*, _root_.eq_self, v_c, at0, at1, at2, ixn0, ixn1, ixn2, ixn03, ixn13, ixn23, List.drop_succ_cons, List.drop_zero,  v_var, varK_fz, varK_ol, v_bin, binK_some, binK2_some, binK3_some, valK_some, v_ldd, v_ldn, v_lds, ldK_ol, ldK_fz, v_frzd, v_frzn, v_frzs, frzK_ol, frzK_fz, v_frzs0, v_frzs1, frzsK_some, frzsK2_some, v_lds0, v_lds1, ldsK_some, ldsK2_some, v_ldCd, v_ldCn, v_ldCs, ldCK_ol, ldCK_fz, v_ldsC0, v_ldsC1, ldsCK_some, ldsCK2_some, v_anil, v_acons, aConsK_some, aConsK2_some, v_tup, tupK_some, tupK2_some, v_lst, lstK_some, lstK2_some,
  v_neg, negK_some, v_if, ifK_t, ifK_f, v_tst, tstK_some, v_band, v_bor, v_bnot, andK_t, andK_f, orK_t, orK_f, notK_some, v_and, v_or, v_not, andVK_t, andVK_f, orVK_t, orVK_f, notVK_some, v_chain, chK1_some, chK2_some, chK3_some, chK4_t, chK4_f, v_onone, v_osome, partK_some, v_sl, slK1_some, slK2_some, slK3_some, slK4_some, v_slL, v_slS, v_slT, v_slStr, v_rev, revK_some, revK2_l, v_cb, cbK_some, cbK2_some, v_m1, m1K_some, m1K2_some, m1K3_some,
  v_app, appK_ol, appK2_some, appK3_some, appK4_ol, v_pop, popK_ol, v_popAt, popAtK_ol, popAtK2_some, v_c0, c0K_some, c0K2_some, c0K3_some, c0K4_some, melt0, melt1, meltK_some, meltK2_ol, meltK2_fz, v_c1, c1K_some, c1K2_ol, c1K3_some, c1K4_some, c1K5_some, v_seq, seqK_nx, seqK_rt, seqK_ct, v_next, v_cont, v_expr, exprK_some, v_ret, retK_some, v_retN, v_asg, asgK_some, nxK_some, v_stN, v_stD, v_stS, stK_some, v_notT, notTK_fz, notTK_un, notTK_ol, v_sif, sifK_t, sifK_f,
  v_asgT, asgTK_some, asgTK2_some, v_gN, v_gT, v_gStar, v_pNil, v_pCons, pcK_some, pcK2_some, v_disp, dpK_some, dpK2_some, v_gNil, v_gCons, gConsK_some, v_par, parK_some, parK2_some, v_aPerm, apK_some, prm0, prm10, v_told, tdK1_some, tdK2_some, tdK3_some, tdK4_some, isFz_fz, ones_nil, ones_cons, one_un, one_fz, one_ol, one_mt, v_parO, parOK_some, parOK2_some, parOK3_some, v_aug, augK_fz, augK2_some, augK3_some, augK4_some, v_six, sixK_some, sixK2_some, sixK3_ol, sixK4_some, sixK5_ol, sixK6_some, v_for, forK_some, v_lc, v_yes, v_iL, v_iA, iLK_some, iAK_t, iAK_s, iAK_l, iAK_sls, iAK_sl, iAK_n, iLK2_l, iLK2_s, v_iR1, v_iR2, r2K_some, v_iEn, enK_some, outK_rt, outK_nx, outK2_some, v_rd, v_rn, v_rs, retRK_ol, retRK_fz,
  add_i, add_s, add_l, sub_i, mul_i, mod_i, div_i, pow_i, lt_i, le_i, gt_i, ge_i, eq_i, ne_i, eq_s, ne_s, is_n, isN_n, ix_l, ix_t, ix_s, len_l, len_s, len_t, len_str, abs_i, max_i, min_i, int_i, int_b, list_l, list_s, str_i, str_s, lent, noRs, noL, noLs, lcK2_some, v_sst, lcL_nil, lcL_cons, lcT1_some, lcT2_t, lcT2_f, lcT3_some, lcT4_some, lcT5_some, forL_nil, forL_cons, turnK_some, turnK2_nx, turnK2_ct, turnK2_rt, wipeG, restG,
  uns, List.replicate_succ, List.replicate_zero, List.getElem?_cons_zero, List.getElem?_cons_succ, List.getElem?_nil, List.set_cons_zero, List.set_cons_succ, List.set_nil, List.length_cons, List.length_nil, List.map_cons, List.map_nil, List.cons_append, List.nil_append, List.append_nil, List.take_succ_cons, List.take_zero, List.take_nil, Option.map_some, Option.map_none, Option.getD_some, Option.getD_none, List.not_mem_nil, not_false_eq_true, List.mem_cons, or_false, false_or,
  Nat.reduceAdd, Nat.reduceSub, Nat.reduceLT, Nat.reduceLeDiff, Int.reduceLT, Int.reduceLE, Int.reduceAdd, Int.reduceSub, Int.reduceMul, Int.reducePow, Int.reduceToNat, Int.reduceNeg, Int.reduceEq, Nat.reduceMul, Nat.reducePow, Nat.zero_add, Nat.add_zero, Nat.reduceEqDiff, nc0, nc1, nc2, nc3, decide_true, decide_false, Bool.and_true, Bool.and_false, Bool.true_and, Bool.false_and, Bool.or_true, Bool.or_false, Bool.not_true, Bool.not_false, if_true, if_false, reduceIte, Bool.false_eq_true, and_true, true_and, and_false, false_and, and_self, reduceCtorEq, Bool.and_self, decide_eq_true_eq])

def wr (q : List Cmd) : Str := if q = [] then (("" : String) : Str) else shows q
end Sp

/-! ## what repr tells of commands -/
namespace Sp
open PySem L2 TL Sm
theorem Rp.mono {n m B C : Nat} {d : D} (h : Rp n B d) (h1 : n ≤ m) (h2 : B ≤ C) : Rp m C d := by
  obtain ⟨p, a, b, c, e, f⟩ := h
  exact ⟨p, a, b, c, by omega, by omega⟩
theorem ne_str (s : Str) : cNe (.str s) (.str s) = some (.d (.bl false)) := by rw [ne_s, decide_eq_true rfl]; rfl
end Sp

namespace Lw
open PySem L2 TL Sm Sp Nf
local macro_rules | `(tactic| walk_at "lq") => `(tactic| first | exact ldQ_hit | exact ldQ_sk (by assumption) ldQ_hit | exact ldQ_sd ldQ_hit)
local macro_rules | `(tactic| walk_at "ld") => `(tactic| first | rfl | (apply ld_pq; (· rfl); (· walk_at "lq")))
local macro_rules | `(tactic| walk_at "lds") => `(tactic| first | rfl | (apply lds_pq; (· rfl); (· walk_at "lq")))
local macro_rules | `(tactic| walk_at "op") => `(tactic| first | (with_reducible first | assumption | exact add_i | exact sub_i | exact lt_i | exact le_i | exact gt_i | exact ge_i | exact eq_i | exact eq_b | exact ne_i | exact eq_s | exact ne_s | exact is_n | exact isN_n | exact isN_i | exact isN_s | exact isN_t | exact is_i | exact is_s | exact is_t | exact o_pow18 | exact o_pow29 | exact o_pow30 | exact o_pow15 | exact o_pow61 | exact len_l | exact len_s | exact len_t | exact abs_i | exact max_i | exact min_i | exact int_i | exact int_b | exact list_l | exact list_s) | (apply o_mul; (· omega); (· omega)) | (apply o_mod; omega) | (apply o_div; (· omega); (· first | assumption | decide)) | exact in2 | exact in3 | exact in4 | (apply o_ixl; (· first | exact at0 | exact at1 | exact atI_of (by assumption) | rfl)) | (apply o_ixt; (· first | exact at0 | exact at1 | exact atI_of (by assumption) | rfl)) | (apply o_ixs; rfl))
local macro_rules | `(tactic| walk_at "nt") => `(tactic| first | rfl | with_reducible assumption | exact jk_nt (by with_reducible assumption))
local macro_rules | `(tactic| walk_at "ky") => `(tactic| first | exact ky_li | exact ky_d0 | exact ky_d1 | exact ky_d2 | exact ky_d3 | exact ky_n0 | exact ky_n1 | exact ky_n2)
local macro_rules | `(tactic| walk_at "n") => `(tactic| try dsimp only [List.set_cons_zero, List.set_cons_succ, flSet, List.getElem?_cons_zero, List.getElem?_cons_succ, List.take_succ_cons, List.take_zero, wipeG, restG, Option.getD_some, Rof])
local macro_rules | `(tactic| walk_at "w1") => `(tactic| first
  | with_reducible refine w_seq ?_
  | with_reducible refine sq_nx ?_
  | with_reducible refine sq_rt ?_
  | with_reducible refine sq_ct ?_
  | with_reducible refine tq_nx ?_
  | with_reducible refine tq_ct ?_
  | with_reducible refine tq_rt ?_
  | with_reducible refine w_asg ?_
  | with_reducible refine sq_xc ?_
  | with_reducible refine turnQ.xc ?_
  | with_reducible refine fnXQ.xc ?_
  | (refine fnXQ.nx ?_; walk_at "n")
  | (apply fnXQ.rt; (· rfl); walk_at "n")
  | (apply w_var; (· rfl))
  | with_reducible refine w_c ?_
  | with_reducible refine w_bin ?_
  | (apply w_op; (· walk_at "ld"); (· walk_at "ld"); (· walk_at "op"))
  | (apply w_asd; (· walk_at "nt"); walk_at "n")
  | (apply w_asn; (· walk_at "nt"); walk_at "n")
  | (apply w_ass; (· rfl); (· walk_at "nt"); walk_at "n")
  | with_reducible refine w_sif ?_
  | with_reducible refine w_tst ?_
  | with_reducible refine q_bl ?_
  | with_reducible refine q_d ?_
  | with_reducible refine q_int ?_
  | with_reducible refine q_str ?_
  | with_reducible refine q_nw ?_
  | (apply q_ol; (· rfl))
  | (apply q_ob; (· rfl))
  | (apply q_fl; (· (apply flAt_of; (· rfl); (· walk_at "ky"); (· rfl))))
  | (apply q_seq; (· rfl))
  | (apply q_ldC; (· rfl))
  | (apply q_ldl; (· rfl))
  | (apply q_rev; (· rfl))
  | (apply q_revs; (· rfl))
  | with_reducible refine q_two ?_
  | with_reducible refine q_rs ?_
  | with_reducible refine q_anyt ?_
  | with_reducible refine q_anyl ?_
  | with_reducible refine q_anyS ?_
  | with_reducible refine q_anyn ?_
  | (apply q_anys; (· rfl); walk_at "n")
  | (apply q_bakL; (· exact .inr rfl); walk_at "n")
  | (apply q_bakO; (· exact .inr rfl); walk_at "n")
  | (apply q_aug; (· rfl); (· walk_at "op"))
  | with_reducible refine w_band ?_
  | with_reducible refine w_bor ?_
  | with_reducible refine w_bnot ?_
  | with_reducible refine wl_f ?_
  | with_reducible refine wl_t ?_
  | with_reducible refine if_t ?_
  | with_reducible refine if_f ?_
  | with_reducible refine if_nbf ?_
  | with_reducible refine if_nbt ?_
  | (apply if_dt; (· first | decide | omega | (simp only [List.length_cons, List.length_nil]; omega)))
  | (apply if_df; (· first | decide | omega | (simp only [List.length_cons, List.length_nil]; omega)))
  | (apply if_nt; (· first | decide | omega | (simp only [List.length_cons, List.length_nil]; omega)))
  | (apply if_nf; (· first | decide | omega | (simp only [List.length_cons, List.length_nil]; omega)))
  | with_reducible refine w_ret ?_
  | with_reducible refine w_expr ?_
  | with_reducible refine w_next ?_
  | with_reducible refine w_cont ?_
  | with_reducible refine w_retN ?_
  | (apply q_ins; (· rfl); (· first | exact slc_nd | exact frm_nd | exact lv_nd); (· first | exact f_skip | exact f_chop | exact f_sizes | exact f_slices | exact f_words | exact f_isrev | exact f_chain | exact f_present | exact f_known))
  | (apply w_fnrt; (· rfl); walk_at "n")
  | (refine w_fnnx ?_; walk_at "n")
  | with_reducible refine w_acons ?_
  | with_reducible refine w_anil ?_
  | with_reducible refine w_c1 ?_
  | (apply w_c1ol; (· first | exact lent_no rfl | decide); (· rfl); (· rfl))
  | (apply w_c1ob; (· first | exact lent_no rfl | decide); (· rfl); (· rfl))
  | with_reducible refine w_c0 ?_
  | (apply w_afty; (· first | rfl | with_reducible assumption))
  | (apply w_aft0; (· rfl))
  | with_reducible refine w_tup ?_
  | with_reducible refine w_lst ?_
  | with_reducible refine w_fr0 ?_
  | with_reducible refine w_frd ?_
  | with_reducible refine w_frn ?_
  | (apply w_frs; (· rfl); walk_at "n")
  | (apply w_fz; (· rfl); walk_at "n")
  | with_reducible refine w_cb ?_
  | (apply w_cbq; (· walk_at "lds"); (· walk_at "op"))
  | with_reducible refine w_if ?_
  | with_reducible refine w_and ?_
  | with_reducible refine w_or ?_
  | with_reducible refine w_not ?_
  | with_reducible refine w_neg ?_
  | with_reducible refine w_chain ?_
  | (apply w_ch; (· walk_at "ld"); (· walk_at "ld"); (· walk_at "op"))
  | with_reducible refine w_sl ?_
  | with_reducible refine w_on ?_
  | with_reducible refine w_os ?_
  | (apply w_slq; (· walk_at "ld"); (· first | with_reducible assumption | rfl))
  | with_reducible refine w_rev ?_
  | with_reducible refine w_perm ?_
  | with_reducible refine w_recA ?_
  | (apply w_part; (· rfl); (· walk_at "ky"); (· rfl); walk_at "n")
  | with_reducible refine w_fld ?_
  | with_reducible refine w_sd ?_
  | with_reducible refine w_put ?_
  | (apply w_augP; (· rfl); (· rfl); (· walk_at "ky"))
  | (apply w_aug; (· rfl))
  | with_reducible refine w_six ?_
  | with_reducible refine w_sixP ?_
  | (refine And.intro ?_ ?_; (· (refine And.intro ?_ (And.intro ?_ ?_); (· walk_at "ky"); (· (simp only [List.length_cons, List.length_nil, List.length_set]; decide)); (· (simp only [List.length_cons, List.length_nil, List.length_set]; decide)))); walk_at "n")
  | ((with_reducible refine le_and ?_ ?_); (· first | omega | exact of_decide_eq_true rfl | (simp only [List.length_cons, List.length_nil]; decide)))
  | ((with_reducible refine nt1_and ?_ ?_); (· walk_at "nt"); walk_at "n")
  | ((with_reducible refine nt_and ?_ ?_ ?_); (· walk_at "nt"); (· walk_at "nt"); walk_at "n")
  | (apply w_app; (· rfl))
  | (apply w_appP; (· (apply flAt_of; (· rfl); (· walk_at "ky"); (· rfl))))
  | (apply w_popAt; (· rfl))
  | (apply w_popAtP; (· (apply flAt_of; (· rfl); (· walk_at "ky"); (· rfl))))
  | (apply w_insP; (· (apply flAt_of; (· rfl); (· walk_at "ky"); (· rfl))))
  | (apply w_ext; (· rfl))
  | (apply w_ins; (· rfl))
  | with_reducible refine w_for ?_
  | with_reducible refine w_iR1 ?_
  | with_reducible refine w_iR2 ?_
  | with_reducible refine w_iA ?_
  | with_reducible refine w_iEn ?_
  | with_reducible refine w_iZ ?_
  | (apply w_gN; (· walk_at "nt"); walk_at "n")
  | (apply w_gT; (· rfl))
  | with_reducible refine w_g1 ?_
  | with_reducible refine w_g0 ?_
  | (apply w_gStar; (· walk_at "nt"); (· walk_at "nt"); walk_at "n")
  | (apply uq_nx; (· rfl))
  | (apply uq_rt; (· rfl))
  | with_reducible refine turnQ.nx ?_
  | with_reducible refine tryQ.nx ?_
  | with_reducible refine tryQ.rt ?_
  | with_reducible refine w_asgT ?_
  | with_reducible refine w_par ?_
  | with_reducible refine w_par3 ?_
  | with_reducible refine q_ds3 ?_
  | with_reducible refine w_parN ?_
  | with_reducible refine w_parO ?_
  | with_reducible refine w_lc ?_
  | with_reducible refine w_yes ?_
  | with_reducible refine w_raise ?_
  | with_reducible refine w_callX ?_
  | with_reducible refine w_try ?_
  | (apply w_xv; (· rfl))
  | (apply w_is; (· rfl))
  | with_reducible refine w_m1 ?_)
local macro_rules | `(tactic| walk_at "w") => `(tactic| repeat walk_at "w1")
local macro_rules | `(tactic| walk_at "u") => `(tactic| repeat ((fail_if_success (with_reducible refine u_stop ?_)); (fail_if_success (with_reducible refine u_stop2 ?_)); walk_at "w1"))
local macro_rules | `(tactic| walk_at "v") => `(tactic| repeat ((fail_if_success (with_reducible refine v_stop ?_)); walk_at "w1"))
/-! ### the pool -/
def Po (N : Nat) (l : List D) : Prop := ∃ a b c : Int, l = [.int a, .int b, .int c] ∧ 0 ≤ a ∧ 0 ≤ b ∧ b < 1000000000000000000000000 ∧ 0 ≤ c ∧ c ≤ N
theorem Po.mono {N M : Nat} {l : List D} (h : Po N l) (hm : N ≤ M) : Po M l := by
  obtain ⟨a, b, c, h1, h2, h3, h4, h5, h6⟩ := h
  exact ⟨a, b, c, h1, h2, h3, h4, h5, by omega⟩
theorem Po.noL {N : Nat} {l : List D} (h : Po N l) : noLs l = true := by
  obtain ⟨a, b, c, rfl, _⟩ := h; rfl
theorem powB {x : Int} {k B : Nat} (h0 : 0 ≤ x) (hB : 0 < B) (h : x.natAbs < 2 ^ B) (hk : B * k ≤ 1000000) : powD (.int x) (.int (k : Nat)) = some (.d (.int (x ^ k))) := by
  rw [pow_i]
  have hl : x.natAbs.log2 < B := log2_lt hB h
  rw [if_pos]
  · rfl
  · refine ⟨by omega, ?_⟩
    have h2 : (x.natAbs.log2 + 1) * k ≤ B * k := Nat.mul_le_mul_right k hl
    have h3 : (((x.natAbs.log2 + 1) * k : Nat) : Int) = ((x.natAbs.log2 + 1 : Nat) : Int) * (k : Int) := by rw [Int.natCast_mul]
    omega
theorem pdr {N : Nat} {l : List D} {n : Int} {Q : R → G → Prop} (h : Po N l) (hN : N < 1000000000) (hn : 0 < n) (hl : n < 10000000000000000000000000000000000)
    (k : ∀ (v : Int) (l' : List D), 0 ≤ v → v < n → Po (N + 1) l' → Q (.d (.int v)) [.ol true l', .fz (.int n)]) : wF Mo_law_draw [.ol true l, .fz (.int n)] Q := by
  obtain ⟨a, b, c, rfl, h1, h2, h3, h4, h5⟩ := h
  have hlog : n.natAbs.log2 < 9000 := log2_lt (by decide) (Nat.lt_of_lt_of_le (m := 10000000000000000000000000000000000) (by omega) (by decide))
  refine w_dM rfl ?_
  unfold Bo_law_draw
  show wS _ [.ol true [.int a, .int b, .int c], .fz (.int n), .un, .un] _
  have m1 : mulD (.int 86028121) (.int (c + 1)) = some (.d (.int (86028121 * (c + 1)))) := o_mul (by omega) (by omega)
  have m2 : mulD (.int 122949823) (.int (c + 1)) = some (.d (.int (122949823 * (c + 1)))) := o_mul (by omega) (by omega)
  obtain ⟨P, hP⟩ : ∃ P, (b + 86028121 * (c + 1)) ^ 3 = P := ⟨_, rfl⟩
  have p3 : powD (.int (b + 86028121 * (c + 1))) (.int 3) = some (.d (.int P)) := by
    rw [← hP]
    exact powB (k := 3) (B := 100) (by omega) (by decide) (Nat.lt_of_lt_of_le (m := 1000000000000000000000000000) (by omega) (by decide)) (by decide)
  obtain ⟨M, hM⟩ : ∃ M, P % 162259276829213363391578010288127 = M := ⟨_, rfl⟩
  have hm0 : 0 ≤ M := by rw [← hM]; exact Int.emod_nonneg _ (by decide)
  have hm1 : M < 162259276829213363391578010288127 := by rw [← hM]; exact Int.emod_lt_of_pos _ (by decide)
  obtain ⟨P2, hP2⟩ : ∃ P2, (M + 122949823 * (c + 1)) ^ 5 = P2 := ⟨_, rfl⟩
  have p5 : powD (.int (M + 122949823 * (c + 1))) (.int 5) = some (.d (.int P2)) := by
    rw [← hP2]
    exact powB (k := 5) (B := 140) (by omega) (by decide) (Nat.lt_of_lt_of_le (m := 1000000000000000000000000000000000) (by omega) (by decide)) (by decide)
  have md : modD (.int P) (.int 162259276829213363391578010288127) = some (.d (.int M)) := by rw [← hM]; exact o_mod (by decide)
  clear hP hP2 hM
  have i2 : ∀ c : Int, ixD (.lst [.int a, .int b, .int c]) (.int 2) = some (.d (.int c)) := fun _ => rfl
  have i20 := i2 c
  have i21 := i2 (c + 1)
  have i10 : ixD (.lst [.int a, .int b, .int (c + 1)]) (.int 1) = some (.d (.int b)) := rfl
  clear i2
  walk_at "w"
  refine if_d (fun h => ?_) (fun h => ?_)
  · walk_at "w"
    refine ⟨0, rfl, ?_⟩
    walk_at "w"
    exact k _ _ (Int.emod_nonneg _ (by omega)) (Int.emod_lt_of_pos _ hn) ⟨_, b, c, rfl, Int.ediv_nonneg h1 (by omega), h2, h3, h4, by omega⟩
  · walk_at "w"
    refine ⟨2, rfl, ?_⟩
    show seqQ _ _ (.nx [.ol true [.int a, .int b, .int (c + 1)], .fz (.int n), .un, .un])
    walk_at "w"
    exact k _ _ (Int.emod_nonneg _ (by omega)) (Int.emod_lt_of_pos _ hn) ⟨a, b, c + 1, rfl, h1, h2, h3, by omega, by omega⟩
theorem ppool {ns : List Int} (hns : ns.length ≤ 63) {at_ : Nat} (hat : at_ ≤ 63) {Q : R → G → Prop} (k : ∀ l, Po 0 l → Q (.nw l) [.fz (.sls (ns.map D.int)), .fz (.int at_)]) : wF M_law_pool [.fz (.sls (ns.map D.int)), .fz (.int at_)] Q := by
  refine w_dM rfl ?_
  unfold B_law_pool
  show wS _ [.fz (.sls (ns.map D.int)), .fz (.int at_), .un] _
  walk_at "w"
  have hl : lenD [.sls (ns.map D.int)] = some (.d (.int ((ns.map D.int).length : Nat))) := rfl
  walk_at "w"
  refine if_d (fun h => ?_) (fun h => ?_)
  · have hi : at_ < ns.length := by rw [List.length_map] at h; omega
    have ha : ixD (.sls (ns.map D.int)) (.int at_) = some (.d (.int ns[at_])) := o_ixs (atI_of (by rw [List.getElem?_map, List.getElem?_eq_getElem hi]; rfl))
    walk_at "w"
    refine k _ ⟨_, _, 0, rfl, ?_, by omega, by omega, by decide, by decide⟩
    split <;> omega
  · walk_at "w"
    refine k _ ⟨_, _, 0, rfl, ?_, by omega, by omega, by decide, by decide⟩
    split <;> omega
/-! ### pipelines, words, lines are drawn from the pool -/
theorem picks {α : Type} (f : α → D) : ∀ (l : List α) (w : Int), 0 ≤ w → w < l.length → ∃ x ∈ l, ixD (.lst (l.map f)) (.int w) = some (.d (f x)) := fun l w h0 h1 => by
  obtain ⟨i, rfl⟩ := Int.eq_ofNat_of_zero_le h0
  have hi : i < l.length := by omega
  exact ⟨l[i], List.getElem_mem hi, o_ixl (atI_of (by rw [List.getElem?_map, List.getElem?_eq_getElem hi]; rfl))⟩
theorem pnumber {N : Nat} {l : List D} {Q : R → G → Prop} (h : Po N l) (hN : N < 900000000) (k : ∀ (v : Nat) l', v < 100000000000000000000000000000 → Po (N + 5) l' → Q (.d (.int (v : Nat))) [.ol true l']) : wF M_law_number [.ol true l] Q := by
  refine w_dM rfl ?_
  unfold B_law_number
  show wS _ [.ol true l, .un] _
  walk_at "w"
  refine pdr h (by omega) (by decide) (by decide) fun a l1 a0 a1 h1 => ?_
  walk_at "w"
  refine pdr h1 (by omega) (by decide) (by decide) fun b l2 b0 b1 h2 => ?_
  walk_at "w"
  refine pdr h2 (by omega) (by decide) (by decide) fun c l3 c0 c1 h3 => ?_
  walk_at "w"
  refine pdr h3 (by omega) (by decide) (by decide) fun d l4 d0 d1 h4 => ?_
  walk_at "w"
  refine pdr h4 (by omega) (by decide) (by decide) fun w l5 w0 w1 h5 => ?_
  obtain ⟨x, hx, hix⟩ := picks D.int [0, 1, 2, 3, a, b, c, d] w w0 w1
  have hx2 : 0 ≤ x ∧ x < 100000000000000000000000000000 := by
    simp only [List.mem_cons, List.not_mem_nil, or_false] at hx
    rcases hx with rfl | rfl | rfl | rfl | rfl | rfl | rfl | rfl <;> omega
  have hix : ixD (.lst [.int 0, .int 1, .int 2, .int 3, .int a, .int b, .int c, .int d]) (.int w) = some (.d (.int x)) := hix
  obtain ⟨v, rfl⟩ := Int.eq_ofNat_of_zero_le hx2.1
  clear hx
  walk_at "w"
  exact k v l5 (by omega) h5
def cnumL : Cmd → Nat
  | .num _ n => n
  | .pl _ => 0
theorem pstages {N : Nat} {l : List D} {most : Nat} {Q : R → G → Prop} (h : Po N l) (hN : N < 800000000) (hm : most ≤ 100)
    (k : ∀ (p : List Cmd) l', p.length ≤ most → (∀ c ∈ p, cnumL c < 100000000000000000000000000020) → Po (N + 1 + 10 * most) l' → Q (.nw (p.map Cmd.enc)) [.ol true l', .fz (.int (most : Nat))]) : wF M_law_stages [.ol true l, .fz (.int (most : Nat))] Q := by
  refine w_dM rfl ?_
  unfold B_law_stages
  show wS _ [.ol true l, .fz (.int (most : Nat)), .un, .un, .un, .un] _
  walk_at "w"
  refine pdr (n := (most : Int) + 1) h (by omega) (by omega) (by omega) fun v l1 v0 v1 h1 => ?_
  walk_at "w"
  refine ⟨by omega, ?_⟩
  refine for_n (fun i g => ∃ (l' : List D) (p : List Cmd) (x3 x4 x5 : Slot), g = [.ol true l', .fz (.int (most : Nat)), .ol false (p.map Cmd.enc), x3, x4, x5] ∧ (Jk x3 ∧ Jk x4 ∧ Jk x5) ∧ Po (N + 1 + 10 * i) l' ∧ p.length = i ∧ ∀ c ∈ p, cnumL c < 100000000000000000000000000020) ⟨l1, [], _, _, _, rfl, ⟨jk_un, jk_un, jk_un⟩, h1, rfl, fun _ z => nomatch z⟩ ?_ ?_
  · rintro i d g hi hd ⟨l2, p, x3, x4, x5, rfl, ⟨j3, j4, j5⟩, h2, hl, hp⟩
    rw [rangeD_len] at hi
    unfold rangeD at hd
    obtain ⟨i5, hi5, rfl⟩ := List.mem_map.mp hd
    clear hd hi5
    have hin : ∀ c : Cmd, cnumL c < 100000000000000000000000000020 → ∀ e ∈ p ++ [c], cnumL e < 100000000000000000000000000020 := fun c hc e he => by
      rcases List.mem_append.mp he with he | he
      · exact hp e he
      · rw [List.mem_singleton.mp he]; exact hc
    walk_at "w"
    refine pdr h2 (by omega) (by decide) (by decide) fun w l3 w0 w1 h3 => ?_
    walk_at "w"
    refine if_d (fun h5 => ?_) (fun h5 => ?_)
    · obtain ⟨a, _, ha⟩ := picks (fun a : Nm => D.str a.str) [.head, .tail, .skip, .chop, .skip] w w0 h5
      have ha : ixD (.lst [.str (("head" : String) : Str), .str (("tail" : String) : Str), .str (("skip" : String) : Str), .str (("chop" : String) : Str), .str (("skip" : String) : Str)]) (.int w) = some (.d (.str a.str)) := ha
      walk_at "w"
      refine pnumber h3 (by omega) fun v l4 hv h4 => ?_
      walk_at "w"
      refine pdr h4 (by omega) (by decide) (by decide) fun u l5 u0 u1 h5' => ?_
      obtain ⟨x, hx, hix⟩ := picks D.int [0, 4, 20] u u0 u1
      have hx2 : 0 ≤ x ∧ x ≤ 20 := by
        simp only [List.mem_cons, List.not_mem_nil, or_false] at hx
        rcases hx with rfl | rfl | rfl <;> omega
      have hix : ixD (.lst [.int 0, .int 4, .int 20]) (.int u) = some (.d (.int x)) := hix
      clear hx
      have hint : intD [.bl (decide (w < 2))] = some (.d (.int (if decide (w < 2) = true then 1 else 0))) := by cases decide (w < 2) <;> rfl
      obtain ⟨y, hy, hy20⟩ : ∃ y : Nat, mulD (.int x) (.int (if decide (w < 2) = true then 1 else 0)) = some (.d (.int (y : Nat))) ∧ y ≤ 20 := by
        split
        · exact ⟨x.toNat, by rw [o_mul (by omega) (by decide), Int.mul_one, Int.toNat_of_nonneg hx2.1], by omega⟩
        · exact ⟨0, by rw [o_mul (by omega) (by decide), Int.mul_zero]; rfl, by omega⟩
      walk_at "w"
      refine ⟨by rw [List.length_map]; omega, ?_⟩
      walk_at "w"
      refine ⟨l5, p ++ [.num a (v + y)], _, _, _, by rw [List.map_append]; rfl, ⟨jk_fz, jk_fz, jk_fz⟩, h5'.mono (by omega), by rw [List.length_append, hl]; rfl, hin _ ?_⟩
      show v + y < _
      omega
    · obtain ⟨a, _, ha⟩ := picks (fun a : Pl => D.str a.str) [.reverse, .uniq, .sort] (w - 5) (by omega) (by show w - 5 < 3; omega)
      have ha : ixD (.lst [.str (("reverse" : String) : Str), .str (("uniq" : String) : Str), .str (("sort" : String) : Str)]) (.int (w - 5)) = some (.d (.str a.str)) := ha
      walk_at "w"
      refine ⟨by rw [List.length_map]; omega, ?_⟩
      walk_at "w"
      refine ⟨l3, p ++ [.pl a], _, _, _, by rw [List.map_append]; rfl, ⟨jk_fz, jk_fz, j5⟩, h3.mono (by omega), by rw [List.length_append, hl]; rfl, hin _ ?_⟩
      show 0 < _
      decide
  · rintro g ⟨l2, p, x3, x4, x5, rfl, ⟨j3, j4, j5⟩, h2, hl, hp⟩
    rw [rangeD_len] at h2 hl
    walk_at "w"
    exact k p l2 (by omega) hp (h2.mono (by omega))
def Okt (L : List Str) : Prop := ∀ x ∈ L, PyData.strOk x = true
abbrev WRDS : List Str := ["a", "b", "c", "B", "", " ", "ab", "aa", "~", "a line of 20 letters"]
theorem wrds_ok : Okt WRDS := fun x hx => strOk_of ((by decide : ∀ x ∈ WRDS, ∀ c ∈ tl x, c < 0x110000) x hx)
theorem map_erase {α β : Type} (f : α → β) : ∀ (l : List α) (j : Nat), (l.map f).eraseIdx j = (l.eraseIdx j).map f
  | [], _ => rfl
  | _ :: _, 0 => rfl
  | a :: l, j + 1 => by rw [List.map_cons, List.eraseIdx_cons_succ, map_erase f l j]; rfl
theorem pwords {N : Nat} {l : List D} {Q : R → G → Prop} (h : Po N l) (hN : N < 800000000)
    (k : ∀ (W : List Str) l', 2 ≤ W.length → W.length ≤ 6 → Okt W → (∀ x ∈ W, x ∈ WRDS) → Po (N + 10) l' → Q (.nw (W.map D.str)) [.ol true l']) : wF M_law_words [.ol true l] Q := by
  refine w_dM rfl ?_
  unfold B_law_words
  show wS _ [.ol true l, .un, .un] _
  walk_at "w"
  refine pdr h (by omega) (by decide) (by decide) fun v l1 v0 v1 h1 => ?_
  walk_at "w"
  refine ⟨by omega, ?_⟩
  walk_at "w"
  refine ⟨⟨rfl, by rw [rangeD_len]; omega⟩, ?_⟩
  walk_at "n"
  refine lc_by (fun pr acc g => ∃ (l' : List D) (L W : List Str) (x : Slot), g = [.ol true l', .ol false (L.map D.str), x] ∧ Jk x ∧ Po (N + 1 + pr.length) l' ∧ L.length + pr.length = 10 ∧ (∀ x ∈ L, x ∈ WRDS) ∧ acc = W.map D.str ∧ W.length = pr.length ∧ ∀ x ∈ W, x ∈ WRDS) ⟨l1, WRDS, [], _, rfl, jk_un, h1, rfl, fun _ z => z, rfl, rfl, fun _ z => nomatch z⟩ ?_ ?_
  · rintro pr d rest acc g e ⟨l2, L, W, x, rfl, jx, h2, hL1, hL2, rfl, hW1, hW2⟩
    obtain ⟨rfl, hlt⟩ := range_at e
    clear e
    walk_at "w"
    refine pdr (n := ((L.map D.str).length : Int)) h2 (by omega) (by rw [List.length_map]; omega) (by rw [List.length_map]; omega) fun u l3 u0 u1 h3 => ?_
    obtain ⟨j, rfl⟩ := Int.eq_ofNat_of_zero_le u0
    rw [List.length_map] at u1
    have hj : j < L.length := by omega
    walk_at "w"
    refine ⟨⟨by omega, by omega⟩, .str L[j], by rw [Int.toNat_natCast, List.getElem?_map, List.getElem?_eq_getElem hj]; rfl, ?_⟩
    walk_at "w"
    refine ⟨l3, L.eraseIdx j, W ++ [L[j]], .un, ?_, jk_un, by rw [List.length_append]; exact h3.mono (by simp; omega), ?_, fun y hy => hL2 y (List.mem_of_mem_eraseIdx hy), by rw [List.map_append]; rfl, by rw [List.length_append, List.length_append, hW1]; rfl, fun y hy => ?_⟩
    · rw [Int.toNat_natCast, map_erase]
    · rw [List.length_eraseIdx_of_lt hj, List.length_append]; simp; omega
    · rcases List.mem_append.mp hy with hy | hy
      · exact hW2 y hy
      · rw [List.mem_singleton.mp hy]; exact hL2 _ (List.getElem_mem hj)
  · rintro out g ⟨l2, L, W, x, rfl, jx, h2, hL1, hL2, rfl, hW1, hW2⟩
    rw [rangeD_len] at h2 hW1
    walk_at "w"
    exact k W l2 (by omega) (by omega) (fun x hx => wrds_ok x (hW2 x hx)) hW2 (h2.mono (by omega))
theorem ne_nilS (L : List Str) (hL : Okt L) : cNe (.lst (L.map D.str)) (.lst []) = some (.d (.bl (!decide (L = [])))) := by
  have hs : Shp 1 (.lst (L.map D.str)) := shp_lst (n := 0) (shpL_of fun d hd => by obtain ⟨s, hs, rfl⟩ := List.mem_map.mp hd; exact shp_str _ (hL s hs))
  obtain ⟨b, h, k⟩ := cNe_nb (n := 1) (by decide) hs (shp_lst (n := 0) (shpL_nil _)) (show nbL (L.map D.str) = true from nbL_str) rfl
  rw [h]
  congr 3
  cases L with
  | nil => rw [decide_eq_true rfl]; exact k.mpr rfl
  | cons x L =>
    cases b with
    | true => rfl
    | false => exact absurd (D.lst.inj (k.mp rfl)) (by simp)
theorem prows {N : Nat} {l : List D} {W : List Str} {most : Nat} {Q : R → G → Prop} (h : Po N l) (hN : N < 800000000) (hm : most ≤ 1000) (hW0 : 0 < W.length) (hW1 : W.length ≤ 100) (hW : Okt W)
    (k : ∀ (L : List Str) l', L.length ≤ most → Okt L → (∀ x ∈ L, x ∈ W) → Po (N + 2 + 2 * most) l' → Q (.nw (L.map D.str)) [.ol true l', .fz (.lst (W.map D.str)), .fz (.int (most : Nat))]) : wF M_law_rows [.ol true l, .fz (.lst (W.map D.str)), .fz (.int (most : Nat))] Q := by
  refine w_dM rfl ?_
  unfold B_law_rows
  show wS _ [.ol true l, .fz (.lst (W.map D.str)), .fz (.int (most : Nat)), .un, .un, .un, .un] _
  walk_at "w"
  refine pdr h (by omega) (by decide) (by decide) fun v l1 v0 v1 h1 => ?_
  walk_at "w"
  refine pdr (n := (most : Int) + 1) h1 (by omega) (by omega) (by omega) fun u l2 u0 u1 h2 => ?_
  walk_at "w"
  refine ⟨by omega, ?_⟩
  refine for_n (fun i g => ∃ (l' : List D) (L : List Str) (x5 x6 : Slot), g = [.ol true l', .fz (.lst (W.map D.str)), .fz (.int (most : Nat)), .ol false (L.map D.str), .fz (.int (1 + v)), x5, x6] ∧ (Jk x5 ∧ Jk x6) ∧ Po (N + 2 + 2 * i) l' ∧ L.length = i ∧ ∀ x ∈ L, x ∈ W) ⟨l2, [], _, _, rfl, ⟨jk_un, jk_un⟩, h2, rfl, fun _ z => nomatch z⟩ ?_ ?_
  · rintro i d g hi hd ⟨l3, L, x5, x6, rfl, ⟨j5, j6⟩, h3, hl, hL⟩
    rw [rangeD_len] at hi
    unfold rangeD at hd
    obtain ⟨i5, hi5, rfl⟩ := List.mem_map.mp hd
    clear hd hi5
    have hne := ne_nilS L fun x hx => hW x (hL x hx)
    have hin : ∀ c ∈ W, ∀ e ∈ L ++ [c], e ∈ W := fun c hc e he => by
      rcases List.mem_append.mp he with he | he
      · exact hL e he
      · rw [List.mem_singleton.mp he]; exact hc
    walk_at "w"
    refine ⟨fun hb => ?_, fun hb => ?_⟩
    · have hLn : L ≠ [] := by
        intro e
        rw [decide_eq_true e] at hb
        cases hb
      walk_at "w"
      refine pdr (n := 1 + v) h3 (by omega) (by omega) (by omega) fun t l4 t0 t1 h4 => ?_
      walk_at "w"
      refine if_d (fun ht => ?_) (fun ht => ?_)
      · obtain ⟨L', z, rfl⟩ : ∃ L' z, L = L' ++ [z] := by
          rcases snocC L with h | h
          · exact absurd h hLn
          · exact h
        have hat : atI ((L' ++ [z]).map D.str) (-1) = some (.str z) := by
          rw [List.map_append]
          unfold atI
          rw [show ixN (L'.map D.str ++ [z].map D.str).length (-1) = some L'.length by
            unfold ixN
            simp
            omega]
          simp
        walk_at "w"
        refine w_op rfl rfl (o_ixl hat) ?_
        walk_at "w"
        refine ⟨by rw [List.length_map]; omega, ?_⟩
        walk_at "w"
        exact ⟨l4, (L' ++ [z]) ++ [z], _, _, by rw [List.map_append (l₂ := [z]) (l₁ := L' ++ [z])]; rfl, ⟨jk_fz, jk_fz⟩, h4.mono (by omega), by rw [List.length_append, hl]; rfl, hin z (hL z (by simp))⟩
      · walk_at "w"
        refine pdr (n := ((W.map D.str).length : Int)) h4 (by omega) (by rw [List.length_map]; omega) (by rw [List.length_map]; omega) fun t l5 t0 t1 h5 => ?_
        obtain ⟨x, hx, hix⟩ := picks D.str W t t0 (by rw [List.length_map] at t1; exact t1)
        walk_at "w"
        refine ⟨by rw [List.length_map]; omega, ?_⟩
        walk_at "w"
        exact ⟨l5, L ++ [x], _, _, by rw [List.map_append]; rfl, ⟨jk_fz, jk_fz⟩, h5.mono (by omega), by rw [List.length_append, hl]; rfl, hin x hx⟩
    · walk_at "w"
      refine pdr (n := ((W.map D.str).length : Int)) h3 (by omega) (by rw [List.length_map]; omega) (by rw [List.length_map]; omega) fun t l5 t0 t1 h5 => ?_
      obtain ⟨x, hx, hix⟩ := picks D.str W t t0 (by rw [List.length_map] at t1; exact t1)
      walk_at "w"
      refine ⟨by rw [List.length_map]; omega, ?_⟩
      walk_at "w"
      exact ⟨l5, L ++ [x], _, _, by rw [List.map_append]; rfl, ⟨jk_fz, jk_fz⟩, h5.mono (by omega), by rw [List.length_append, hl]; rfl, hin x hx⟩
  · rintro g ⟨l3, L, x5, x6, rfl, ⟨j5, j6⟩, h3, hl, hL⟩
    rw [rangeD_len] at h3 hl
    walk_at "w"
    exact k L l3 (by omega) (fun x hx => hW x (hL x hx)) hL (h3.mono (by omega))
theorem dup_mem : ∀ (l : List Str) (x y : Str), y ∈ dupF x l → y ∈ l
  | [], _, _, h => h
  | z :: l, x, y, h => by
    unfold dupF at h
    split at h
    · exact List.mem_cons_of_mem _ (dup_mem l x y h)
    · rcases List.mem_cons.mp h with rfl | h
      · exact List.mem_cons_self
      · exact List.mem_cons_of_mem _ (dup_mem l z y h)
theorem step_mem (c : Cmd) (l : List Str) : ∀ y ∈ c.step l, y ∈ l := by
  cases c with
  | num a n => cases a <;> intro y h <;> first | exact List.mem_of_mem_take h | exact List.mem_of_mem_drop h
  | pl a =>
    cases a
    · exact fun y h => List.mem_reverse.mp h
    · cases l with
      | nil => exact fun y h => h
      | cons x l => exact fun y h => (List.mem_cons.mp h).elim (fun e => e ▸ List.mem_cons_self) fun h => List.mem_cons_of_mem _ (dup_mem l x y h)
    · exact fun y h => ((sortL_nd l).2 y).mp h
theorem runL_mem (p : List Cmd) : ∀ l, ∀ y ∈ runL p l, y ∈ l := by
  induction p with
  | nil => exact fun l y h => h
  | cons c p ih => exact fun l y h => step_mem c l y (ih _ y h)
/-! ### texts compared -/
theorem str_shp {l : List Str} (h : ∀ x ∈ l, PyData.strOk x = true) : Shp 2 (encL l) := shp_lst (n := 1) (shpL_of fun d hd => by obtain ⟨s, hs, rfl⟩ := List.mem_map.mp hd; exact shp_str _ (h s hs))
theorem str_nb (l : List Str) : nb (encL l) = true := nbL_of fun d hd => by obtain ⟨c, _, rfl⟩ := List.mem_map.mp hd; rfl
theorem strs_inj : ∀ {p q : List Str}, p.map D.str = q.map D.str → p = q
  | [], [], _ => rfl
  | [], _ :: _, h => by cases h
  | _ :: _, [], h => by cases h
  | c :: p, d :: q, h => by
    rw [List.map_cons, List.map_cons] at h
    injection h with h1 h2
    injection h1 with h1
    rw [h1, strs_inj h2]
theorem ne_strs {p q : List Str} (hp : ∀ x ∈ p, PyData.strOk x = true) (hq : ∀ x ∈ q, PyData.strOk x = true) : cNe (.lst (p.map D.str)) (.lst (q.map D.str)) = some (.d (.bl (!decide (p = q)))) := by
  obtain ⟨b, h1, h2⟩ := cNe_nb (n := 2) (by decide) (str_shp hp) (str_shp hq) (str_nb p) (str_nb q)
  refine Eq.trans h1 ?_
  congr 3
  have h3 : b = false ↔ p = q := h2.trans ⟨fun h => strs_inj (D.lst.inj h), fun h => by rw [h]⟩
  cases b
  · rw [decide_eq_true (h3.mp rfl)]; rfl
  · rw [decide_eq_false (fun e => by cases h3.mpr e)]; rfl
end Lw

namespace Lw
open PySem L2 TL Sm Sp Nf
local macro_rules | `(tactic| walk_at "lq") => `(tactic| first | exact ldQ_hit | exact ldQ_sk (by assumption) ldQ_hit | exact ldQ_sd ldQ_hit)
local macro_rules | `(tactic| walk_at "ld") => `(tactic| first | rfl | (apply ld_pq; (· rfl); (· walk_at "lq")))
local macro_rules | `(tactic| walk_at "lds") => `(tactic| first | rfl | (apply lds_pq; (· rfl); (· walk_at "lq")))
local macro_rules | `(tactic| walk_at "op") => `(tactic| first | (with_reducible first | assumption | exact add_i | exact sub_i | exact lt_i | exact le_i | exact gt_i | exact ge_i | exact eq_i | exact eq_b | exact ne_i | exact eq_s | exact ne_s | exact is_n | exact isN_n | exact isN_i | exact isN_s | exact isN_t | exact is_i | exact is_s | exact is_t | exact o_pow18 | exact o_pow29 | exact o_pow30 | exact o_pow15 | exact o_pow61 | exact len_l | exact len_s | exact len_t | exact abs_i | exact max_i | exact min_i | exact int_i | exact int_b | exact list_l | exact list_s) | (apply o_mul; (· omega); (· omega)) | (apply o_mod; omega) | (apply o_div; (· omega); (· first | assumption | decide)) | exact in2 | exact in3 | exact in4 | (apply o_ixl; (· first | exact at0 | exact at1 | exact atI_of (by assumption) | rfl)) | (apply o_ixt; (· first | exact at0 | exact at1 | exact atI_of (by assumption) | rfl)) | (apply o_ixs; rfl))
local macro_rules | `(tactic| walk_at "nt") => `(tactic| first | rfl | with_reducible assumption | exact jk_nt (by with_reducible assumption))
local macro_rules | `(tactic| walk_at "ky") => `(tactic| first | exact ky_li | exact ky_d0 | exact ky_d1 | exact ky_d2 | exact ky_d3 | exact ky_n0 | exact ky_n1 | exact ky_n2)
local macro_rules | `(tactic| walk_at "n") => `(tactic| try dsimp only [List.set_cons_zero, List.set_cons_succ, flSet, List.getElem?_cons_zero, List.getElem?_cons_succ, List.take_succ_cons, List.take_zero, wipeG, restG, Option.getD_some, Rof])
local macro_rules | `(tactic| walk_at "w1") => `(tactic| first
  | with_reducible refine w_seq ?_
  | with_reducible refine sq_nx ?_
  | with_reducible refine sq_rt ?_
  | with_reducible refine sq_ct ?_
  | with_reducible refine tq_nx ?_
  | with_reducible refine tq_ct ?_
  | with_reducible refine tq_rt ?_
  | with_reducible refine w_asg ?_
  | with_reducible refine sq_xc ?_
  | with_reducible refine turnQ.xc ?_
  | with_reducible refine fnXQ.xc ?_
  | (refine fnXQ.nx ?_; walk_at "n")
  | (apply fnXQ.rt; (· rfl); walk_at "n")
  | (apply w_var; (· rfl))
  | with_reducible refine w_c ?_
  | with_reducible refine w_bin ?_
  | (apply w_op; (· walk_at "ld"); (· walk_at "ld"); (· walk_at "op"))
  | (apply w_asd; (· walk_at "nt"); walk_at "n")
  | (apply w_asn; (· walk_at "nt"); walk_at "n")
  | (apply w_ass; (· rfl); (· walk_at "nt"); walk_at "n")
  | with_reducible refine w_sif ?_
  | with_reducible refine w_tst ?_
  | with_reducible refine q_bl ?_
  | with_reducible refine q_d ?_
  | with_reducible refine q_int ?_
  | with_reducible refine q_str ?_
  | with_reducible refine q_nw ?_
  | (apply q_ol; (· rfl))
  | (apply q_ob; (· rfl))
  | (apply q_fl; (· (apply flAt_of; (· rfl); (· walk_at "ky"); (· rfl))))
  | (apply q_seq; (· rfl))
  | (apply q_ldC; (· rfl))
  | (apply q_ldl; (· rfl))
  | (apply q_rev; (· rfl))
  | (apply q_revs; (· rfl))
  | with_reducible refine q_two ?_
  | with_reducible refine q_rs ?_
  | with_reducible refine q_anyt ?_
  | with_reducible refine q_anyl ?_
  | with_reducible refine q_anyS ?_
  | with_reducible refine q_anyn ?_
  | (apply q_anys; (· rfl); walk_at "n")
  | (apply q_bakL; (· exact .inr rfl); walk_at "n")
  | (apply q_bakO; (· exact .inr rfl); walk_at "n")
  | (apply q_aug; (· rfl); (· walk_at "op"))
  | with_reducible refine w_band ?_
  | with_reducible refine w_bor ?_
  | with_reducible refine w_bnot ?_
  | with_reducible refine wl_f ?_
  | with_reducible refine wl_t ?_
  | with_reducible refine if_t ?_
  | with_reducible refine if_f ?_
  | with_reducible refine if_nbf ?_
  | with_reducible refine if_nbt ?_
  | (apply if_dt; (· first | decide | omega | (simp only [List.length_cons, List.length_nil]; omega)))
  | (apply if_df; (· first | decide | omega | (simp only [List.length_cons, List.length_nil]; omega)))
  | (apply if_nt; (· first | decide | omega | (simp only [List.length_cons, List.length_nil]; omega)))
  | (apply if_nf; (· first | decide | omega | (simp only [List.length_cons, List.length_nil]; omega)))
  | with_reducible refine w_ret ?_
  | with_reducible refine w_expr ?_
  | with_reducible refine w_next ?_
  | with_reducible refine w_cont ?_
  | with_reducible refine w_retN ?_
  | (apply q_ins; (· rfl); (· first | exact slc_nd | exact frm_nd | exact lv_nd); (· first | exact f_skip | exact f_chop | exact f_sizes | exact f_slices | exact f_words | exact f_isrev | exact f_chain | exact f_present | exact f_known))
  | (apply w_fnrt; (· rfl); walk_at "n")
  | (refine w_fnnx ?_; walk_at "n")
  | with_reducible refine w_acons ?_
  | with_reducible refine w_anil ?_
  | with_reducible refine w_c1 ?_
  | (apply w_c1ol; (· first | exact lent_no rfl | decide); (· rfl); (· rfl))
  | (apply w_c1ob; (· first | exact lent_no rfl | decide); (· rfl); (· rfl))
  | with_reducible refine w_c0 ?_
  | (apply w_afty; (· first | rfl | with_reducible assumption))
  | (apply w_aft0; (· rfl))
  | with_reducible refine w_tup ?_
  | with_reducible refine w_lst ?_
  | with_reducible refine w_fr0 ?_
  | with_reducible refine w_frd ?_
  | with_reducible refine w_frn ?_
  | (apply w_frs; (· rfl); walk_at "n")
  | (apply w_fz; (· rfl); walk_at "n")
  | with_reducible refine w_cb ?_
  | (apply w_cbq; (· walk_at "lds"); (· walk_at "op"))
  | with_reducible refine w_if ?_
  | with_reducible refine w_and ?_
  | with_reducible refine w_or ?_
  | with_reducible refine w_not ?_
  | with_reducible refine w_neg ?_
  | with_reducible refine w_chain ?_
  | (apply w_ch; (· walk_at "ld"); (· walk_at "ld"); (· walk_at "op"))
  | with_reducible refine w_sl ?_
  | with_reducible refine w_on ?_
  | with_reducible refine w_os ?_
  | (apply w_slq; (· walk_at "ld"); (· first | with_reducible assumption | rfl))
  | with_reducible refine w_rev ?_
  | with_reducible refine w_perm ?_
  | with_reducible refine w_recA ?_
  | (apply w_part; (· rfl); (· walk_at "ky"); (· rfl); walk_at "n")
  | with_reducible refine w_fld ?_
  | with_reducible refine w_sd ?_
  | with_reducible refine w_put ?_
  | (apply w_augP; (· rfl); (· rfl); (· walk_at "ky"))
  | (apply w_aug; (· rfl))
  | with_reducible refine w_six ?_
  | with_reducible refine w_sixP ?_
  | (refine And.intro ?_ ?_; (· (refine And.intro ?_ (And.intro ?_ ?_); (· walk_at "ky"); (· (simp only [List.length_cons, List.length_nil, List.length_set]; decide)); (· (simp only [List.length_cons, List.length_nil, List.length_set]; decide)))); walk_at "n")
  | ((with_reducible refine le_and ?_ ?_); (· first | omega | exact of_decide_eq_true rfl | (simp only [List.length_cons, List.length_nil]; decide)))
  | ((with_reducible refine nt1_and ?_ ?_); (· walk_at "nt"); walk_at "n")
  | ((with_reducible refine nt_and ?_ ?_ ?_); (· walk_at "nt"); (· walk_at "nt"); walk_at "n")
  | (apply w_app; (· rfl))
  | (apply w_appP; (· (apply flAt_of; (· rfl); (· walk_at "ky"); (· rfl))))
  | (apply w_popAt; (· rfl))
  | (apply w_popAtP; (· (apply flAt_of; (· rfl); (· walk_at "ky"); (· rfl))))
  | (apply w_insP; (· (apply flAt_of; (· rfl); (· walk_at "ky"); (· rfl))))
  | (apply w_ext; (· rfl))
  | (apply w_ins; (· rfl))
  | with_reducible refine w_for ?_
  | with_reducible refine w_iR1 ?_
  | with_reducible refine w_iR2 ?_
  | with_reducible refine w_iA ?_
  | with_reducible refine w_iEn ?_
  | with_reducible refine w_iZ ?_
  | (apply w_gN; (· walk_at "nt"); walk_at "n")
  | (apply w_gT; (· rfl))
  | with_reducible refine w_g1 ?_
  | with_reducible refine w_g0 ?_
  | (apply w_gStar; (· walk_at "nt"); (· walk_at "nt"); walk_at "n")
  | (apply uq_nx; (· rfl))
  | (apply uq_rt; (· rfl))
  | with_reducible refine turnQ.nx ?_
  | with_reducible refine tryQ.nx ?_
  | with_reducible refine tryQ.rt ?_
  | with_reducible refine w_asgT ?_
  | with_reducible refine w_par ?_
  | with_reducible refine w_par3 ?_
  | with_reducible refine q_ds3 ?_
  | with_reducible refine w_parN ?_
  | with_reducible refine w_parO ?_
  | with_reducible refine w_lc ?_
  | with_reducible refine w_yes ?_
  | with_reducible refine w_raise ?_
  | with_reducible refine w_callX ?_
  | with_reducible refine w_try ?_
  | (apply w_xv; (· rfl))
  | (apply w_is; (· rfl))
  | with_reducible refine w_m1 ?_)
local macro_rules | `(tactic| walk_at "w") => `(tactic| repeat walk_at "w1")
local macro_rules | `(tactic| walk_at "u") => `(tactic| repeat ((fail_if_success (with_reducible refine u_stop ?_)); (fail_if_success (with_reducible refine u_stop2 ?_)); walk_at "w1"))
local macro_rules | `(tactic| walk_at "v") => `(tactic| repeat ((fail_if_success (with_reducible refine v_stop ?_)); walk_at "w1"))
theorem sl_to {l : List D} {n : Int} {k : Nat} (h : n = (k : Nat)) : slD (.lst l) none (some n) = some (.nw (l.take k)) := by
  subst h; rw [v_slL, cut_upto]
theorem sl_from {l : List D} {n : Int} {k : Nat} (h : n = (k : Nat)) : slD (.lst l) (some n) none = some (.nw (l.drop k)) := by
  subst h; rw [v_slL, cut_from]
/-! ### the lines after one change -/
def aft (L : List Str) (i : Nat) : Option Str → List Str
  | none => L.take i ++ L.drop (i + 1)
  | some x => L.take i ++ [x] ++ L.drop i
def encO : Option Str → D
  | none => .non
  | some x => .str x
theorem aft_len {L : List Str} {i : Nat} {row : Option Str} (hi : i ≤ L.length) : (aft L i row).length ≤ L.length + 1 := by
  cases row <;> simp [aft] <;> omega
theorem aft_mem {L : List Str} {i : Nat} {row : Option Str} {y : Str} (h : y ∈ aft L i row) : y ∈ L ∨ row = some y := by
  cases row with
  | none =>
    rcases List.mem_append.mp h with h | h
    · exact .inl (List.mem_of_mem_take h)
    · exact .inl (List.mem_of_mem_drop h)
  | some x =>
    rcases List.mem_append.mp h with h | h
    · rcases List.mem_append.mp h with h | h
      · exact .inl (List.mem_of_mem_take h)
      · rw [List.mem_singleton.mp h]; exact .inr rfl
    · exact .inl (List.mem_of_mem_drop h)
theorem w_after {L : List Str} {i : Nat} {row : Option Str} (hi : i ≤ L.length) (hL : L.length < 1000) {Q : R → G → Prop} (k : ∀ g, Q (.nw ((aft L i row).map D.str)) g) : wF M_law_after [.fz (encL L), .fz (.int (i : Nat)), .fz (encO row)] Q := by
  refine w_dM rfl ?_
  unfold B_law_after
  show wS _ [.fz (encL L), .fz (.int (i : Nat)), .fz (encO row)] _
  have s1 : slD (.lst (L.map D.str)) none (some (i : Int)) = some (.nw ((L.map D.str).take i)) := sl_to rfl
  cases row with
  | none =>
    have s2 : slD (.lst (L.map D.str)) (some ((i : Int) + 1)) none = some (.nw ((L.map D.str).drop (i + 1))) := sl_from (by omega)
    have a1 : addD (.lst ((L.map D.str).take i)) (.lst ((L.map D.str).drop (i + 1))) = some (.nw ((L.map D.str).take i ++ (L.map D.str).drop (i + 1))) := o_addl (by rw [sizeLine_eq]; simp; omega)
    unfold encO
    walk_at "w"
    have k := k [.fz (encL L), .fz (.int (i : Nat)), .fz .non]
    unfold aft at k
    rw [List.map_append, List.map_take, List.map_drop] at k
    exact k
  | some x =>
    have s2 : slD (.lst (L.map D.str)) (some (i : Int)) none = some (.nw ((L.map D.str).drop i)) := sl_from rfl
    have a1 : addD (.lst ((L.map D.str).take i)) (.lst [.str x]) = some (.nw ((L.map D.str).take i ++ [.str x])) := o_addl (by rw [sizeLine_eq]; simp; omega)
    have a2 : addD (.lst ((L.map D.str).take i ++ [.str x])) (.lst ((L.map D.str).drop i)) = some (.nw ((L.map D.str).take i ++ [.str x] ++ (L.map D.str).drop i)) := o_addl (by rw [sizeLine_eq]; simp; omega)
    unfold encO
    walk_at "w"
    have k := k [.fz (encL L), .fz (.int (i : Nat)), .fz (.str x)]
    unfold aft at k
    rw [List.map_append, List.map_append, List.map_take, List.map_drop] at k
    exact k
theorem w_lines1 {p : List Cmd} {L kn : List Str} {Q : R → G → Prop} (k : ∀ g, Q (.nw (L.map D.str)) g) : wF MLive_lines [.fz (.ins "Live" [("chain", .lst (p.map Cmd.enc)), ("present", .lst (L.map D.str)), ("known", .lst (kn.map D.str))])] Q := by
  refine w_dM rfl ?_
  unfold BLive_lines
  show wS _ [.fz _] _
  walk_at "w"
  exact k _
theorem pdrE {N : Nat} {l : List D} {n : Int} (h : Po N l) (hN : N < 1000000000) (hn : 0 < n) (hl : n < 10000000000000000000000000000000000) :
    ∃ v l', 0 ≤ v ∧ v < n ∧ Po (N + 1) l' ∧ Mo_law_draw [.ol true l, .fz (.int n)] = some (.d (.int v), [.ol true l', .fz (.int n)]) := by
  obtain ⟨r, g', e, v, l', h1, h2, h3, h4, h5⟩ := pdr (Q := fun r g => ∃ v l', 0 ≤ v ∧ v < n ∧ Po (N + 1) l' ∧ r = .d (.int v) ∧ g = [.ol true l', .fz (.int n)]) h hN hn hl fun v l' a b c => ⟨v, l', a, b, c, rfl, rfl⟩
  subst h4; subst h5
  exact ⟨v, l', h1, h2, h3, e⟩
local macro_rules | `(tactic| walk_at "w1") => `(tactic| ((with_reducible refine rec_and ?_ ?_); (· exact recL rfl (by decide))))
/-! ### lines before the first or behind the last -/
theorem x_insertX {p : List Cmd} {q : Addr} {L kn : List Str} {x : Str} {v : Int} (h : ¬ (0 ≤ v ∧ v ≤ (L.length : Int))) {QX : RX → Prop}
    (k : QX (.xc (("InvalidIndex" : String) : Str) (.int v) [.ob true LK (lvP p q L kn), .fz (.int v), .fz (.str x)])) : wX XLive_insert [.ob true LK (lvP p q L kn), .fz (.int v), .fz (.str x)] QX := by
  refine w_dX rfl ?_
  unfold BLive_insert
  show wS _ [.ob true LK (lvP p q L kn), .fz (.int v), .fz (.str x)] _
  have hLm : (L.map D.str).length = L.length := List.length_map ..
  walk_at "w"
  refine if_d (fun h1 => ?_) (fun h1 => ?_)
  · have h2 : ¬ v ≤ ((L.map D.str).length : Int) := fun z => h ⟨h1, by rw [hLm] at z; exact z⟩
    walk_at "w"
    exact k
  · walk_at "w"
    exact k
theorem x_removeX {p : List Cmd} {q : Addr} {L kn : List Str} {v : Int} (h : ¬ (0 ≤ v ∧ v < (L.length : Int))) {QX : RX → Prop}
    (k : QX (.xc (("InvalidIndex" : String) : Str) (.int v) [.ob true LK (lvP p q L kn), .fz (.int v)])) : wX XLive_remove [.ob true LK (lvP p q L kn), .fz (.int v)] QX := by
  refine w_dX rfl ?_
  unfold BLive_remove
  show wS _ [.ob true LK (lvP p q L kn), .fz (.int v)] _
  have hLm : (L.map D.str).length = L.length := List.length_map ..
  walk_at "w"
  refine if_d (fun h1 => ?_) (fun h1 => ?_)
  · have h2 : ¬ v < ((L.map D.str).length : Int) := fun z => h ⟨h1, by rw [hLm] at z; exact z⟩
    walk_at "w"
    exact k
  · walk_at "w"
    exact k
/-! ### what asking answers -/
inductive x1Q (i : Nat) (b : Bool) (kk : OK) (g : G) (QS : O → Prop) : RX → Prop
  | ok {r : R} {kk' : OK} {cs' : List Sm.F} {t : G} : QS (.nx (g.set i (.ob b kk cs'))) → x1Q i b kk g QS (.ok r (.ob true kk' cs' :: t))
  | xc {C : Str} {x : D} {kk' : OK} {cs' : List Sm.F} {t : G} : QS (.xc C x (g.set i (.ob b kk cs'))) → x1Q i b kk g QS (.xc C x (.ob true kk' cs' :: t))
theorem w_callX1 {F : G → Option RX} {fs : G → Option (List R × G)} {g : G} {QS : O → Prop} (q : wA fs g fun rs0 g1 => ∃ i rs b kk cs ds, rs0 = .sl i :: rs ∧ g1[i]? = some (.ob b kk cs) ∧ lent rs = [] ∧ ldsC g1 rs = some ds ∧ wX F (.ob true kk cs :: ds.map .fz) (x1Q i b kk g1 QS)) : wS (sCallX1 F fs) g QS := by
  obtain ⟨rs0, g1, e1, i, rs, b, kk, cs, ds, rfl, hg, hl, e2, rx, e3, q⟩ := q
  cases q with
  | ok q => exact ⟨_, by unfold sCallX1; rw [e1, Option.bind_some]; dsimp only; rw [hg]; dsimp only; rw [if_pos hl, e2, Option.bind_some, e3, Option.bind_some]; rfl, q⟩
  | xc q => exact ⟨_, by unfold sCallX1; rw [e1, Option.bind_some]; dsimp only; rw [hg]; dsimp only; rw [if_pos hl, e2, Option.bind_some, e3, Option.bind_some]; rfl, q⟩
inductive tryKQ (i j : Nat) (cl : List Str) (S : G → Option O) (SX : Str → G → Option O) (Q : O → Prop) : O → Prop
  | nx {g : G} : wS S g Q → tryKQ i j cl S SX Q (.nx g)
  | xc {C : Str} {x : D} {g : G} : (notT g i = true ∧ notT (g.set i .un) j = true ∧ noXs (g.set i .un) = true ∧ i ≠ j ∧ C ∈ cl) → wS (SX C) ((g.set i .un).set j (.xs x)) (unQ j Q) → tryKQ i j cl S SX Q (.xc C x g)
theorem w_tryK {i j : Nat} {cl : List Str} {B S : G → Option O} {SX : Str → G → Option O} {g : G} {QS : O → Prop} (q : wS B g (tryKQ i j cl S SX QS)) : wS (sTryK i j cl B S SX) g QS := by
  obtain ⟨o, e, q⟩ := q
  cases q with
  | nx q =>
    obtain ⟨o2, e2, q⟩ := q
    exact ⟨o2, by unfold sTryK; rw [e, Option.bind_some]; exact e2, q⟩
  | xc h q =>
    obtain ⟨o2, e2, o3, e3, q⟩ := q
    exact ⟨o3, by unfold sTryK; rw [e, Option.bind_some]; dsimp only; rw [if_pos h, e2]; exact e3, q⟩
abbrev Fits (L : List Str) (v : Int) (row : Option Str) : Prop := 0 ≤ v ∧ v < (L.length : Int) + (if row.isSome then 1 else 0)
theorem w_asked {p : List Cmd} {q : Addr} {L kn : List Str} {v : Int} {row : Option Str} (hL : L.length < 1000) (hk : kn.length ≤ 1000) {Q : R → G → Prop}
    (k1 : Fits L v row → Q (.d (.str (("none" : String) : Str))) [.ob true LK (lvP p q (aft L v.toNat row) (runL p (aft L v.toNat row))), .fz (.int v), .fz (encO row)])
    (k2 : ¬ Fits L v row → Q (.d (.int v)) [.ob true LK (lvP p q L kn), .fz (.int v), .fz (encO row)]) : wF M_law_asked [.ob true LK (lvP p q L kn), .fz (.int v), .fz (encO row)] Q := by
  refine w_dM rfl ?_
  unfold B_law_asked
  show wS _ [.ob true LK (lvP p q L kn), .fz (.int v), .fz (encO row), .un, .un, .un] _
  cases row with
  | none =>
    have ho : encO none = .non := rfl
    rw [ho]
    rw [ho] at k1 k2
    have hf : Fits L v none ↔ (0 ≤ v ∧ v < (L.length : Int)) := by unfold Fits; simp
    walk_at "w"
    refine w_tryK ?_
    walk_at "w"
    by_cases h : 0 ≤ v ∧ v < (L.length : Int)
    · obtain ⟨n, rfl⟩ := Int.eq_ofNat_of_zero_le h.1
      have k1 := k1 (hf.mpr h)
      rw [Int.toNat_natCast] at k1
      refine w_callX1 ?_
      walk_at "w"
      refine ⟨0, _, true, _, _, _, rfl, rfl, rfl, rfl, ?_⟩
      refine x_remove (i := n) (by omega) (by omega) hk (.ok ?_)
      walk_at "w"
      refine .nx ?_
      walk_at "w"
      exact k1
    · have k2 := k2 fun z => h (hf.mp z)
      refine w_callX1 ?_
      walk_at "w"
      refine ⟨0, _, true, _, _, _, rfl, rfl, rfl, rfl, ?_⟩
      refine x_removeX h (.xc ?_)
      walk_at "w"
      refine .xc ⟨rfl, rfl, rfl, by decide, by decide⟩ ?_
      walk_at "w"
      exact k2
  | some x =>
    have ho : encO (some x) = .str x := rfl
    rw [ho]
    rw [ho] at k1 k2
    have hf : Fits L v (some x) ↔ (0 ≤ v ∧ v ≤ (L.length : Int)) := by unfold Fits; simp; omega
    walk_at "w"
    refine w_tryK ?_
    walk_at "w"
    by_cases h : 0 ≤ v ∧ v ≤ (L.length : Int)
    · obtain ⟨n, rfl⟩ := Int.eq_ofNat_of_zero_le h.1
      have k1 := k1 (hf.mpr h)
      rw [Int.toNat_natCast] at k1
      refine w_callX1 ?_
      walk_at "w"
      refine ⟨0, _, true, _, _, _, rfl, rfl, rfl, rfl, ?_⟩
      refine x_insert (i := n) (by omega) hL hk (.ok ?_)
      walk_at "w"
      refine .nx ?_
      walk_at "w"
      exact k1
    · have k2 := k2 fun z => h (hf.mp z)
      refine w_callX1 ?_
      walk_at "w"
      refine ⟨0, _, true, _, _, _, rfl, rfl, rfl, rfl, ?_⟩
      refine x_insertX h (.xc ?_)
      walk_at "w"
      refine .xc ⟨rfl, rfl, rfl, by decide, by decide⟩ ?_
      walk_at "w"
      exact k2
end Lw

namespace Lw
open PySem L2 TL Sm Sp Nf
local macro_rules | `(tactic| walk_at "lq") => `(tactic| first | exact ldQ_hit | exact ldQ_sk (by assumption) ldQ_hit | exact ldQ_sd ldQ_hit)
local macro_rules | `(tactic| walk_at "ld") => `(tactic| first | rfl | (apply ld_pq; (· rfl); (· walk_at "lq")))
local macro_rules | `(tactic| walk_at "lds") => `(tactic| first | rfl | (apply lds_pq; (· rfl); (· walk_at "lq")))
local macro_rules | `(tactic| walk_at "op") => `(tactic| first | (with_reducible first | assumption | exact add_i | exact sub_i | exact lt_i | exact le_i | exact gt_i | exact ge_i | exact eq_i | exact eq_b | exact ne_i | exact eq_s | exact ne_s | exact is_n | exact isN_n | exact isN_i | exact isN_s | exact isN_t | exact is_i | exact is_s | exact is_t | exact o_pow18 | exact o_pow29 | exact o_pow30 | exact o_pow15 | exact o_pow61 | exact len_l | exact len_s | exact len_t | exact abs_i | exact max_i | exact min_i | exact int_i | exact int_b | exact list_l | exact list_s) | (apply o_mul; (· omega); (· omega)) | (apply o_mod; omega) | (apply o_div; (· omega); (· first | assumption | decide)) | exact in2 | exact in3 | exact in4 | (apply o_ixl; (· first | exact at0 | exact at1 | exact atI_of (by assumption) | rfl)) | (apply o_ixt; (· first | exact at0 | exact at1 | exact atI_of (by assumption) | rfl)) | (apply o_ixs; rfl))
local macro_rules | `(tactic| walk_at "nt") => `(tactic| first | rfl | with_reducible assumption | exact jk_nt (by with_reducible assumption))
local macro_rules | `(tactic| walk_at "ky") => `(tactic| first | exact ky_li | exact ky_d0 | exact ky_d1 | exact ky_d2 | exact ky_d3 | exact ky_n0 | exact ky_n1 | exact ky_n2)
local macro_rules | `(tactic| walk_at "n") => `(tactic| try dsimp only [List.set_cons_zero, List.set_cons_succ, flSet, List.getElem?_cons_zero, List.getElem?_cons_succ, List.take_succ_cons, List.take_zero, wipeG, restG, Option.getD_some, Rof])
local macro_rules | `(tactic| walk_at "w1") => `(tactic| first
  | with_reducible refine w_seq ?_
  | with_reducible refine sq_nx ?_
  | with_reducible refine sq_rt ?_
  | with_reducible refine sq_ct ?_
  | with_reducible refine tq_nx ?_
  | with_reducible refine tq_ct ?_
  | with_reducible refine tq_rt ?_
  | with_reducible refine w_asg ?_
  | with_reducible refine sq_xc ?_
  | with_reducible refine turnQ.xc ?_
  | with_reducible refine fnXQ.xc ?_
  | (refine fnXQ.nx ?_; walk_at "n")
  | (apply fnXQ.rt; (· rfl); walk_at "n")
  | (apply w_var; (· rfl))
  | with_reducible refine w_c ?_
  | with_reducible refine w_bin ?_
  | (apply w_op; (· walk_at "ld"); (· walk_at "ld"); (· walk_at "op"))
  | (apply w_asd; (· walk_at "nt"); walk_at "n")
  | (apply w_asn; (· walk_at "nt"); walk_at "n")
  | (apply w_ass; (· rfl); (· walk_at "nt"); walk_at "n")
  | with_reducible refine w_sif ?_
  | with_reducible refine w_tst ?_
  | with_reducible refine q_bl ?_
  | with_reducible refine q_d ?_
  | with_reducible refine q_int ?_
  | with_reducible refine q_str ?_
  | with_reducible refine q_nw ?_
  | (apply q_ol; (· rfl))
  | (apply q_ob; (· rfl))
  | (apply q_fl; (· (apply flAt_of; (· rfl); (· walk_at "ky"); (· rfl))))
  | (apply q_seq; (· rfl))
  | (apply q_ldC; (· rfl))
  | (apply q_ldl; (· rfl))
  | (apply q_rev; (· rfl))
  | (apply q_revs; (· rfl))
  | with_reducible refine q_two ?_
  | with_reducible refine q_rs ?_
  | with_reducible refine q_anyt ?_
  | with_reducible refine q_anyl ?_
  | with_reducible refine q_anyS ?_
  | with_reducible refine q_anyn ?_
  | (apply q_anys; (· rfl); walk_at "n")
  | (apply q_bakL; (· exact .inr rfl); walk_at "n")
  | (apply q_bakO; (· exact .inr rfl); walk_at "n")
  | (apply q_aug; (· rfl); (· walk_at "op"))
  | with_reducible refine w_band ?_
  | with_reducible refine w_bor ?_
  | with_reducible refine w_bnot ?_
  | with_reducible refine wl_f ?_
  | with_reducible refine wl_t ?_
  | with_reducible refine if_t ?_
  | with_reducible refine if_f ?_
  | with_reducible refine if_nbf ?_
  | with_reducible refine if_nbt ?_
  | (apply if_dt; (· first | decide | omega | (simp only [List.length_cons, List.length_nil]; omega)))
  | (apply if_df; (· first | decide | omega | (simp only [List.length_cons, List.length_nil]; omega)))
  | (apply if_nt; (· first | decide | omega | (simp only [List.length_cons, List.length_nil]; omega)))
  | (apply if_nf; (· first | decide | omega | (simp only [List.length_cons, List.length_nil]; omega)))
  | with_reducible refine w_ret ?_
  | with_reducible refine w_expr ?_
  | with_reducible refine w_next ?_
  | with_reducible refine w_cont ?_
  | with_reducible refine w_retN ?_
  | (apply q_ins; (· rfl); (· first | exact slc_nd | exact frm_nd | exact lv_nd); (· first | exact f_skip | exact f_chop | exact f_sizes | exact f_slices | exact f_words | exact f_isrev | exact f_chain | exact f_present | exact f_known))
  | (apply w_fnrt; (· rfl); walk_at "n")
  | (refine w_fnnx ?_; walk_at "n")
  | with_reducible refine w_acons ?_
  | with_reducible refine w_anil ?_
  | with_reducible refine w_c1 ?_
  | (apply w_c1ol; (· first | exact lent_no rfl | decide); (· rfl); (· rfl))
  | (apply w_c1ob; (· first | exact lent_no rfl | decide); (· rfl); (· rfl))
  | with_reducible refine w_c0 ?_
  | (apply w_afty; (· first | rfl | with_reducible assumption))
  | (apply w_aft0; (· rfl))
  | with_reducible refine w_tup ?_
  | with_reducible refine w_lst ?_
  | with_reducible refine w_fr0 ?_
  | with_reducible refine w_frd ?_
  | with_reducible refine w_frn ?_
  | (apply w_frs; (· rfl); walk_at "n")
  | (apply w_fz; (· rfl); walk_at "n")
  | with_reducible refine w_cb ?_
  | (apply w_cbq; (· walk_at "lds"); (· walk_at "op"))
  | with_reducible refine w_if ?_
  | with_reducible refine w_and ?_
  | with_reducible refine w_or ?_
  | with_reducible refine w_not ?_
  | with_reducible refine w_neg ?_
  | with_reducible refine w_chain ?_
  | (apply w_ch; (· walk_at "ld"); (· walk_at "ld"); (· walk_at "op"))
  | with_reducible refine w_sl ?_
  | with_reducible refine w_on ?_
  | with_reducible refine w_os ?_
  | (apply w_slq; (· walk_at "ld"); (· first | with_reducible assumption | rfl))
  | with_reducible refine w_rev ?_
  | with_reducible refine w_perm ?_
  | with_reducible refine w_recA ?_
  | (apply w_part; (· rfl); (· walk_at "ky"); (· rfl); walk_at "n")
  | with_reducible refine w_fld ?_
  | with_reducible refine w_sd ?_
  | with_reducible refine w_put ?_
  | (apply w_augP; (· rfl); (· rfl); (· walk_at "ky"))
  | (apply w_aug; (· rfl))
  | with_reducible refine w_six ?_
  | with_reducible refine w_sixP ?_
  | (refine And.intro ?_ ?_; (· (refine And.intro ?_ (And.intro ?_ ?_); (· walk_at "ky"); (· (simp only [List.length_cons, List.length_nil, List.length_set]; decide)); (· (simp only [List.length_cons, List.length_nil, List.length_set]; decide)))); walk_at "n")
  | ((with_reducible refine le_and ?_ ?_); (· first | omega | exact of_decide_eq_true rfl | (simp only [List.length_cons, List.length_nil]; decide)))
  | ((with_reducible refine nt1_and ?_ ?_); (· walk_at "nt"); walk_at "n")
  | ((with_reducible refine nt_and ?_ ?_ ?_); (· walk_at "nt"); (· walk_at "nt"); walk_at "n")
  | (apply w_app; (· rfl))
  | (apply w_appP; (· (apply flAt_of; (· rfl); (· walk_at "ky"); (· rfl))))
  | (apply w_popAt; (· rfl))
  | (apply w_popAtP; (· (apply flAt_of; (· rfl); (· walk_at "ky"); (· rfl))))
  | (apply w_insP; (· (apply flAt_of; (· rfl); (· walk_at "ky"); (· rfl))))
  | (apply w_ext; (· rfl))
  | (apply w_ins; (· rfl))
  | with_reducible refine w_for ?_
  | with_reducible refine w_iR1 ?_
  | with_reducible refine w_iR2 ?_
  | with_reducible refine w_iA ?_
  | with_reducible refine w_iEn ?_
  | with_reducible refine w_iZ ?_
  | (apply w_gN; (· walk_at "nt"); walk_at "n")
  | (apply w_gT; (· rfl))
  | with_reducible refine w_g1 ?_
  | with_reducible refine w_g0 ?_
  | (apply w_gStar; (· walk_at "nt"); (· walk_at "nt"); walk_at "n")
  | (apply uq_nx; (· rfl))
  | (apply uq_rt; (· rfl))
  | with_reducible refine turnQ.nx ?_
  | with_reducible refine tryQ.nx ?_
  | with_reducible refine tryQ.rt ?_
  | with_reducible refine w_asgT ?_
  | with_reducible refine w_par ?_
  | with_reducible refine w_par3 ?_
  | with_reducible refine q_ds3 ?_
  | with_reducible refine w_parN ?_
  | with_reducible refine w_parO ?_
  | with_reducible refine w_lc ?_
  | with_reducible refine w_yes ?_
  | with_reducible refine w_raise ?_
  | with_reducible refine w_callX ?_
  | with_reducible refine w_try ?_
  | (apply w_xv; (· rfl))
  | (apply w_is; (· rfl))
  | with_reducible refine w_m1 ?_)
local macro_rules | `(tactic| walk_at "w") => `(tactic| repeat walk_at "w1")
local macro_rules | `(tactic| walk_at "u") => `(tactic| repeat ((fail_if_success (with_reducible refine u_stop ?_)); (fail_if_success (with_reducible refine u_stop2 ?_)); walk_at "w1"))
local macro_rules | `(tactic| walk_at "v") => `(tactic| repeat ((fail_if_success (with_reducible refine v_stop ?_)); walk_at "w1"))
local macro_rules | `(tactic| walk_at "w1") => `(tactic| ((with_reducible refine rec_and ?_ ?_); (· exact recL rfl (by decide))))
noncomputable abbrev LOOP29 : G → Option O :=
  (sSeq (sAsg 5 (eCB lenD (aCons (eVar 2) aNil)))
  (sSeq (sAsg 6 (eCall1 Mo_law_draw (aCons (eVar 0) (aCons (eBin powD (eC (.int 10)) (eC (.int 29))) aNil))))
  (sSeq (sAsg 7 (eBin ixD (eLst (aCons (eNeg (eC (.int 1))) (aCons (eC (.int 0)) (aCons (eBin subD (eVar 5) (eC (.int 1))) (aCons (eVar 5) (aCons (eBin addD (eVar 5) (eC (.int 1))) (aCons (eBin subD (eC (.int 0)) (eVar 5)) (aCons (eVar 6) (aCons (eBin subD (eNeg (eC (.int 1))) (eVar 6)) aNil))))))))) (eCall1 Mo_law_draw (aCons (eVar 0) (aCons (eC (.int 8)) aNil)))))
  (sSeq (sAsg 8 (eBin ixD (eLst (aCons (eC .non) (aCons (eBin ixD (eVar 1) (eCall1 Mo_law_draw (aCons (eVar 0) (aCons (eCB lenD (aCons (eVar 1) aNil)) aNil)))) aNil))) (eCall1 Mo_law_draw (aCons (eVar 0) (aCons (eC (.int 2)) aNil)))))
  (sSeq (sAsg 9 (eChain cLe cLt (eC (.int 0)) (eVar 7) (eBin addD (eVar 5) (eCB intD (aCons (eBin cIsN (eVar 8) (eC .non)) aNil)))))
  (sSeq (sAsg 10 (eMeth0 (("Live" : String) : Str) (("result" : String) : Str) MLive_result (eVar 3) aNil))
  (sSeq (sIf (tst (eBin cNe (eCall1 M_law_asked (aCons (eVar 3) (aCons (eVar 7) (aCons (eVar 8) aNil)))) (eIf (tst (eVar 9)) (eC (.str (("none" : String) : Str))) (eVar 7)))) (sRet (eC (.bl false))) sNext)
  (sSeq (sIf (tst (eVar 9)) (sAsg 2 (eCall0 M_law_after (aCons (eVar 2) (aCons (eVar 7) (aCons (eVar 8) aNil))))) (sIf (tst (eBin cNe (eMeth0 (("Live" : String) : Str) (("result" : String) : Str) MLive_result (eVar 3) aNil) (eVar 10))) (sRet (eC (.bl false))) sNext))
  (sIf (tst (eBin cNe (eMeth0 (("Live" : String) : Str) (("lines" : String) : Str) MLive_lines (eVar 3) aNil) (eVar 2))) (sRet (eC (.bl false))) sNext)))))))))
/-! ### the law k29 -/
structure T29 where
  pl : List D
  L : List Str
  x4 : Sm.Slot
  x5 : Sm.Slot
  x6 : Sm.Slot
  x7 : Sm.Slot
  x8 : Sm.Slot
  x9 : Sm.Slot
  x10 : Sm.Slot
def st29 (p : List Cmd) (W : List Str) (t : T29) (q : Addr) : G := [.ol true t.pl, .ol false (W.map D.str), .ol false (t.L.map D.str), .ob false LK (lvP p q t.L (runL p t.L)), t.x4, t.x5, t.x6, t.x7, t.x8, t.x9, t.x10]
def Inv29 (N : Nat) (m : Nat) (t : T29) : Prop := Po (N + 5 * m) t.pl ∧ t.L.length ≤ 30 + m ∧ Okt t.L ∧ Jk t.x4 ∧ Jk t.x5 ∧ Jk t.x6 ∧ Jk t.x7 ∧ Jk t.x8 ∧ Jk t.x9 ∧ Jk t.x10
theorem self_ne {L : List Str} (h : ∀ x ∈ L, PyData.strOk x = true) : cNe (.lst (L.map D.str)) (.lst (L.map D.str)) = some (.d (.bl false)) := by
  have := ne_strs h h
  rw [decide_eq_true rfl] at this
  exact this
theorem step29 {N : Nat} {p : List Cmd} {W : List Str} (hN : N < 700000000) (hp : p.length ≤ 100) (hW0 : 0 < W.length) (hW1 : W.length ≤ 100) (hWok : Okt W) (m : Nat) (t : T29) (d : D) (hm : m < 20) (hI : Inv29 N m t) :
    ∃ t', Inv29 N (m + 1) t' ∧ ∀ q, wG (gN 4) d (st29 p W t q) fun g1 => wS LOOP29 g1 (turnQ (fun g2 => g2 = st29 p W t' q) fun _ => False) := by
  obtain ⟨pl, L, x4, x5, x6, x7, x8, x9, x10⟩ := t
  obtain ⟨hpo, hlen, hok, j4, j5, j6, j7, j8, j9, j10⟩ := hI
  dsimp only at hpo hlen hok j4 j5 j6 j7 j8 j9 j10
  obtain ⟨f, l1, f0, f1, g1, e1⟩ := pdrE (n := 100000000000000000000000000000) hpo (by omega) (by decide) (by decide)
  obtain ⟨a, l2, a0, a1, g2, e2⟩ := pdrE (n := 8) g1 (by omega) (by decide) (by decide)
  obtain ⟨b, l3, b0, b1, g3, e3⟩ := pdrE (n := ((W.map D.str).length : Int)) g2 (by omega) (by rw [List.length_map]; omega) (by rw [List.length_map]; omega)
  obtain ⟨c, l4, c0, c1, g4, e4⟩ := pdrE (n := 2) g3 (by omega) (by decide) (by decide)
  obtain ⟨v, _, hv⟩ := picks D.int [-1, 0, ((L.map D.str).length : Int) - 1, ((L.map D.str).length : Int), ((L.map D.str).length : Int) + 1, 0 - ((L.map D.str).length : Int), f, -1 - f] a a0 a1
  have hv : ixD (.lst [.int (-1), .int 0, .int (((L.map D.str).length : Int) - 1), .int ((L.map D.str).length : Int), .int (((L.map D.str).length : Int) + 1), .int (0 - ((L.map D.str).length : Int)), .int f, .int (-1 - f)]) (.int a) = some (.d (.int v)) := hv
  obtain ⟨w, hw, hwx⟩ := picks D.str W b b0 (by rw [List.length_map] at b1; exact b1)
  obtain ⟨row, hrow, hrx⟩ := picks encO [none, some w] c c0 c1
  have hrx : ixD (.lst [.non, .str w]) (.int c) = some (.d (encO row)) := hrx
  have hrw : ∀ y, row = some y → y = w := fun y e => by
    simp only [List.mem_cons, List.not_mem_nil, or_false] at hrow
    rcases hrow with rfl | rfl
    · cases e
    · cases e; rfl
  have hisn : cIsN (encO row) .non = some (.d (.bl row.isSome)) := by cases row <;> rfl
  have hp29 : powD (.int 10) (.int 29) = some (.d (.int 100000000000000000000000000000)) := rfl
  have hint : intD [.bl row.isSome] = some (.d (.int (if row.isSome = true then 1 else 0))) := rfl
  have hlm : (L.map D.str).length = L.length := List.length_map ..
  have hnone := ne_str (("none" : String) : Str)
  have hvv : cNe (.int v) (.int v) = some (.d (.bl false)) := by rw [ne_i]; simp
  have hl0 : (runL p L).length ≤ 1000 := Nat.le_trans (runL_len p L) (by omega)
  have hokR : ∀ y ∈ runL p L, PyData.strOk y = true := fun y hy => hok y (runL_mem p _ y hy)
  have hneR := self_ne hokR
  have hneL := self_ne hok
  by_cases hf : Fits L v row
  · obtain ⟨h1, h2⟩ := id hf
    obtain ⟨n, rfl⟩ := Int.eq_ofNat_of_zero_le h1
    have hn : n ≤ L.length := by
      split at h2 <;> omega
    have hal := aft_len (L := L) (row := row) hn
    have hokA : Okt (aft L n row) := fun y hy => by
      rcases aft_mem hy with h | h
      · exact hok y h
      · rw [hrw y h]; exact hWok _ hw
    have hneA := self_ne hokA
    have h2' : ((n : Nat) : Int) < ((L.map D.str).length : Int) + (if row.isSome = true then 1 else 0) := by rw [hlm]; exact h2
    refine ⟨⟨l4, aft L n row, .fz d, .fz (.int ((L.map D.str).length : Int)), .fz (.int f), .fz (.int (n : Nat)), .fz (encO row), .fz (.bl true), .ol false ((runL p L).map D.str)⟩, ⟨g4.mono (by omega), by dsimp only; omega, hokA, jk_fz, jk_fz, jk_fz, jk_fz, jk_fz, jk_fz, jk_ol⟩, fun q => ?_⟩
    unfold st29
    dsimp only
    walk_at "w"
    refine wF.eq e1 ?_
    walk_at "w"
    refine wF.eq e2 ?_
    walk_at "w"
    refine wF.eq e3 ?_
    walk_at "w"
    refine wF.eq e4 ?_
    walk_at "w"
    rw [decide_eq_true h2']
    walk_at "w"
    refine w_result1 fun g => ?_
    refine w_afty noLs_str ?_
    walk_at "w"
    refine w_asked (by omega) hl0 (fun _ => ?_) (fun z => absurd hf z)
    refine q_bakO (.inr rfl) ?_
    rw [Int.toNat_natCast]
    walk_at "w"
    refine w_after (L := L) (i := n) (row := row) hn (by omega) fun g => ?_
    refine w_afty noLs_str ?_
    walk_at "w"
    refine w_lines1 fun g => ?_
    refine w_afty noLs_str ?_
    walk_at "w"
    rfl
  · refine ⟨⟨l4, L, .fz d, .fz (.int ((L.map D.str).length : Int)), .fz (.int f), .fz (.int v), .fz (encO row), .fz (.bl false), .ol false ((runL p L).map D.str)⟩, ⟨g4.mono (by omega), by dsimp only; omega, hok, jk_fz, jk_fz, jk_fz, jk_fz, jk_fz, jk_fz, jk_ol⟩, fun q => ?_⟩
    unfold st29
    dsimp only
    walk_at "w"
    refine wF.eq e1 ?_
    walk_at "w"
    refine wF.eq e2 ?_
    walk_at "w"
    refine wF.eq e3 ?_
    walk_at "w"
    refine wF.eq e4 ?_
    walk_at "w"
    refine if_d (fun h1 => ?_) (fun h1 => ?_)
    · have h2' : ¬ v < ((L.map D.str).length : Int) + (if row.isSome = true then 1 else 0) := fun z => hf ⟨h1, by rw [hlm] at z; exact z⟩
      walk_at "w"
      rw [decide_eq_false h2']
      walk_at "w"
      refine w_result1 fun g => ?_
      refine w_afty noLs_str ?_
      walk_at "w"
      refine w_asked (by omega) hl0 (fun z => absurd z hf) (fun _ => ?_)
      refine q_bakO (.inr rfl) ?_
      walk_at "w"
      refine w_result1 fun g => ?_
      refine w_afty noLs_str ?_
      walk_at "w"
      refine w_lines1 fun g => ?_
      refine w_afty noLs_str ?_
      walk_at "w"
      rfl
    · walk_at "w"
      refine w_result1 fun g => ?_
      refine w_afty noLs_str ?_
      walk_at "w"
      refine w_asked (by omega) hl0 (fun z => absurd z hf) (fun _ => ?_)
      refine q_bakO (.inr rfl) ?_
      walk_at "w"
      refine w_result1 fun g => ?_
      refine w_afty noLs_str ?_
      walk_at "w"
      refine w_lines1 fun g => ?_
      refine w_afty noLs_str ?_
      walk_at "w"
      rfl
theorem pstE {N : Nat} {l : List D} {most : Nat} (h : Po N l) (hN : N < 800000000) (hm : most ≤ 100) :
    ∃ (p : List Cmd) (l' : List D), p.length ≤ most ∧ Po (N + 1 + 10 * most) l' ∧ M_law_stages [.ol true l, .fz (.int (most : Nat))] = some (.nw (p.map Cmd.enc), [.ol true l', .fz (.int (most : Nat))]) := by
  obtain ⟨r, g', e, p, l', h1, h2, h3, h4⟩ := pstages (Q := fun r g => ∃ p l', p.length ≤ most ∧ Po (N + 1 + 10 * most) l' ∧ r = .nw (p.map Cmd.enc) ∧ g = [.ol true l', .fz (.int (most : Nat))]) h hN hm fun p l' a _ c => ⟨p, l', a, c, rfl, rfl⟩
  subst h3; subst h4
  exact ⟨p, l', h1, h2, e⟩
theorem pright {N : Nat} {l : List D} {Q : R → G → Prop} (h : Po N l) (hN : N < 600000000)
    (k : ∀ l', Po (N + 400) l' → Q (.d (.bl true)) [.ol true l']) : wF M_law_right [.ol true l] Q := by
  refine w_dM rfl ?_
  unfold B_law_right
  show wS _ [.ol true l, .un, .un, .un, .un, .un, .un, .un, .un, .un, .un] _
  walk_at "w"
  refine pwords h (by omega) fun W l3 hW2 hW6 hWok hWm h3 => ?_
  walk_at "w"
  refine prows (most := 10) h3 (by omega) (by omega) (by omega) (by omega) hWok fun L l4 hL hLok hLm h4 => ?_
  refine q_bakL (.inl ⟨noLs_str, h4.noL⟩) ?_
  walk_at "w"
  obtain ⟨p, l5, hp, h5, es⟩ := pstE (most := 4) h4 (by omega) (by decide)
  have live1 : frz13 (eCallN (mkLiveN Mcheck_pipeline Mrun) (aCons (eCall1 M_law_stages (aCons (eVar 0) (aCons (eC (.int 4)) aNil))) (aCons (eVar 2) aNil))) [.ol true l4, .ol false (W.map D.str), .ol false (L.map D.str), .un, .un, .un, .un, .un, .un, .un, .un] =
      some ((LK, [.pd (.lst (p.map Cmd.enc)), .pl (L.map D.str), .pd (.lst ((runL p L).map D.str))]), [.ol true l5, .ol false (W.map D.str), .ol false (L.map D.str), .un, .un, .un, .un, .un, .un, .un, .un]) := by
    obtain ⟨rs, g1, e, hrs, hg⟩ : wA (aCons (eCall1 M_law_stages (aCons (eVar 0) (aCons (eC (.int 4)) aNil))) (aCons (eVar 2) aNil)) [.ol true l4, .ol false (W.map D.str), .ol false (L.map D.str), .un, .un, .un, .un, .un, .un, .un, .un]
        fun rs g1 => rs = [.nw (p.map Cmd.enc), .sl 2] ∧ g1 = [.ol true l5, .ol false (W.map D.str), .ol false (L.map D.str), .un, .un, .un, .un, .un, .un, .un, .un] := by
      walk_at "w"
      refine wF.eq es ?_
      walk_at "w"
      exact ⟨rfl, rfl⟩
    subst hrs; subst hg
    exact live_new e rfl (by omega)
  obtain ⟨t, hI, hrun⟩ := for_fam (gf := gN 4) (s := LOOP29) (L := rangeD 0 20) (st29 p W) (Inv29 (N + 200)) (fun m t d hm _ hI => step29 (by omega) (by omega) (by omega) (by omega) hWok m t d (by rw [rangeD_len] at hm; exact hm) hI) (t0 := ⟨l5, L, .un, .un, .un, .un, .un, .un, .un⟩) ⟨h5.mono (by omega), by dsimp only; omega, hLok, jk_un, jk_un, jk_un, jk_un, jk_un, jk_un, jk_un⟩
  rw [rangeD_len] at hI
  refine w_newLv live1 rfl rfl (.rt (.d (.bl true)) [.ol true t.pl, .ol false (W.map D.str), .ol false (t.L.map D.str), .un, t.x4, t.x5, t.x6, t.x7, t.x8, t.x9, t.x10]) ?_ ?_
  · intro q
    dsimp only [List.set_cons_zero, List.set_cons_succ]
    walk_at "w"
    refine ⟨⟨by decide, by decide⟩, ?_⟩
    refine hrun q _ ?_
    unfold st29
    walk_at "w"
    rfl
  · walk_at "w"
    exact k _ (hI.1.mono (by omega))
theorem main : LawHolds Mlaw := by
  intro ns hns
  suffices h : wF Mlaw [.fz (.sls (ns.map D.int))] fun r _ => r = .d (.bl true) by
    obtain ⟨r, g', e, rfl⟩ := h
    exact ⟨g', e⟩
  refine w_dM rfl ?_
  unfold Blaw
  show wS _ [.fz (.sls (ns.map D.int)), .un, .un, .un] _
  have hlen : lenD [.sls (ns.map D.int)] = some (.d (.int ((ns.map D.int).length : Nat))) := rfl
  walk_at "w"
  rw [List.length_map]
  obtain ⟨m, hm, hm6⟩ : ∃ m : Nat, (if (if (ns.length : Int) < 6 then (ns.length : Int) else 6) > 1 then (if (ns.length : Int) < 6 then (ns.length : Int) else 6) else 1) = (m : Int) ∧ m ≤ 6 := by
    refine ⟨(if (if (ns.length : Int) < 6 then (ns.length : Int) else 6) > 1 then (if (ns.length : Int) < 6 then (ns.length : Int) else 6) else 1).toNat, ?_, ?_⟩
    · rw [Int.toNat_of_nonneg]; split <;> split <;> omega
    · split <;> split <;> omega
  rw [hm]
  refine ⟨by omega, ?_⟩
  refine for_by (fun pr g => ∃ x1 x2 x3, g = [.fz (.sls (ns.map D.int)), x1, x2, x3] ∧ Jk x1 ∧ Jk x2 ∧ Jk x3) ⟨_, _, _, rfl, jk_un, jk_un, jk_un⟩ ?_ ?_
  · rintro pr d rest g e ⟨x1, x2, x3, rfl, j1, j2, j3⟩
    obtain ⟨rfl, hlt⟩ := range_at e
    clear e
    walk_at "w"
    refine ppool hns (by omega) fun l hl => ?_
    refine w_aft0 rfl ?_
    walk_at "w"
    refine ⟨by omega, ?_⟩
    refine for_by (fun pr2 g => ∃ x3 l', g = [.fz (.sls (ns.map D.int)), .fz (.int (pr.length : Nat)), .ol false l', x3] ∧ Jk x3 ∧ Po (1000 * pr2.length) l') ⟨_, _, rfl, j3, hl⟩ ?_ ?_
    · rintro pr2 d2 rest2 g2 e2 ⟨x3, l', rfl, j3, hl'⟩
      obtain ⟨rfl, hlt2⟩ := range_at e2
      clear e2
      have hlt2 : pr2.length < 2 := hlt2
      walk_at "w"
      refine pright hl' (by omega) fun l1 h1 => ?_
      walk_at "w"
      exact ⟨_, _, rfl, jk_fz, by rw [List.length_append]; exact h1.mono (by simp; omega)⟩
    · rintro g2 ⟨x3, l', rfl, j3, hl'⟩
      exact .nx ⟨_, _, _, rfl, jk_fz, jk_ol, j3⟩
  · rintro g ⟨x1, x2, x3, rfl, j1, j2, j3⟩
    walk_at "w"
end Lw

open PySem PySem.W PyProof.Rows
set_option maxRecDepth 100000 in
set_option maxHeartbeats 0 in
theorem PySem.Challenge.cw_pipeform_k29_live_errors_holds : PySem.Challenge.rw_pipeform_k29_live_errors.Holds := by
  w_on; o_law; k_head; (case hw => w_witness2)
  k_fill
  refine Sm.walkR (l := PySem.Challenge.rw_pipeform_k29_live_errors) rfl rfl (fun w h Y => PySem.W.kIn_of Y) ?F
  case F =>
    intro w mg fa h KX G hmg
    refine' (Lw.allMk KX G ?ca0 ?cg0 ?ch0 ?co0 ?cs0 ?cm0 ?ck0 ?cf0 ?cn0 ?cl0 ?cc0 ?cp0 ?lT ?lZ ?cx0_0 ?cx0_1 ?cx0_2 ?ca1 ?cg1 ?ch1 ?co1 ?cs1 ?cm1 ?ck1 ?cf1 ?cn1 ?cl1 ?cc1 ?cp1 ?cx1_0 ?cx1_1 ?cx1_2 ?ca2 ?cg2 ?ch2 ?co2 ?cs2 ?cm2 ?ck2 ?cf2 ?cn2 ?cl2 ?cc2 ?cp2 ?cx2_0 ?cx2_1 ?cx2_2 ?sa0 ?sl_0 ?sk0 ?sv0_0 ?sv0_1 ?sv0_2 ?sv0_3 ?a0 ?l0 ?c0 ?k0 ?a1 ?l1 ?c1 ?k1 ?a2 ?l2 ?c2 ?k2 ?a3 ?l3 ?c3 ?k3 ?a4 ?l4 ?c4 ?k4 ?a5 ?l5 ?c5 ?k5 ?a6 ?l6 ?c6 ?k6 ?a7 ?i7 ?l7 ?c7 ?k7 ?a8 ?i8 ?l8 ?c8 ?k8 ?a9 ?i9 ?l9 ?c9 ?k9 ?a10 ?i10 ?l10 ?c10 ?k10 ?a11 ?i11 ?l11 ?c11 ?k11 ?a12 ?l12 ?c12 ?k12 ?a13 ?l13 ?c13 ?k13 ?a14 ?l14 ?c14 ?k14 ?a15 ?l15 ?c15 ?k15 ?a16 ?l16 ?c16 ?k16 ?a17 ?l17 ?c17 ?k17 ?a18 ?l18 ?c18 ?k18 ?a19 ?l19 ?c19 ?k19 ?a20 ?l20 ?c20 ?k20 ?a21 ?l21 ?c21 ?k21 ?qa0 ?qa1 ?qa2 ?qa3 ?qa4 ?qa5 ?rg ?rr ?ri ?xn ?xt ?xl1 ?xs1 ?xg1 ?xh1 ?xv1 ?xi1 ?xj1 ?xk1 ?xe1 ?xc1 ?xm1 ?li1 ?cix1 ?ki1 ?tq0 ?hq0 ?sqx0 ?bq0 ?tq1 ?hq1 ?sqx1 ?bq1 ?tq2 ?hq2 ?sqx2 ?bq2 ?tq3 ?hq3 ?sqx3 ?bq3 ?tq4 ?hq4 ?sqx4 ?bq4 ?tq5 ?hq5 ?sqx5 ?bq5 ?u1_0 ?u1_1 ?u1_2 ?u1_3 ?u1_4 ?u1_5 ?uv1 ?z0 ?z1 ?z2 ?z3 ?z4 ?z5 ?z6 ?z7 ?z8 ?z9 ?z10 ?z11 ?z12 ?y0 ?y1 ?y2 ?u2 ?u2_0 ?y3 ?u3 ?y4 ?u4 ?y5 ?y6 ?y7 ?y8).elim fun T => Lw.lawOk KX G T hmg Lw.main
    (case ca0 => k_is)
    (case cg0 => k_is)
    (case ch0 => k_is)
    (case co0 => k_is)
    (case cs0 => k_is)
    (case cm0 => k_is)
    (case ck0 => k_is)
    (case cf0 => k_is)
    (case cn0 => k_is)
    (case cl0 => k_is)
    (case cc0 => k_is)
    (case cp0 => k_is)
    (case lT => k_is)
    (case lZ => k_is)
    (case cx0_0 => k_is)
    (case cx0_1 => k_is)
    (case cx0_2 => k_is)
    (case ca1 => k_is)
    (case cg1 => k_is)
    (case ch1 => k_is)
    (case co1 => k_is)
    (case cs1 => k_is)
    (case cm1 => k_is)
    (case ck1 => k_is)
    (case cf1 => k_is)
    (case cn1 => k_is)
    (case cl1 => k_is)
    (case cc1 => k_is)
    (case cp1 => k_is)
    (case cx1_0 => k_is)
    (case cx1_1 => k_is)
    (case cx1_2 => k_is)
    (case ca2 => k_is)
    (case cg2 => k_is)
    (case ch2 => k_is)
    (case co2 => k_is)
    (case cs2 => k_is)
    (case cm2 => k_is)
    (case ck2 => k_is)
    (case cf2 => k_is)
    (case cn2 => k_is)
    (case cl2 => k_is)
    (case cc2 => k_is)
    (case cp2 => k_is)
    (case cx2_0 => k_is)
    (case cx2_1 => k_is)
    (case cx2_2 => k_is)
    (case sa0 => k_is)
    (case sl_0 => k_is)
    (case sk0 => exact ⟨⟨_, _, rfl, rfl⟩, ⟨_, _, rfl, rfl⟩, ⟨_, _, rfl, rfl⟩, ⟨_, _, rfl, rfl⟩, trivial⟩)
    (case sv0_0 => k_is)
    (case sv0_1 => k_is)
    (case sv0_2 => k_is)
    (case sv0_3 => k_is)
    (case a0 => k_is)
    (case l0 => k_is)
    (case c0 => k_is)
    (case k0 => k_is)
    (case a1 => k_is)
    (case l1 => k_is)
    (case c1 => k_is)
    (case k1 => k_is)
    (case a2 => k_is)
    (case l2 => k_is)
    (case c2 => k_is)
    (case k2 => k_is)
    (case a3 => k_is)
    (case l3 => k_is)
    (case c3 => k_is)
    (case k3 => k_is)
    (case a4 => k_is)
    (case l4 => k_is)
    (case c4 => k_is)
    (case k4 => k_is)
    (case a5 => k_is)
    (case l5 => k_is)
    (case c5 => k_is)
    (case k5 => k_is)
    (case a6 => k_is)
    (case l6 => k_is)
    (case c6 => k_is)
    (case k6 => k_is)
    (case a7 => k_is)
    (case i7 => k_is)
    (case l7 => k_is)
    (case c7 => k_is)
    (case k7 => k_is)
    (case a8 => k_is)
    (case i8 => k_is)
    (case l8 => k_is)
    (case c8 => k_is)
    (case k8 => k_is)
    (case a9 => k_is)
    (case i9 => k_is)
    (case l9 => k_is)
    (case c9 => k_is)
    (case k9 => k_is)
    (case a10 => k_is)
    (case i10 => k_is)
    (case l10 => k_is)
    (case c10 => k_is)
    (case k10 => k_is)
    (case a11 => k_is)
    (case i11 => k_is)
    (case l11 => k_is)
    (case c11 => k_is)
    (case k11 => k_is)
    (case a12 => k_is)
    (case l12 => k_is)
    (case c12 => k_is)
    (case k12 => k_is)
    (case a13 => k_is)
    (case l13 => k_is)
    (case c13 => k_is)
    (case k13 => k_is)
    (case a14 => k_is)
    (case l14 => k_is)
    (case c14 => k_is)
    (case k14 => k_is)
    (case a15 => k_is)
    (case l15 => k_is)
    (case c15 => k_is)
    (case k15 => k_is)
    (case a16 => k_is)
    (case l16 => k_is)
    (case c16 => k_is)
    (case k16 => k_is)
    (case a17 => k_is)
    (case l17 => k_is)
    (case c17 => k_is)
    (case k17 => k_is)
    (case a18 => k_is)
    (case l18 => k_is)
    (case c18 => k_is)
    (case k18 => k_is)
    (case a19 => k_is)
    (case l19 => k_is)
    (case c19 => k_is)
    (case k19 => k_is)
    (case a20 => k_is)
    (case l20 => k_is)
    (case c20 => k_is)
    (case k20 => k_is)
    (case a21 => k_is)
    (case l21 => k_is)
    (case c21 => k_is)
    (case k21 => k_is)
    (case qa0 => k_is)
    (case qa1 => k_is)
    (case qa2 => k_is)
    (case qa3 => k_is)
    (case qa4 => k_is)
    (case qa5 => k_is)
    (case rg => k_is)
    (case rr => k_is)
    (case ri => k_is)
    (case xn => k_is)
    (case xt => k_is)
    (case xl1 => k_is)
    (case xs1 => k_is)
    (case xg1 => k_is)
    (case xh1 => k_is)
    (case xv1 => k_is)
    (case xi1 => k_is)
    (case xj1 => k_is)
    (case xk1 => k_is)
    (case xe1 => k_is)
    (case xc1 => k_is)
    (case xm1 => k_is)
    (case li1 => k_is)
    (case cix1 => k_is)
    (case ki1 => k_is)
    (case tq0 => k_is)
    (case hq0 => k_is)
    (case sqx0 => k_is)
    (case bq0 => k_is)
    (case tq1 => k_is)
    (case hq1 => k_is)
    (case sqx1 => k_is)
    (case bq1 => k_is)
    (case tq2 => k_is)
    (case hq2 => k_is)
    (case sqx2 => k_is)
    (case bq2 => k_is)
    (case tq3 => k_is)
    (case hq3 => k_is)
    (case sqx3 => k_is)
    (case bq3 => k_is)
    (case tq4 => k_is)
    (case hq4 => k_is)
    (case sqx4 => k_is)
    (case bq4 => k_is)
    (case tq5 => k_is)
    (case hq5 => k_is)
    (case sqx5 => k_is)
    (case bq5 => k_is)
    (case u1_0 => first | rfl | k_is)
    (case u1_1 => first | rfl | k_is)
    (case u1_2 => first | rfl | k_is)
    (case u1_3 => first | rfl | k_is)
    (case u1_4 => first | rfl | k_is)
    (case u1_5 => first | rfl | k_is)
    (case uv1 => k_is)
    (case z0 => k_is)
    (case z1 => k_is)
    (case z2 => k_is)
    (case z3 => k_is)
    (case z4 => k_is)
    (case z5 => k_is)
    (case z6 => k_is)
    (case z7 => k_is)
    (case z8 => k_is)
    (case z9 => k_is)
    (case z10 => k_is)
    (case z11 => k_is)
    (case z12 => k_is)
    (case y0 => k_is)
    (case y1 => k_is)
    (case y2 => k_is)
    (case u2 => first | rfl | k_is)
    (case u2_0 => first | rfl | k_is)
    (case y3 => k_is)
    (case u3 => first | rfl | k_is)
    (case y4 => k_is)
    (case u4 => first | rfl | k_is)
    (case y5 => k_is)
    (case y6 => k_is)
    (case y7 => k_is)
    (case y8 => k_is)

