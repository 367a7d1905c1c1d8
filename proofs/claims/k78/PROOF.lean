import PyProof.Rows.All
import Wide.All
import OpenK.AllK
import Wide.FinOn
import HandS.ForMost
import HandS.Walk
import HandS.Star
import HandS.TupMul
import HandS.TupAny
import HandS.IsInst
import HandS.Deep
import HandS.RaiseMore
import PyProof.ReprRoads
import KE.GoesMore
import HandS.Style
import PySem.Challenge.RW_spreadchecks_k78_phases_and_bursts_of_ro
set_option Elab.async false
set_option linter.all false
set_option maxRecDepth 100000
set_option maxHeartbeats 4000000
/-! The data layer: what a def does, told over plain data. -/
namespace DL
open PySem PySem.Spec PyProof.Rows L2
abbrev St := L2.St
/-- plain data -/
inductive D where
  | non | bl (b : Bool) | int (i : Int) | str (s : Str) | tup (ds : List D) | lst (ds : List D)
  | ty (n : String) | ref (a : Addr) | ins (C : Addr) (fs : List (Str × D)) | pen (cs : List Int)
/-- the draws' pen: where it stands, its cells -/
abbrev Pn := Addr × List Int
def pad (p : Option Pn) : Option Addr := p.map (·.1)
def pcs (p : Option Pn) : List Int := match p with
  | some q => q.2
  | none => []
mutual
inductive Rep (K : PySem.W.Frag) (pa : Option Pn) (F : Hp) : V → D → Prop
  | non : Rep K pa F .non .non
  | bl (b : Bool) : Rep K pa F (.bl b) (.bl b)
  | int (i : Int) : Rep K pa F (.int i) (.int i)
  | str (x : Str) : Rep K pa F (.str x) (.str x)
  | ty (n : String) : Rep K pa F (.ty n) (.ty n)
  | ref (a : Addr) : Rep K pa F (.ref a) (.ref a)
  | tup {a : Addr} {vs : List V} {ds : List D} : SqT K F a vs → Reps K pa F vs ds → Rep K pa F (.ref a) (.tup ds)
  | lst {a : Addr} {vs : List V} {ds : List D} : F a = some (.lst vs) → Reps K pa F vs ds → Rep K pa F (.ref a) (.lst ds)
  | ins {a C dx : Addr} {fs : List (Str × V)} {gs : List (Str × D)} : F a = some (.ins C dx fs) → F dx = some (.own a) → Repf K pa F fs gs → Rep K pa F (.ref a) (.ins C gs)
  | pen {a : Addr} {cs : List Int} : pa = some (a, cs) → Rep K pa F (.ref a) (.pen cs)
inductive Reps (K : PySem.W.Frag) (pa : Option Pn) (F : Hp) : List V → List D → Prop
  | nil : Reps K pa F [] []
  | cons {v : V} {vs : List V} {d : D} {ds : List D} : Rep K pa F v d → Reps K pa F vs ds → Reps K pa F (v :: vs) (d :: ds)
inductive Repf (K : PySem.W.Frag) (pa : Option Pn) (F : Hp) : List (Str × V) → List (Str × D) → Prop
  | nil : Repf K pa F [] []
  | cons {x : Str} {v : V} {vs : List (Str × V)} {d : D} {ds : List (Str × D)} : Rep K pa F v d → Repf K pa F vs ds → Repf K pa F ((x, v) :: vs) ((x, d) :: ds)
end
theorem same_sqT {K : PySem.W.Frag} {H H' : Hp} {a : Addr} {xs : List V} (e : Same H H') (h : SqT K H a xs) : SqT K H' a xs := by
  rcases h with (h | ⟨o, h⟩) | h
  · exact .inl (.inl (e _ _ h))
  · exact .inl (.inr ⟨o, e _ _ h⟩)
  · exact .inr h
section
variable {K : PySem.W.Frag} {pa : Option Pn} {F F' : Hp}
mutual
theorem Rep.mono (e : Same F F') : ∀ {v : V} {d : D}, Rep K pa F v d → Rep K pa F' v d
  | _, _, .non => .non
  | _, _, .bl b => .bl b
  | _, _, .int i => .int i
  | _, _, .str x => .str x
  | _, _, .ty n => .ty n
  | _, _, .ref a => .ref a
  | _, _, .tup h r => .tup (same_sqT e h) (Reps.mono e r)
  | _, _, .lst h r => .lst (e _ _ h) (Reps.mono e r)
  | _, _, .ins h1 h2 r => .ins (e _ _ h1) (e _ _ h2) (Repf.mono e r)
  | _, _, .pen h => .pen h
theorem Reps.mono (e : Same F F') : ∀ {vs : List V} {ds : List D}, Reps K pa F vs ds → Reps K pa F' vs ds
  | _, _, .nil => .nil
  | _, _, .cons h r => .cons (Rep.mono e h) (Reps.mono e r)
theorem Repf.mono (e : Same F F') : ∀ {vs : List (Str × V)} {ds : List (Str × D)}, Repf K pa F vs ds → Repf K pa F' vs ds
  | _, _, .nil => .nil
  | _, _, .cons h r => .cons (Rep.mono e h) (Repf.mono e r)
end
theorem Reps.length : ∀ {vs : List V} {ds : List D}, Reps K pa F vs ds → vs.length = ds.length
  | _, _, .nil => rfl
  | _, _, .cons _ r => by rw [List.length_cons, List.length_cons, Reps.length r]
theorem Reps.append : ∀ {vs ws : List V} {ds es : List D}, Reps K pa F vs ds → Reps K pa F ws es → Reps K pa F (vs ++ ws) (ds ++ es)
  | _, _, _, _, .nil, s => s
  | _, _, _, _, .cons h r, s => .cons h (Reps.append r s)
theorem Reps.get : ∀ {vs : List V} {ds : List D} {i : Nat} {v : V}, Reps K pa F vs ds → vs[i]? = some v → ∃ d, ds[i]? = some d ∧ Rep K pa F v d
  | _, _, _, _, .nil, e => by simp at e
  | _, _, 0, _, .cons h _, e => by simp at e; subst e; exact ⟨_, rfl, h⟩
  | _, _, i + 1, v, .cons _ r, e => by
    obtain ⟨d, h1, h2⟩ := Reps.get (i := i) (v := v) r (by simpa using e)
    exact ⟨d, by simpa using h1, h2⟩
theorem Reps.getD : ∀ {vs : List V} {ds : List D} {i : Nat} {d : D}, Reps K pa F vs ds → ds[i]? = some d → ∃ v, vs[i]? = some v ∧ Rep K pa F v d
  | _, _, _, _, .nil, e => by simp at e
  | _, _, 0, _, .cons h _, e => by simp at e; subst e; exact ⟨_, rfl, h⟩
  | _, _, i + 1, v, .cons _ r, e => by
    obtain ⟨d, h1, h2⟩ := Reps.getD (i := i) (d := v) r (by simpa using e)
    exact ⟨d, by simpa using h1, h2⟩
theorem Reps.take : ∀ {vs : List V} {ds : List D} (n : Nat), Reps K pa F vs ds → Reps K pa F (vs.take n) (ds.take n)
  | _, _, 0, _ => .nil
  | _, _, _ + 1, .nil => .nil
  | _, _, n + 1, .cons h r => .cons h (Reps.take n r)
theorem Reps.drop : ∀ {vs : List V} {ds : List D} (n : Nat), Reps K pa F vs ds → Reps K pa F (vs.drop n) (ds.drop n)
  | _, _, 0, r => r
  | _, _, _ + 1, .nil => .nil
  | _, _, n + 1, .cons _ r => Reps.drop n r
theorem Reps.set {v : V} {d : D} (h : Rep K pa F v d) : ∀ {vs : List V} {ds : List D} (i : Nat), Reps K pa F vs ds → Reps K pa F (vs.set i v) (ds.set i d)
  | _, _, _, .nil => .nil
  | _, _, 0, .cons _ r => .cons h r
  | _, _, i + 1, .cons q r => .cons q (Reps.set h i r)
theorem Reps.rep : ∀ {vs : List V} {ds : List D} (n : Nat), Reps K pa F vs ds → Reps K pa F (List.replicate n vs).flatten (List.replicate n ds).flatten
  | _, _, 0, _ => .nil
  | _, _, n + 1, r => by
    rw [List.replicate_succ, List.replicate_succ, List.flatten_cons, List.flatten_cons]
    exact Reps.append r (Reps.rep n r)
theorem Reps.ints (l : List Int) : Reps K pa F (l.map V.int) (l.map D.int) := by
  induction l with
  | nil => exact .nil
  | cons i r ih => exact .cons (.int i) ih
end
/-- where a def runs: the written part, the draws' pen, what stood frozen and what stood at its begin -/
structure Wd where
  K : PySem.W.Frag
  pa : Option Pn
  F0 : Hp
  H0 : Hp
/-- the pen as it stands: cells, how many were begun (at most n), what is left -/
def PenOk (W : Wd) (F H : Hp) (n : Nat) : Prop :=
  ∀ p, pad W.pa = some p → F p = none ∧ ∃ (ca : Addr) (turn rst : Int), H p = some (.lst [.ref ca, .int turn, .int rst]) ∧ F ca = some (.lst ((pcs W.pa).map V.int)) ∧ 0 ≤ turn ∧ turn ≤ (n : Int) ∧ 0 ≤ rst
structure Wok (W : Wd) (F H : Hp) (n : Nat) : Prop where
  sub : Same F H
  pen : PenOk W F H n
  old : ∀ a o, W.H0 a = some o → pad W.pa ≠ some a → H a = some o
  oldp : ∀ p, pad W.pa = some p → H p ≠ none
  f0 : Same W.F0 F
  nf : ∀ a o, F a = some o → W.F0 a = some o ∨ W.H0 a = none
theorem Wok.fresh {W : Wd} {F H : Hp} {n : Nat} (w : Wok W F H n) {p : Addr} (h : H p = none) : F p = none ∧ W.H0 p = none ∧ pad W.pa ≠ some p := by
  have hp : pad W.pa ≠ some p := fun e => w.oldp p e h
  refine ⟨?_, ?_, hp⟩
  · cases q : F p with
    | none => rfl
    | some o => rw [w.sub _ _ q] at h; cases h
  · cases q : W.H0 p with
    | none => rfl
    | some o => rw [w.old _ _ q hp] at h; cases h
/-- a slot of a def -/
inductive Sl where
  | no | val (d : D) | own (ds : List D)
/-- the own lists' addresses -/
def OwnA (S : List Sl) (σ : St) (a : Addr) : Prop := ∃ (i : Nat) (ds : List D), S[i]? = some (Sl.own ds) ∧ σ[i]? = some (some (V.ref a))
/-- between two places in one def: the frozen part grows (by new objects and by own lists that are given up), all that is tracked but the pen is kept -/
structure Grow (W : Wd) (S : List Sl) (σ : St) (F H F' H' : Hp) (S' : List Sl) : Prop where
  f : Same F F'
  h : ∀ a o, H a = some o → pad W.pa ≠ some a → H' a = some o
  hn : ∀ a, H' a = none → H a = none
  nf : ∀ a o, F' a = some o → F a = some o ∨ H a = none ∨ OwnA S σ a
  os : ∀ a, OwnA S' σ a → OwnA S σ a
theorem Grow.refl {W : Wd} {S : List Sl} {σ : St} {F H : Hp} : Grow W S σ F H F H S := ⟨Same.refl _, fun _ _ h _ => h, fun _ h => h, fun _ _ h => .inl h, fun _ h => h⟩
theorem Grow.trans {W : Wd} {S S1 S2 : List Sl} {σ : St} {F H F1 H1 F2 H2 : Hp} (a : Grow W S σ F H F1 H1 S1) (b : Grow W S1 σ F1 H1 F2 H2 S2) : Grow W S σ F H F2 H2 S2 :=
  ⟨a.f.trans b.f, fun c o h p => b.h c o (a.h c o h p) p, fun c h => a.hn c (b.hn c h), fun c o h => by
    rcases b.nf c o h with z | z | z
    · exact a.nf c o z
    · exact .inr (.inl (a.hn c z))
    · exact .inr (.inr (a.os c z)), fun c h => a.os c (b.os c h)⟩
/-- new objects alone: frozen ones among them -/
structure New (W : Wd) (F H F' H' : Hp) : Prop where
  f : Same F F'
  h : Same H H'
  sub : Same F' H'
  nw : ∀ a o, F' a = some o → F a = some o ∨ H a = none
theorem New.refl {W : Wd} {F H : Hp} (h : Same F H) : New W F H F H := ⟨Same.refl _, Same.refl _, h, fun _ _ h => .inl h⟩
theorem New.grow {W : Wd} {S : List Sl} {σ : St} {F H F' H' : Hp} (a : New W F H F' H') : Grow W S σ F H F' H' S := by
  refine ⟨a.f, fun c o h _ => a.h c o h, fun c h => ?_, fun c o h => ?_, fun _ h => h⟩
  · cases q : H c with
    | none => rfl
    | some u => rw [a.h _ _ q] at h; cases h
  · rcases a.nw c o h with z | z
    · exact .inl z
    · exact .inr (.inl z)
theorem New.wok {W : Wd} {F H F' H' : Hp} {n : Nat} (a : New W F H F' H') (w : Wok W F H n) : Wok W F' H' n where
  sub := a.sub
  pen := fun p e => by
    obtain ⟨h1, ca, turn, rst, h2, h3, h4⟩ := w.pen p e
    refine ⟨?_, ca, turn, rst, a.h _ _ h2, a.f _ _ h3, h4⟩
    cases q : F' p with
    | none => rfl
    | some o =>
      rcases a.nw _ _ q with z | z
      · rw [h1] at z; cases z
      · rw [h2] at z; cases z
  old := fun c o h p => a.h _ _ (w.old c o h p)
  oldp := fun p e q => by
    cases z : H p with
    | none => exact w.oldp p e z
    | some o => rw [a.h _ _ z] at q; cases q
  f0 := w.f0.trans a.f
  nf := fun c o h => by
    rcases a.nw _ _ h with z | z
    · exact w.nf _ _ z
    · exact .inr (w.fresh z).2.1
theorem New.trans {W : Wd} {F H F1 H1 F2 H2 : Hp} (a : New W F H F1 H1) (b : New W F1 H1 F2 H2) : New W F H F2 H2 :=
  ⟨a.f.trans b.f, a.h.trans b.h, b.sub, fun c o h => by
    rcases b.nw _ _ h with z | z
    · exact a.nw _ _ z
    · refine .inr ?_
      cases q : H c with
      | none => rfl
      | some u => rw [a.h _ _ q] at z; cases z⟩
theorem same_new {H : Hp} {p : Addr} {o : HO} (h : H p = none) : Same H (upd H p o) := fun b x e => by
  rw [upd_ne (ne_of_none e h)]; exact e
/-- a new object, frozen at once -/
theorem New.one {W : Wd} {F H : Hp} {n : Nat} (w : Wok W F H n) {p : Addr} (h : H p = none) (o : HO) : New W F H (upd F p o) (upd H p o) := by
  have hF := (w.fresh h).1
  refine ⟨same_new hF, same_new h, fun a u e => ?_, fun a u e => ?_⟩
  · by_cases q : a = p
    · subst q; rw [upd_same] at e ⊢; exact e
    · rw [upd_ne q] at e ⊢; exact w.sub _ _ e
  · by_cases q : a = p
    · subst q; exact .inr h
    · rw [upd_ne q] at e; exact .inl e
/-- a new object, not frozen -/
theorem New.free {W : Wd} {F H : Hp} {n : Nat} (w : Wok W F H n) {p : Addr} (h : H p = none) (o : HO) : New W F H F (upd H p o) :=
  ⟨Same.refl _, same_new h, w.sub.trans (same_new h), fun _ _ e => .inl e⟩
def SlOk (W : Wd) (F H : Hp) : Sl → Option V → Prop
  | .no, _ => True
  | .val d, some v => Rep W.K W.pa F v d
  | .val _, none => False
  | .own ds, some (.ref p) => F p = none ∧ W.H0 p = none ∧ pad W.pa ≠ some p ∧ ∃ vs, H p = some (.lst vs) ∧ Reps W.K W.pa F vs ds
  | .own _, _ => False
structure Abs (W : Wd) (F : Hp) (n : Nat) (S : List Sl) (σ : St) (H : Hp) : Prop where
  w : Wok W F H n
  len : S.length = σ.length
  sl : ∀ (i : Nat) (s : Sl) (v : Option V), S[i]? = some s → σ[i]? = some v → SlOk W F H s v
  di : ∀ (i j : Nat) (p : Addr) (ds es : List D), S[i]? = some (.own ds) → S[j]? = some (.own es) → σ[i]? = some (some (.ref p)) → σ[j]? = some (some (.ref p)) → i = j
section
variable {W : Wd} {F F' H H' : Hp} {n n' : Nat} {S : List Sl} {σ : St}
theorem SlOk.grow {S1 S2 : List Sl} {σ1 : St} {s : Sl} {v : Option V} (h : SlOk W F H s v) (g : Grow W S1 σ1 F H F' H' S2) (nw : ∀ p vs, H p = some (.lst vs) → F p = none → W.H0 p = none → F' p = none) : SlOk W F' H' s v := by
  cases s with
  | no => trivial
  | val d =>
    cases v with
    | none => exact h.elim
    | some v => exact Rep.mono g.f h
  | own ds =>
    cases v with
    | none => exact h.elim
    | some v =>
      cases v with
      | ref p =>
        obtain ⟨h1, h2, h3, vs, h4, h5⟩ := h
        exact ⟨nw p vs h4 h1 h2, h2, h3, vs, g.h _ _ h4 h3, Reps.mono g.f h5⟩
      | _ => exact h.elim
theorem Abs.new (A : Abs W F n S σ H) (g : New W F H F' H') : Abs W F' n S σ H' :=
  ⟨g.wok A.w, A.len, fun i s v e1 e2 => (A.sl i s v e1 e2).grow (S1 := S) (σ1 := σ) (S2 := S) g.grow (fun p vs h1 h2 h3 => by
    cases q : F' p with
    | none => rfl
    | some o =>
      rcases g.nw _ _ q with z | z
      · rw [h2] at z; cases z
      · rw [h1] at z; cases z), A.di⟩
end
/-- a value that is read at once: frozen, or an own list as it stands -/
def RB (W : Wd) (F H : Hp) (v : V) (d : D) : Prop :=
  Rep W.K W.pa F v d ∨ ∃ p vs ds, v = .ref p ∧ d = .lst ds ∧ pad W.pa ≠ some p ∧ H p = some (.lst vs) ∧ Reps W.K W.pa F vs ds
theorem RB.grow {W : Wd} {S1 S2 : List Sl} {σ1 : St} {F H F' H' : Hp} {v : V} {d : D} (h : RB W F H v d) (g : Grow W S1 σ1 F H F' H' S2) : RB W F' H' v d := by
  rcases h with h | ⟨p, vs, ds, e1, e2, e3, e4, e5⟩
  · exact .inl (Rep.mono g.f h)
  · exact .inr ⟨p, vs, ds, e1, e2, e3, g.h _ _ e4 e3, Reps.mono g.f e5⟩
theorem RB.new {W : Wd} {F H F' H' : Hp} {v : V} {d : D} (h : RB W F H v d) (g : New W F H F' H') : RB W F' H' v d := h.grow (S1 := []) (S2 := []) (σ1 := []) g.grow
section
variable {W : Wd} {F H : Hp} {n : Nat} {v : V} {ds : List D}
theorem RB.lst (w : Same F H) (h : RB W F H v (.lst ds)) : ∃ p vs, v = .ref p ∧ H p = some (.lst vs) ∧ Reps W.K W.pa F vs ds := by
  rcases h with h | ⟨p, vs, es, e1, e2, e3, e4, e5⟩
  · cases h with
    | lst q r => exact ⟨_, _, rfl, w _ _ q, r⟩
  · cases e2
    exact ⟨p, vs, e1, e4, e5⟩
theorem RB.tup (w : Same F H) (h : RB W F H v (.tup ds)) : ∃ p vs, v = .ref p ∧ SqT W.K H p vs ∧ SqT W.K F p vs ∧ Reps W.K W.pa F vs ds := by
  rcases h with h | ⟨p, vs, es, e1, e2, e3, e4, e5⟩
  · cases h with
    | tup q r => exact ⟨_, _, rfl, same_sqT w q, q, r⟩
  · cases e2
theorem RB.int {i : Int} (h : RB W F H v (.int i)) : v = .int i := by
  rcases h with h | ⟨p, vs, es, e1, e2, e3, e4, e5⟩
  · cases h; rfl
  · cases e2
theorem RB.bl {i : Bool} (h : RB W F H v (.bl i)) : v = .bl i := by
  rcases h with h | ⟨p, vs, es, e1, e2, e3, e4, e5⟩
  · cases h; rfl
  · cases e2
theorem RB.str {i : Str} (h : RB W F H v (.str i)) : v = .str i := by
  rcases h with h | ⟨p, vs, es, e1, e2, e3, e4, e5⟩
  · cases h; rfl
  · cases e2
theorem RB.non (h : RB W F H v .non) : v = .non := by
  rcases h with h | ⟨p, vs, es, e1, e2, e3, e4, e5⟩
  · cases h; rfl
  · cases e2
end
/-! ### the judgements over data -/
abbrev KE := List Sl → Nat → (D → List Sl → Nat → Prop) → Prop
abbrev KA := List Sl → Nat → (List D → List Sl → Nat → Prop) → Prop
abbrev KT := List Sl → Nat → (Bool → List Sl → Nat → Prop) → Prop
/-- what a reading t answers when data answer k -/
abbrev SpE (K : PySem.W.Frag) (t : TE) (k : KE) : Prop :=
  ∀ (W : Wd) (F : Hp) (n : Nat) (S : List Sl) (σ : St) (H : Hp) (Q : D → List Sl → Nat → Prop) (R : VK), W.K = K → Abs W F n S σ H → k S n Q →
    (∀ v H' F' n' S' d, Grow W S σ F H F' H' S' → Abs W F' n' S' σ H' → Rep W.K W.pa F' v d → Q d S' n' → R v H') → t σ H R
abbrev SpB (K : PySem.W.Frag) (t : TE) (k : KE) : Prop :=
  ∀ (W : Wd) (F : Hp) (n : Nat) (S : List Sl) (σ : St) (H : Hp) (Q : D → List Sl → Nat → Prop) (R : VK), W.K = K → Abs W F n S σ H → k S n Q →
    (∀ v H' F' n' S' d, Grow W S σ F H F' H' S' → Abs W F' n' S' σ H' → RB W F' H' v d → Q d S' n' → R v H') → t σ H R
abbrev SpA (K : PySem.W.Frag) (t : TA) (k : KA) : Prop :=
  ∀ (W : Wd) (F : Hp) (n : Nat) (S : List Sl) (σ : St) (H : Hp) (Q : List D → List Sl → Nat → Prop) (R : List V → Hp → Prop), W.K = K → Abs W F n S σ H → k S n Q →
    (∀ vs H' F' n' S' ds, Grow W S σ F H F' H' S' → Abs W F' n' S' σ H' → Reps W.K W.pa F' vs ds → Q ds S' n' → R vs H') → t σ H R
abbrev SpT (K : PySem.W.Frag) (t : TT) (k : KT) : Prop :=
  ∀ (W : Wd) (F : Hp) (n : Nat) (S : List Sl) (σ : St) (H : Hp) (Q : Bool → List Sl → Nat → Prop) (R : Bool → Hp → Prop), W.K = K → Abs W F n S σ H → k S n Q →
    (∀ b H' F' n' S', Grow W S σ F H F' H' S' → Abs W F' n' S' σ H' → Q b S' n' → R b H') → t σ H R
structure DE (X : Cx) (e : Expr) (t : TE) (k : KE) : Prop where
  pe : PE X e t
  ok : SpE X.K t k
structure DB (X : Cx) (e : Expr) (t : TE) (k : KE) : Prop where
  pe : PE X e t
  ok : SpB X.K t k
structure DA (X : Cx) (es : List Expr) (t : TA) (k : KA) : Prop where
  pe : PA X es t
  ok : SpA X.K t k
structure DT (X : Cx) (e : Expr) (t : TT) (k : KT) : Prop where
  pe : PT X e t
  ok : SpT X.K t k
structure DW (X : Cx) (e : Expr) (t : TT) (k : KT) : Prop where
  pe : PW X e t
  ok : SpT X.K t k
end DL
namespace DL
open PySem PySem.Spec PyProof.Rows L2
/-! ### names, constants -/
/-- either kind of slot, read at once -/
def kB (i : Nat) : KE := fun S n Q => match S[i]? with
  | some (.val d) => Q d S n
  | some (.own ds) => Q (.lst ds) S n
  | _ => False
/-- either kind of slot; an own list is frozen -/
def kV (i : Nat) : KE := fun S n Q => match S[i]? with
  | some (.val d) => Q d S n
  | some (.own ds) => Q (.lst ds) (S.set i (.val (.lst ds))) n
  | _ => False
def kC (d : D) : KE := fun S n Q => Q d S n
theorem slot_of {W : Wd} {F H : Hp} {n : Nat} {S : List Sl} {σ : St} (A : Abs W F n S σ H) {i : Nat} {s : Sl} (h : S[i]? = some s) : ∃ v, σ[i]? = some v ∧ SlOk W F H s v := by
  have hi : i < S.length := (List.getElem?_eq_some_iff.mp h).1
  have hj : i < σ.length := by rw [← A.len]; exact hi
  exact ⟨σ[i], List.getElem?_eq_getElem hj, A.sl i s _ h (List.getElem?_eq_getElem hj)⟩
/-- freezing an own list -/
theorem Abs.freeze {W : Wd} {F H : Hp} {n : Nat} {S : List Sl} {σ : St} (A : Abs W F n S σ H) {i : Nat} {p : Addr} {vs : List V} {ds : List D} (e : S[i]? = some (.own ds)) (e2 : σ[i]? = some (some (.ref p)))
    (h1 : F p = none) (h2 : W.H0 p = none) (h3 : pad W.pa ≠ some p) (h4 : H p = some (.lst vs)) (h5 : Reps W.K W.pa F vs ds) :
    Abs W (upd F p (.lst vs)) n (S.set i (.val (.lst ds))) σ H ∧ Rep W.K W.pa (upd F p (.lst vs)) (.ref p) (.lst ds) := by
  have sm : Same F (upd F p (.lst vs)) := same_new h1
  have rp : Rep W.K W.pa (upd F p (.lst vs)) (.ref p) (.lst ds) := .lst upd_same (Reps.mono sm h5)
  refine ⟨⟨⟨fun a u z => ?_, fun q z => ?_, A.w.old, A.w.oldp, A.w.f0.trans sm, fun a u z => ?_⟩, by rw [List.length_set]; exact A.len, fun j s v z1 z2 => ?_, fun j k q es fs z1 z2 z3 z4 => ?_⟩, rp⟩
  · by_cases y : a = p
    · subst y; rw [upd_same] at z; rw [h4]; exact z
    · rw [upd_ne y] at z; exact A.w.sub _ _ z
  · obtain ⟨y1, ca, turn, rst, y2, y3, y4⟩ := A.w.pen q z
    refine ⟨?_, ca, turn, rst, y2, sm _ _ y3, y4⟩
    have nq : q ≠ p := by
      intro y
      rw [y] at z
      exact h3 z
    rw [upd_ne nq]
    exact y1
  · by_cases y : a = p
    · subst y; exact .inr h2
    · rw [upd_ne y] at z; exact A.w.nf _ _ z
  · by_cases y : j = i
    · subst y
      have hj : j < S.length := (List.getElem?_eq_some_iff.mp e).1
      rw [List.getElem?_set_self hj] at z1
      cases z1
      rw [e2] at z2
      cases z2
      exact rp
    · rw [List.getElem?_set_ne (Ne.symm y)] at z1
      have ok := A.sl j s v z1 z2
      cases s with
      | no => trivial
      | val d =>
        cases v with
        | none => exact ok.elim
        | some v => exact Rep.mono sm ok
      | own es =>
        cases v with
        | none => exact ok.elim
        | some v =>
          cases v with
          | ref q =>
            obtain ⟨k1, k2, k3, ws, k4, k5⟩ := ok
            have nq : q ≠ p := fun x => y (A.di j i p es ds z1 e (x ▸ z2) e2)
            exact ⟨by rw [upd_ne nq]; exact k1, k2, k3, ws, k4, Reps.mono sm k5⟩
          | _ => exact ok.elim
  · have hi : i < S.length := (List.getElem?_eq_some_iff.mp e).1
    have nj : j ≠ i := fun y => by subst y; rw [List.getElem?_set_self hi] at z1; cases z1
    have nk : k ≠ i := fun y => by subst y; rw [List.getElem?_set_self hi] at z2; cases z2
    rw [List.getElem?_set_ne (Ne.symm nj)] at z1
    rw [List.getElem?_set_ne (Ne.symm nk)] at z2
    exact A.di j k q es fs z1 z2 z3 z4
theorem Abs.freezeG {W : Wd} {F H : Hp} {n : Nat} {S : List Sl} {σ : St} (A : Abs W F n S σ H) {i : Nat} {p : Addr} {vs : List V} {ds : List D} (e : S[i]? = some (.own ds)) (e2 : σ[i]? = some (some (.ref p)))
    (h4 : H p = some (.lst vs)) : Grow W S σ F H (upd F p (.lst vs)) H (S.set i (.val (.lst ds))) := by
  refine ⟨?_, fun _ _ h _ => h, fun _ h => h, fun a o z => ?_, fun a ⟨j, es, z1, z2⟩ => ?_⟩
  · obtain ⟨v, h1, h2⟩ := slot_of A e
    rw [e2] at h1
    cases h1
    exact same_new h2.1
  · by_cases y : a = p
    · subst y; exact .inr (.inr ⟨i, ds, e, e2⟩)
    · rw [upd_ne y] at z; exact .inl z
  · have hi : i < S.length := (List.getElem?_eq_some_iff.mp e).1
    by_cases y : j = i
    · subst y; rw [List.getElem?_set_self hi] at z1; cases z1
    · rw [List.getElem?_set_ne (Ne.symm y)] at z1
      exact ⟨j, es, z1, z2⟩
section
variable {X : Cx}
theorem SpE.b {K : PySem.W.Frag} {t : TE} {k : KE} (h : SpE K t k) : SpB K t k := fun W F n S σ H Q R hK A q r => h W F n S σ H Q R hK A q fun v H' F' n' S' d g a b c => r v H' F' n' S' d g a (.inl b) c
theorem DE.b {e : Expr} {t : TE} {k : KE} (h : DE X e t k) : DB X e t k := ⟨h.pe, h.ok.b⟩
theorem dbv (i : Nat) {x : Str} {pos : Pos} (h : PE X (.Name x pos) (tVar i) := by exact pv i) : DB X (.Name x pos) (tVar i) (kB i) := by
  refine ⟨h, fun W F n S σ H Q R hK A q r => ?_⟩
  unfold kB at q
  cases e : S[i]? with
  | none => rw [e] at q; exact q.elim
  | some s =>
    rw [e] at q
    cases s with
    | no => exact q.elim
    | val d =>
      obtain ⟨v, e2, ok⟩ := slot_of A e
      cases v with
      | none => exact ok.elim
      | some v => exact ⟨v, e2, r v H F n S d .refl A (.inl ok) q⟩
    | own ds =>
      obtain ⟨v, e2, ok⟩ := slot_of A e
      cases v with
      | none => exact ok.elim
      | some v =>
        cases v with
        | ref p =>
          obtain ⟨h1, h2, h3, vs, h4, h5⟩ := ok
          exact ⟨_, e2, r _ H F n S _ .refl A (.inr ⟨p, vs, ds, rfl, rfl, h3, h4, h5⟩) q⟩
        | _ => exact ok.elim
theorem dev (i : Nat) {x : Str} {pos : Pos} (h : PE X (.Name x pos) (tVar i) := by exact pv i) : DE X (.Name x pos) (tVar i) (kV i) := by
  refine ⟨h, fun W F n S σ H Q R hK A q r => ?_⟩
  unfold kV at q
  cases e : S[i]? with
  | none => rw [e] at q; exact q.elim
  | some s =>
    rw [e] at q
    cases s with
    | no => exact q.elim
    | val d =>
      obtain ⟨v, e2, ok⟩ := slot_of A e
      cases v with
      | none => exact ok.elim
      | some v => exact ⟨v, e2, r v H F n S d .refl A ok q⟩
    | own ds =>
      obtain ⟨v, e2, ok⟩ := slot_of A e
      cases v with
      | none => exact ok.elim
      | some v =>
        cases v with
        | ref p =>
          obtain ⟨h1, h2, h3, vs, h4, h5⟩ := ok
          obtain ⟨k2, k3⟩ := A.freeze e e2 h1 h2 h3 h4 h5
          exact ⟨_, e2, r _ H _ n _ _ (A.freezeG e e2 h4) k2 k3 q⟩
        | _ => exact ok.elim
theorem de_c {e : Expr} {v : V} {d : D} (h : PE X e (tC v)) (hr : ∀ pa F, Rep X.K pa F v d) : DE X e (tC v) (kC d) :=
  ⟨h, fun W F n S σ H Q R hK A q r => r v H F n S d .refl A (hK ▸ hr W.pa F) q⟩
theorem de_int {i : Int} {j : Nat} {pos : Pos} : DE X (.Constant (.int i) j pos) (tC (.int i)) (kC (.int i)) := de_c pe_int fun _ _ => .int i
theorem de_bl {i : Bool} {j : Nat} {pos : Pos} : DE X (.Constant (.bool i) j pos) (tC (.bl i)) (kC (.bl i)) := de_c pe_bl fun _ _ => .bl i
theorem de_non {j : Nat} {pos : Pos} : DE X (.Constant .none j pos) (tC .non) (kC .non) := de_c pe_non fun _ _ => .non
theorem de_str {i : Str} {j : Nat} {pos : Pos} : DE X (.Constant (.str i) j pos) (tC (.str i)) (kC (.str i)) := de_c pe_str fun _ _ => .str i
/-- a built-in class as a value -/
theorem de_cls {x : Str} {T : String} {pos : Pos} (hm : X.mg x = none) (hg : Gl X x := by exact rfl) (hv : bootBuiltins x = some (.type T) := by decide +kernel) (hn : x ≠ "__name__" := by decide) (hd : (x == ("__debug__" : Str)) = false := by decide) :
    DE X (.Name x pos) (tC (.ty T)) (kC (.ty T)) := de_c (pe_bltn hg hm hv rfl hn hd) fun _ _ => .ty T
/-- a module's constant -/
theorem de_glob {x : Str} {v : V} {u : Value} {d : D} {pos : Pos} (hm : X.mg x = some u) (r : RelV v u) (hr : ∀ pa F, Rep X.K pa F v d) (hg : Gl X x := by exact rfl) (hd : (x == ("__debug__" : Str)) = false := by decide) : DE X (.Name x pos) (tC v) (kC d) :=
  de_c (pe_glob hg hm r hd) hr
/-! ### operators by values -/
abbrev D2 := D → D → (D → Prop) → Prop
abbrev D1 := D → (D → Prop) → Prop
def DOp (X : Cx) (r : R2) (op : D2) : Prop :=
  ∀ (W : Wd) (F H : Hp) (n : Nat) (x y : V) (a b : D) (Q : D → Prop) (R : VK), W.K = X.K → Wok W F H n → RB W F H x a → RB W F H y b → op a b Q →
    (∀ v F' H' d, New W F H F' H' → Rep W.K W.pa F' v d → Q d → R v H') → r x y H R
def kBin (op : D2) (ka kb : KE) : KE := fun S n Q => ka S n fun x S1 n1 => kb S1 n1 fun y S2 n2 => op x y fun d => Q d S2 n2
theorem bin_ok {r : R2} {op : D2} {ta tb : TE} {ka kb : KE} (hd : DOp X r op) (ha : SpB X.K ta ka) (hb : SpB X.K tb kb) : SpE X.K (tOp r ta tb) (kBin op ka kb) := by
  intro W F n S σ H Q R hK A q fin
  refine ha W F n S σ H _ _ hK A q fun x H1 F1 n1 S1 d1 g1 A1 r1 q1 => ?_
  refine hb W F1 n1 S1 σ H1 _ _ hK A1 q1 fun y H2 F2 n2 S2 d2 g2 A2 r2 q2 => ?_
  refine hd W F2 H2 n2 x y d1 d2 _ _ hK A2.w (r1.grow g2) r2 q2 fun v F3 H3 d g3 r3 q3 => ?_
  exact fin v H3 F3 n2 S2 d ((g1.trans g2).trans g3.grow) (A2.new g3) r3 q3
section
variable {a b c : Expr} {ta tb tc : TE} {ka kb kc : KE} {r r' : R2} {dop dop' : D2} {pos : Pos}
theorem de_bin {op : Operator} (ho : OpR X (binaryOp op) r) (hd : DOp X r dop) (ha : DB X a ta ka) (hb : DB X b tb kb) : DE X (.BinOp a op b pos) (tOp r ta tb) (kBin dop ka kb) := ⟨pe_op ho ha.pe hb.pe, bin_ok hd ha.ok hb.ok⟩
theorem de_cmp {op : CmpOp} (ho : OpR X (compareOp op) r) (hd : DOp X r dop) (ha : DB X a ta ka) (hb : DB X b tb kb) (hm : behindInMarks op b = false) : DE X (.Compare a [op] [b] pos) (tOp r ta tb) (kBin dop ka kb) := ⟨pe_cmpR ho ha.pe hb.pe hm, bin_ok hd ha.ok hb.ok⟩
/-- a value that is a bool, as a test -/
def kTest (k : KE) : KT := fun S n Q => k S n fun d S' n' => match d with
  | .bl c => Q c S' n'
  | _ => False
theorem test_ok {t : TE} {k : KE} (h : SpE X.K t k) : SpT X.K (fun σ H Q => t σ H fun x H1 => ∃ c, x = .bl c ∧ Q c H1) (kTest k) := by
  intro W F n S σ H Q R hK A q fin
  refine h W F n S σ H _ _ hK A q fun v H' F' n' S' d g A r q => ?_
  cases d with
  | bl c => cases r; exact ⟨c, rfl, fin c H' F' n' S' g A q⟩
  | _ => exact q.elim
theorem dt_cmp {op : CmpOp} (ho : OpR X (compareOp op) r) (hd : DOp X r dop) (ha : DB X a ta ka) (hb : DB X b tb kb) (hm : behindInMarks op b = false) : DT X (.Compare a [op] [b] pos) (tTest (tOp r ta tb)) (kTest (kBin dop ka kb)) :=
  ⟨pt_cmpR ho ha.pe hb.pe hm, test_ok (bin_ok hd ha.ok hb.ok)⟩
theorem dt_val {e : Expr} {t : TE} {k : KE} (h : DE X e t k) (he : ∀ whole, isTrue e X.env whole = (do let v ← whole; standAt e.pos; holding [v] (truthy v)) := by intro _; rfl) : DT X e (tB t) (kTest k) :=
  ⟨pt_val h.pe he, test_ok h.ok⟩
/-- a < b < c -/
def kChain (op op' : D2) (ka kb kc : KE) : KE := fun S n Q => ka S n fun x S1 n1 => kb S1 n1 fun y S2 n2 => op x y fun d => match d with
  | .bl true => kc S2 n2 fun z S3 n3 => op' y z fun d' => Q d' S3 n3
  | .bl false => Q (.bl false) S2 n2
  | _ => False
theorem chain_ok {op op' : D2} (hd : DOp X r op) (hd' : DOp X r' op') (ha : SpB X.K ta ka) (hb : SpB X.K tb kb) (hc : SpB X.K tc kc) : SpE X.K (tChain r r' ta tb tc) (kChain op op' ka kb kc) := by
  intro W F n S σ H Q R hK A q fin
  refine ha W F n S σ H _ _ hK A q fun x H1 F1 n1 S1 d1 g1 A1 r1 q1 => ?_
  refine hb W F1 n1 S1 σ H1 _ _ hK A1 q1 fun y H2 F2 n2 S2 d2 g2 A2 r2 q2 => ?_
  refine hd W F2 H2 n2 x y d1 d2 _ _ hK A2.w (r1.grow g2) r2 q2 fun v F3 H3 d g3 r3 q3 => ?_
  cases d with
  | bl k =>
    cases r3
    refine ⟨k, rfl, ?_⟩
    cases k with
    | true =>
      refine iteT ?_
      refine hc W F3 n2 S2 σ H3 _ _ hK (A2.new g3) q3 fun z H4 F4 n4 S4 d4 g4 A4 r4 q4 => ?_
      refine hd' W F4 H4 n4 y z d2 d4 _ _ hK A4.w ((r2.new g3).grow g4) r4 q4 fun v F5 H5 d g5 r5 q5 => ?_
      exact fin v H5 F5 n4 S4 d ((((g1.trans g2).trans g3.grow).trans g4).trans g5.grow) (A4.new g5) r5 q5
    | false =>
      refine iteF ?_
      exact fin _ H3 F3 n2 S2 _ ((g1.trans g2).trans g3.grow) (A2.new g3) (.bl false) q3
  | _ => exact q3.elim
theorem de_chain {op op' : CmpOp} (ho : OpR X (compareOp op) r) (hd : DOp X r dop) (ho' : OpR X (compareOp op') r') (hd' : DOp X r' dop') (ha : DB X a ta ka) (hb : DB X b tb kb) (hc : DB X c tc kc)
    (hp : PE X a ta → PE X b tb → PE X c tc → PE X (.Compare a [op, op'] [b, c] pos) (tChain r r' ta tb tc)) : DE X (.Compare a [op, op'] [b, c] pos) (tChain r r' ta tb tc) (kChain dop dop' ka kb kc) :=
  ⟨hp ha.pe hb.pe hc.pe, chain_ok hd hd' ha.ok hb.ok hc.ok⟩
theorem dt_chain {op op' : CmpOp} (ho : OpR X (compareOp op) r) (hd : DOp X r dop) (ho' : OpR X (compareOp op') r') (hd' : DOp X r' dop') (ha : DB X a ta ka) (hb : DB X b tb kb) (hc : DB X c tc kc)
    (hp : PE X a ta → PE X b tb → PE X c tc → PT X (.Compare a [op, op'] [b, c] pos) (tTest (tChain r r' ta tb tc))) : DT X (.Compare a [op, op'] [b, c] pos) (tTest (tChain r r' ta tb tc)) (kTest (kChain dop dop' ka kb kc)) :=
  ⟨hp ha.pe hb.pe hc.pe, test_ok (chain_ok hd hd' ha.ok hb.ok hc.ok)⟩
/-! ### unary -/
def DUn (X : Cx) (r : V → Hp → VK → Prop) (op : D1) : Prop :=
  ∀ (W : Wd) (F H : Hp) (n : Nat) (x : V) (a : D) (Q : D → Prop) (R : VK), W.K = X.K → Wok W F H n → RB W F H x a → op a Q →
    (∀ v F' H' d, New W F H F' H' → Rep W.K W.pa F' v d → Q d → R v H') → r x H R
def kUn (op : D1) (ka : KE) : KE := fun S n Q => ka S n fun x S1 n1 => op x fun d => Q d S1 n1
theorem de_un {op : UnaryOp} {r : V → Hp → VK → Prop} {dop : D1} (ho : UnR X (unaryOp op) r) (hd : DUn X r dop) (ha : DB X a ta ka) : DE X (.UnaryOp op a pos) (tUn r ta) (kUn dop ka) := by
  refine ⟨pe_un ho ha.pe, fun W F n S σ H Q R hK A q fin => ?_⟩
  refine ha.ok W F n S σ H _ _ hK A q fun x H1 F1 n1 S1 d1 g1 A1 r1 q1 => ?_
  refine hd W F1 H1 n1 x d1 _ _ hK A1.w r1 q1 fun v F3 H3 d g3 r3 q3 => ?_
  exact fin v H3 F3 n1 S1 d (g1.trans g3.grow) (A1.new g3) r3 q3
def dNeg : D1 := fun a Q => match a with
  | .int i => Q (.int (-i))
  | _ => False
theorem un_negD : DUn X (rU fun i => .int (-i)) dNeg := by
  intro W F H n x a Q R hK w ra q fin
  cases a with
  | int i => exact ⟨i, ra.int, fin _ F H _ (New.refl w.sub) (.int _) q⟩
  | _ => exact q.elim
end
/-! ### and, or, not, if -/
def kAndT (ka kb : KT) : KT := fun S n Q => ka S n fun c S1 n1 => if c = true then kb S1 n1 Q else Q false S1 n1
def kOrT (ka kb : KT) : KT := fun S n Q => ka S n fun c S1 n1 => if c = true then Q true S1 n1 else kb S1 n1 Q
def kNotT (ka : KT) : KT := fun S n Q => ka S n fun c S1 n1 => Q (!c) S1 n1
theorem DW.t {e : Expr} {t : TT} {k : KT} (h : DW X e t k) : DT X e t k := ⟨h.pe.pt, h.ok⟩
section
variable {a b : Expr} {rest : List Expr} {pos : Pos} {ta tb : TT} {ka kb kc : KT}
theorem dw_and1 (h : DT X a ta ka) : DW X (.BoolOp .And [a] pos) ta ka := ⟨pw_and1 h.pe, h.ok⟩
theorem dw_or1 (h : DT X a ta ka) : DW X (.BoolOp .Or [a] pos) ta ka := ⟨pw_or1 h.pe, h.ok⟩
theorem dw_and (h : DT X a ta ka) (h2 : DW X (.BoolOp .And (b :: rest) pos) tb kb) : DW X (.BoolOp .And (a :: b :: rest) pos) (tAnd ta tb) (kAndT ka kb) := by
  refine ⟨pw_and h.pe h2.pe, fun W F n S σ H Q R hK A q fin => ?_⟩
  refine h.ok W F n S σ H _ _ hK A q fun c H1 F1 n1 S1 g1 A1 q1 => ?_
  cases c with
  | true => exact iteT (h2.ok W F1 n1 S1 σ H1 _ _ hK A1 (by simpa using q1) fun c' H2 F2 n2 S2 g2 A2 q2 => fin c' H2 F2 n2 S2 (g1.trans g2) A2 q2)
  | false => exact iteF (fin false H1 F1 n1 S1 g1 A1 (by simpa using q1))
theorem dw_or (h : DT X a ta ka) (h2 : DW X (.BoolOp .Or (b :: rest) pos) tb kb) : DW X (.BoolOp .Or (a :: b :: rest) pos) (tOr ta tb) (kOrT ka kb) := by
  refine ⟨pw_or h.pe h2.pe, fun W F n S σ H Q R hK A q fin => ?_⟩
  refine h.ok W F n S σ H _ _ hK A q fun c H1 F1 n1 S1 g1 A1 q1 => ?_
  cases c with
  | false => exact iteF (h2.ok W F1 n1 S1 σ H1 _ _ hK A1 (by simpa using q1) fun c' H2 F2 n2 S2 g2 A2 q2 => fin c' H2 F2 n2 S2 (g1.trans g2) A2 q2)
  | true => exact iteT (fin true H1 F1 n1 S1 g1 A1 (by simpa using q1))
theorem dt_not (h : DT X a ta ka) : DT X (.UnaryOp .Not a pos) (tNot ta) (kNotT ka) := by
  refine ⟨pt_not h.pe, fun W F n S σ H Q R hK A q fin => ?_⟩
  exact h.ok W F n S σ H _ _ hK A q fun c H1 F1 n1 S1 g1 A1 q1 => fin _ H1 F1 n1 S1 g1 A1 q1
end
def kIf (kt : KT) (k1 k2 : KE) : KE := fun S n Q => kt S n fun c S1 n1 => if c = true then k1 S1 n1 Q else k2 S1 n1 Q
section
variable {a b c e : Expr} {rest es : List Expr} {pos : Pos} {tt : TT} {t1 t2 t : TE} {kt : KT} {k1 k2 k : KE} {ts : TA} {ks : KA}
theorem de_if (h : DT X c tt kt) (h1 : DE X a t1 k1) (h2 : DE X b t2 k2) : DE X (.IfExp c a b pos) (tIf tt t1 t2) (kIf kt k1 k2) := by
  refine ⟨pe_ifExp h.pe h1.pe h2.pe, fun W F n S σ H Q R hK A q fin => ?_⟩
  refine h.ok W F n S σ H _ _ hK A q fun c H1 F1 n1 S1 g1 A1 q1 => ?_
  cases c with
  | true => exact iteT (h1.ok W F1 n1 S1 σ H1 _ _ hK A1 (by simpa using q1) fun v H2 F2 n2 S2 d g2 A2 r q2 => fin v H2 F2 n2 S2 d (g1.trans g2) A2 r q2)
  | false => exact iteF (h2.ok W F1 n1 S1 σ H1 _ _ hK A1 (by simpa using q1) fun v H2 F2 n2 S2 d g2 A2 r q2 => fin v H2 F2 n2 S2 d (g1.trans g2) A2 r q2)
/-- as values, all bools -/
def kAndV (k1 k2 : KE) : KE := fun S n Q => k1 S n fun d S1 n1 => match d with
  | .bl true => k2 S1 n1 Q
  | .bl false => Q (.bl false) S1 n1
  | _ => False
def kOrV (k1 k2 : KE) : KE := fun S n Q => k1 S n fun d S1 n1 => match d with
  | .bl true => Q (.bl true) S1 n1
  | .bl false => k2 S1 n1 Q
  | _ => False
def kNotV (k1 : KE) : KE := fun S n Q => k1 S n fun d S1 n1 => match d with
  | .bl c => Q (.bl (!c)) S1 n1
  | _ => False
theorem de_one {op : BoolOp} (h : DE X a t1 k1) : DE X (.BoolOp op [a] pos) t1 k1 := ⟨pe_one h.pe, h.ok⟩
theorem de_and (h : DE X a t1 k1) (h2 : DE X (.BoolOp .And (b :: rest) pos) t2 k2) : DE X (.BoolOp .And (a :: b :: rest) pos) (tAndV t1 t2) (kAndV k1 k2) := by
  refine ⟨pe_and h.pe h2.pe, fun W F n S σ H Q R hK A q fin => ?_⟩
  refine h.ok W F n S σ H _ _ hK A q fun v H1 F1 n1 S1 d g1 A1 r q1 => ?_
  cases d with
  | bl c =>
    cases r
    refine ⟨c, rfl, ?_⟩
    cases c with
    | true => exact iteT (h2.ok W F1 n1 S1 σ H1 _ _ hK A1 q1 fun v H2 F2 n2 S2 d g2 A2 r q2 => fin v H2 F2 n2 S2 d (g1.trans g2) A2 r q2)
    | false => exact iteF (fin _ H1 F1 n1 S1 _ g1 A1 (.bl false) q1)
  | _ => exact q1.elim
theorem de_or (h : DE X a t1 k1) (h2 : DE X (.BoolOp .Or (b :: rest) pos) t2 k2) : DE X (.BoolOp .Or (a :: b :: rest) pos) (tOrV t1 t2) (kOrV k1 k2) := by
  refine ⟨pe_or h.pe h2.pe, fun W F n S σ H Q R hK A q fin => ?_⟩
  refine h.ok W F n S σ H _ _ hK A q fun v H1 F1 n1 S1 d g1 A1 r q1 => ?_
  cases d with
  | bl c =>
    cases r
    refine ⟨c, rfl, ?_⟩
    cases c with
    | false => exact iteF (h2.ok W F1 n1 S1 σ H1 _ _ hK A1 q1 fun v H2 F2 n2 S2 d g2 A2 r q2 => fin v H2 F2 n2 S2 d (g1.trans g2) A2 r q2)
    | true => exact iteT (fin _ H1 F1 n1 S1 _ g1 A1 (.bl true) q1)
  | _ => exact q1.elim
theorem de_not (h : DE X a t1 k1) : DE X (.UnaryOp .Not a pos) (tNotV t1) (kNotV k1) := by
  refine ⟨pe_not h.pe, fun W F n S σ H Q R hK A q fin => ?_⟩
  refine h.ok W F n S σ H _ _ hK A q fun v H1 F1 n1 S1 d g1 A1 r q1 => ?_
  cases d with
  | bl c => cases r; exact ⟨c, rfl, fin _ H1 F1 n1 S1 _ g1 A1 (.bl _) q1⟩
  | _ => exact q1.elim
/-! ### displays, arguments -/
def kNil : KA := fun S n Q => Q [] S n
def kCons (k : KE) (ks : KA) : KA := fun S n Q => k S n fun d S1 n1 => ks S1 n1 fun ds S2 n2 => Q (d :: ds) S2 n2
/-- *e in a display -/
def kStar (k : KE) (ks : KA) : KA := fun S n Q => k S n fun d S1 n1 => match d with
  | .lst xs => ks S1 n1 fun ds S2 n2 => Q (xs ++ ds) S2 n2
  | .tup xs => ks S1 n1 fun ds S2 n2 => Q (xs ++ ds) S2 n2
  | _ => False
theorem da_nil : DA X [] tNil kNil := ⟨pa_nil, fun W F n S σ H Q R hK A q fin => fin [] H F n S [] .refl A .nil q⟩
theorem da_cons (h : DE X e t k) (hs : DA X es ts ks) (hst : starEach (e :: es) X.env = (false, eval e X.env) :: starEach es X.env := by rfl) : DA X (e :: es) (tCons t ts) (kCons k ks) := by
  refine ⟨pa_cons h.pe hs.pe hst, fun W F n S σ H Q R hK A q fin => ?_⟩
  refine h.ok W F n S σ H _ _ hK A q fun v H1 F1 n1 S1 d g1 A1 r q1 => ?_
  refine hs.ok W F1 n1 S1 σ H1 _ _ hK A1 q1 fun vs H2 F2 n2 S2 ds g2 A2 r2 q2 => ?_
  exact fin _ H2 F2 n2 S2 _ (g1.trans g2) A2 (.cons (Rep.mono g2.f r) r2) q2
theorem da_star {p : Pos} (h : DB X e t k) (hs : DA X es ts ks) (hst : starEach (.Starred e p :: es) X.env = (true, eval e X.env) :: starEach es X.env := by rfl) : DA X (.Starred e p :: es) (StX.tStar X.K t ts) (kStar k ks) := by
  refine ⟨StX.pa_star h.pe hs.pe hst, fun W F n S σ H Q R hK A q fin => ?_⟩
  refine h.ok W F n S σ H _ _ hK A q fun v H1 F1 n1 S1 d g1 A1 r q1 => ?_
  cases d with
  | lst xs =>
    obtain ⟨p, vs, rfl, h1, h2⟩ := r.lst A1.w.sub
    refine ⟨p, vs, rfl, .inr (SqL.of h1), ?_⟩
    refine hs.ok W F1 n1 S1 σ H1 _ _ hK A1 q1 fun vs H2 F2 n2 S2 ds g2 A2 r2 q2 => ?_
    exact fin _ H2 F2 n2 S2 _ (g1.trans g2) A2 (Reps.append (Reps.mono g2.f h2) r2) q2
  | tup xs =>
    obtain ⟨p, vs, rfl, h1, _, h2⟩ := r.tup A1.w.sub
    refine ⟨p, vs, rfl, .inl (hK ▸ h1), ?_⟩
    refine hs.ok W F1 n1 S1 σ H1 _ _ hK A1 q1 fun vs H2 F2 n2 S2 ds g2 A2 r2 q2 => ?_
    exact fin _ H2 F2 n2 S2 _ (g1.trans g2) A2 (Reps.append (Reps.mono g2.f h2) r2) q2
  | _ => exact q1.elim
theorem big_ok {n : Nat} (h : n ≤ 1000000) : n ≤ sizeLine := Nat.le_trans h (by decide)
theorem big_lt {n : Nat} (h : n ≤ 1000000) : n < sizeLine := Nat.lt_of_le_of_lt h (by decide)
def kTup (ks : KA) : KE := fun S n Q => ks S n fun ds S1 n1 => ds.length ≤ 1000000 ∧ Q (.tup ds) S1 n1
def kLst (ks : KA) : KE := fun S n Q => ks S n fun ds S1 n1 => ds.length ≤ 1000000 ∧ Q (.lst ds) S1 n1
theorem new_tup {W : Wd} {F H : Hp} {n : Nat} (w : Wok W F H n) {p : Addr} (hp : H p = none) {vs : List V} {ds : List D} (r : Reps W.K W.pa F vs ds) :
    New W F H (upd F p (.tup vs)) (upd H p (.tup vs)) ∧ Rep W.K W.pa (upd F p (.tup vs)) (.ref p) (.tup ds) :=
  ⟨New.one w hp _, .tup (SqT.of upd_same) (Reps.mono (same_new (w.fresh hp).1) r)⟩
theorem new_lst {W : Wd} {F H : Hp} {n : Nat} (w : Wok W F H n) {p : Addr} (hp : H p = none) {vs : List V} {ds : List D} (r : Reps W.K W.pa F vs ds) :
    New W F H (upd F p (.lst vs)) (upd H p (.lst vs)) ∧ Rep W.K W.pa (upd F p (.lst vs)) (.ref p) (.lst ds) :=
  ⟨New.one w hp _, .lst upd_same (Reps.mono (same_new (w.fresh hp).1) r)⟩
theorem de_tup {x1 : Nat} (h : DA X es ts ks) : DE X (.Tuple es x1 pos) (tTup ts) (kTup ks) := by
  refine ⟨pe_tup h.pe, fun W F n S σ H Q R hK A q fin => ?_⟩
  refine h.ok W F n S σ H _ _ hK A q fun vs H1 F1 n1 S1 ds g1 A1 r q1 => ?_
  refine ⟨by rw [r.length]; exact big_ok q1.1, fun p hp => ?_⟩
  obtain ⟨g, r'⟩ := new_tup A1.w hp r
  exact fin _ _ _ n1 S1 _ (g1.trans g.grow) (A1.new g) r' q1.2
theorem de_lst (h : DA X es ts ks) : DE X (.List es pos) (tLst ts) (kLst ks) := by
  refine ⟨pe_lst h.pe, fun W F n S σ H Q R hK A q fin => ?_⟩
  refine h.ok W F n S σ H _ _ hK A q fun vs H1 F1 n1 S1 ds g1 A1 r q1 => ?_
  refine ⟨by rw [r.length]; exact big_ok q1.1, fun p hp => ?_⟩
  obtain ⟨g, r'⟩ := new_lst A1.w hp r
  exact fin _ _ _ n1 S1 _ (g1.trans g.grow) (A1.new g) r' q1.2
end
end
end DL
namespace DL
open PySem PySem.Spec PyProof.Rows L2
theorem tup_once (p0 : Addr) (its : Array Value) (dd : Option Addr) (nn : Nat) (ss : Array (Option Value)) (tk0 : Tok) :
    Meets (Builtin.«tuple.__mul__» ⟨[.ref p0, .int 1 tk0], []⟩) (fun _ R s => s.heap.get? p0 = some { cls := .type "tuple", dict := dd, data := .seq its nn, slots := ss } ∧ R (.ok (.ret (Value.ref p0))) s) :=
  .of_wp fun prog w A R s h => by
    obtain ⟨h1, g1, d1, t1, o1⟩ := s
    obtain ⟨hl, h⟩ := h
    have f1 := AutoSeq1.idx_int
    wp_walk using wpAny_loadPart' hl
    exact ⟨_, rfl, h⟩
/-- tuple * 1 is the tuple itself -/
def rOnce (K : PySem.W.Frag) : R2 := fun x y H Q => ∃ l xs, x = .ref l ∧ y = .int 1 ∧ SqT K H l xs ∧ Q (.ref l) H
theorem op_once {X : Cx} : OpR X (binaryOp .Mult) (rOnce X.K) := by
  intro pins s σ H x y v u Q I rx ry h
  obtain ⟨l, xs, rfl, rfl, hT, q⟩ := h
  cases rx
  obtain ⟨t, rfl⟩ := ry
  obtain ⟨its, r, ⟨⟨cls, dd, data, sl⟩, ho, hc, n, hd⟩, _⟩ := I.tuple hT
  simp only at hc hd
  subst hc hd
  refine wpAny_binaryOp_repeat_ref (T := "tuple") (U := "int") (by decide) ⟨_, ho, rfl⟩ (fun s' => typeIs_int s' 1 t) noFill_tuple_mul F.fills_int_mul F.slot_int_rmul repeat_tuple F.slot_int_index.lookup
    (call_meets F.slot_int_rmul (typeIs_int s 1 t) F.entry_int_rmul (F.args_int_rmul_2 _ _) (int_rmul_tuple 1 t l its.toArray n dd sl)
      ⟨ho, rfl, ⟨_, ho, rfl⟩, call_meets F.slot_tuple_mul ⟨_, ho, rfl⟩ F.entry_tuple_mul (F.args_tuple_mul_2 _ _) (tup_once l its.toArray dd n sl t) ⟨ho, ?_⟩⟩)
  exact ⟨.ref l, H, I, rfl, q⟩
end DL
namespace DL
open PySem PySem.Spec PyProof.Rows L2
/-! ### tuple * 0 -/
theorem tup_none (p0 : Addr) (its : Array Value) (ne : its.isEmpty = false) (dd : Option Addr) (nn : Nat) (ss : Array (Option Value)) (tk0 : Tok) :
    Meets (Builtin.«tuple.__mul__» ⟨[.ref p0, .int 0 tk0], []⟩) (fun _ R s => s.heap.get? p0 = some { cls := .type "tuple", dict := dd, data := .seq its nn, slots := ss } ∧
      R (.ok (.ret (Value.ref s.heap.objs.size))) { s with heap := s.heap.push { cls := Value.type "tuple", data := Data.seq #[] }, toks := s.toks }) :=
  .of_wp fun prog w A R s h => by
    obtain ⟨h1, g1, d1, t1, o1⟩ := s
    obtain ⟨hl, h⟩ := h
    have f1 := AutoSeq1.idx_int
    wp_walk using wpAny_loadPart' hl
    exact ⟨_, rfl, h⟩
def rNoneT (K : PySem.W.Frag) : R2 := fun x y H Q => ∃ l xs, x = .ref l ∧ y = .int 0 ∧ SqT K H l xs ∧ xs ≠ [] ∧ ∀ p, H p = none → Q (.ref p) (upd H p (.tup []))
theorem op_noneT {X : Cx} : OpR X (binaryOp .Mult) (rNoneT X.K) := by
  intro pins s σ H x y v u Q I rx ry h
  obtain ⟨l, xs, rfl, rfl, hT, hne, q⟩ := h
  cases rx
  obtain ⟨t, rfl⟩ := ry
  obtain ⟨its, r, ⟨⟨cls, dd, data, sl⟩, ho, hc, n, hd⟩, _⟩ := I.tuple hT
  simp only at hc hd
  subst hc hd
  have he : its.toArray.isEmpty = false := by
    cases its with
    | nil =>
      cases r
      exact absurd rfl hne
    | cons a b => rfl
  refine wpAny_binaryOp_repeat_ref (T := "tuple") (U := "int") (by decide) ⟨_, ho, rfl⟩ (fun s' => typeIs_int s' 0 t) noFill_tuple_mul F.fills_int_mul F.slot_int_rmul repeat_tuple F.slot_int_index.lookup
    (call_meets F.slot_int_rmul (typeIs_int s 0 t) F.entry_int_rmul (F.args_int_rmul_2 _ _) (int_rmul_tuple 0 t l its.toArray n dd sl)
      ⟨ho, rfl, ⟨_, ho, rfl⟩, call_meets F.slot_tuple_mul ⟨_, ho, rfl⟩ F.entry_tuple_mul (F.args_tuple_mul_2 _ _) (tup_none l its.toArray he dd n sl t) ⟨ho, ?_⟩⟩)
  exact ⟨.ref s.heap.objs.size, _, I.laid (t' := s.toks) (o := .tup []) (fun b ob q => Heap.get?_push_of_some _ q) (Nat.le_refl _) ⟨Nat.zero_le _, [], .nil, IsTup.new _ _⟩, rfl, q _ (I.hok.fresh (Nat.le_refl _))⟩
end DL
namespace DL
open PySem PySem.Spec PyProof.Rows L2
section
variable {X : Cx}
/-! ### the operators -/
def dAdd : D2 := fun a b Q => match a, b with
  | .int i, .int j => Q (.int (i + j))
  | .str x, .str y => x.length + y.length ≤ 1000000 ∧ Q (.str (x ++ y))
  | .lst x, .lst y => x.length + y.length ≤ 1000000 ∧ Q (.lst (x ++ y))
  | .tup x, .tup y => x.length + y.length ≤ 1000000 ∧ Q (.tup (x ++ y))
  | _, _ => False
def rAddA (K : PySem.W.Frag) : R2 := fun x y H Q => (rI0 fun i j => .int (i + j)) x y H Q ∨ (∃ i j, x = .str i ∧ y = .str j ∧ i.length + j.length ≤ sizeLine ∧ Q (.str (i ++ j)) H) ∨ rCat x y H Q ∨ rCatA K x y H Q
theorem o_add : OpR X (binaryOp .Add) (rAddA X.K) := op_add.or (op_add_str.or (op_cat.or op_catA))
theorem d_add : DOp X (rAddA X.K) dAdd := by
  intro W F H n x y a b Q R hK w ra rb q fin
  cases a <;> cases b <;> try exact False.elim q
  case int.int i j => exact .inl ⟨i, j, ra.int, rb.int, fin _ F H _ (New.refl w.sub) (.int _) q⟩
  case str.str i j => exact .inr (.inl ⟨i, j, ra.str, rb.str, big_ok q.1, fin _ F H _ (New.refl w.sub) (.str _) q.2⟩)
  case lst.lst xs ys =>
    obtain ⟨p, vs, rfl, h1, h2⟩ := ra.lst w.sub
    obtain ⟨p', vs', rfl, h1', h2'⟩ := rb.lst w.sub
    refine .inr (.inr (.inl ⟨p, p', vs, vs', rfl, rfl, h1, h1', by rw [h2.length, h2'.length]; exact big_ok q.1, fun c hc => ?_⟩))
    obtain ⟨g, r⟩ := new_lst w hc (Reps.append h2 h2')
    exact fin _ _ _ _ g r q.2
  case tup.tup xs ys =>
    obtain ⟨p, vs, rfl, h1, h0, h2⟩ := ra.tup w.sub
    obtain ⟨p', vs', rfl, h1', h0', h2'⟩ := rb.tup w.sub
    refine .inr (.inr (.inr ⟨p, p', vs, vs', rfl, rfl, hK ▸ h1, hK ▸ h1', by rw [h2.length, h2'.length]; exact big_ok q.1, fun e => ?_, fun _ e => ?_, fun _ _ c hc => ?_⟩))
    · subst e
      cases h2
      exact fin _ F H _ (New.refl w.sub) (.tup h0' h2') q.2
    · subst e
      cases h2'
      have q2 := q.2
      rw [List.append_nil] at q2
      exact fin _ F H _ (New.refl w.sub) (.tup h0 h2) q2
    · obtain ⟨g, r⟩ := new_tup w hc (Reps.append h2 h2')
      exact fin _ _ _ _ g r q.2
def dInt (f : Int → Int → Int) (C : Int → Int → Prop) : D2 := fun a b Q => match a, b with
  | .int i, .int j => C i j ∧ Q (.int (f i j))
  | _, _ => False
theorem d_int {C : Int → Int → Prop} {f : Int → Int → Int} : DOp X (rI C fun i j => .int (f i j)) (dInt f C) := by
  intro W F H n x y a b Q R hK w ra rb q fin
  cases a <;> cases b <;> try exact False.elim q
  case int.int i j => exact ⟨i, j, ra.int, rb.int, q.1, fin _ F H _ (New.refl w.sub) (.int _) q.2⟩
theorem d_int0 {f : Int → Int → Int} : DOp X (rI0 fun i j => .int (f i j)) (dInt f fun _ _ => True) := by
  intro W F H n x y a b Q R hK w ra rb q fin
  cases a <;> cases b <;> try exact False.elim q
  case int.int i j => exact ⟨i, j, ra.int, rb.int, fin _ F H _ (New.refl w.sub) (.int _) q.2⟩
def dSub : D2 := dInt (fun i j => i - j) fun _ _ => True
theorem d_sub : DOp X (rI0 fun i j => .int (i - j)) dSub := d_int0
def dMod : D2 := dInt (fun i j => i % j) fun _ j => 0 < j
theorem d_mod : DOp X (rI (fun _ j => 0 < j) fun i j => .int (i % j)) dMod := d_int
def dDiv : D2 := dInt (fun i j => i / j) CDiv
theorem d_div : DOp X (rI CDiv fun i j => .int (i / j)) dDiv := d_int
def dPow : D2 := dInt (fun i j => i ^ j.toNat) CPow
theorem d_pow : DOp X (rI CPow fun i j => .int (i ^ j.toNat)) dPow := d_int
/-- tuple * 1, 0 and less -/
def dMul : D2 := fun a b Q => match a, b with
  | .int i, .int j => CMul i j ∧ Q (.int (i * j))
  | .lst x, .int j => j ≤ 1000000 ∧ -1000000 ≤ j ∧ x.length * j.toNat ≤ 1000000 ∧ Q (.lst (List.replicate j.toNat x).flatten)
  | .tup x, .int j => (j = 1 ∨ (2 ≤ j ∧ j ≤ 1000 ∧ x.length ≤ 1000 ∧ x ≠ []) ∨ (j = 0 ∧ x ≠ [])) ∧ Q (.tup (List.replicate j.toNat x).flatten)
  | _, _ => False
def rMulA (K : PySem.W.Frag) : R2 := fun x y H Q => rI CMul (fun i j => .int (i * j)) x y H Q ∨ rRep x y H Q ∨ rRepT K x y H Q ∨ rOnce K x y H Q ∨ rNoneT K x y H Q
theorem o_mul : OpR X (binaryOp .Mult) (rMulA X.K) := op_mul.or (op_rep.or (op_repT.or (op_once.or op_noneT)))
theorem d_mul : DOp X (rMulA X.K) dMul := by
  intro W F H n x y a b Q R hK w ra rb q fin
  cases a <;> cases b <;> try exact False.elim q
  case int.int i j => exact .inl ⟨i, j, ra.int, rb.int, q.1, fin _ F H _ (New.refl w.sub) (.int _) q.2⟩
  case lst.int xs j =>
    obtain ⟨p, vs, rfl, h1, h2⟩ := ra.lst w.sub
    obtain ⟨q1, q2, q3, q4⟩ := q
    refine .inr (.inl ⟨p, j, vs, rfl, rb.int, h1, by omega, by omega, by rw [h2.length]; exact big_ok q3, fun c hc => ?_⟩)
    obtain ⟨g, r⟩ := new_lst w hc (Reps.rep j.toNat h2)
    exact fin _ _ _ _ g r q4
  case tup.int xs j =>
    obtain ⟨p, vs, rfl, h1, h0, h2⟩ := ra.tup w.sub
    obtain ⟨q1 | ⟨q1, q2, q3, q4⟩ | ⟨q1, q2⟩, q5⟩ := q
    · subst q1
      refine .inr (.inr (.inr (.inl ⟨p, vs, rfl, rb.int, hK ▸ h1, fin _ F H _ (New.refl w.sub) (.tup h0 h2) ?_⟩)))
      have e : (List.replicate (1 : Int).toNat xs).flatten = xs := by simp
      rw [e] at q5; exact q5
    · refine .inr (.inr (.inl ⟨p, j, vs, rfl, rb.int, hK ▸ h1, fun e => ?_, q1, q2, by rw [h2.length]; exact q3, fun c hc => ?_⟩))
      · subst e; cases h2; exact q4 rfl
      · obtain ⟨g, r⟩ := new_tup w hc (Reps.rep j.toNat h2)
        exact fin _ _ _ _ g r q5
    · subst q1
      refine .inr (.inr (.inr (.inr ⟨p, vs, rfl, rb.int, hK ▸ h1, fun e => ?_, fun c hc => ?_⟩)))
      · subst e; cases h2; exact q2 rfl
      · obtain ⟨g, r⟩ := new_tup w hc (Reps.nil (K := W.K) (pa := W.pa) (F := F))
        exact fin _ _ _ _ g r q5
def dCmp (f : Int → Int → Bool) : D2 := fun a b Q => match a, b with
  | .int i, .int j => Q (.bl (f i j))
  | _, _ => False
theorem d_cmp {f : Int → Int → Bool} : DOp X (rI0 fun i j => .bl (f i j)) (dCmp f) := by
  intro W F H n x y a b Q R hK w ra rb q fin
  cases a <;> cases b <;> try exact False.elim q
  case int.int i j => exact ⟨i, j, ra.int, rb.int, fin _ F H _ (New.refl w.sub) (.bl _) q⟩
abbrev dLt : D2 := dCmp fun i j => decide (i < j)
abbrev dLe : D2 := dCmp fun i j => decide (i ≤ j)
abbrev dGt : D2 := dCmp fun i j => decide (j < i)
abbrev dGe : D2 := dCmp fun i j => decide (j ≤ i)
/-- is None -/
def D.isN : D → Bool
  | .non => true
  | _ => false
def dIsN : D2 := fun a b Q => match b with
  | .non => Q (.bl a.isN)
  | _ => False
def dNotN : D2 := fun a b Q => match b with
  | .non => Q (.bl (!a.isN))
  | _ => False
theorem RB.nonb {W : Wd} {F H : Hp} {x : V} {a : D} (r : RB W F H x a) : decide (x = V.non) = a.isN := by
  rcases r with h | ⟨p, vs, es, e1, e2, e3, e4, e5⟩
  · cases h <;> rfl
  · subst e1 e2; rfl
theorem d_isN : DOp X (fun x y H Q => y = .non ∧ Q (.bl (decide (x = .non))) H) dIsN := by
  intro W F H n x y a b Q R hK w ra rb q fin
  cases b <;> try exact False.elim q
  refine ⟨rb.non, fin _ F H _ (New.refl w.sub) (.bl _) ?_⟩
  rw [ra.nonb]; exact q
theorem d_notN : DOp X (fun x y H Q => y = .non ∧ Q (.bl (!decide (x = .non))) H) dNotN := by
  intro W F H n x y a b Q R hK w ra rb q fin
  cases b <;> try exact False.elim q
  refine ⟨rb.non, fin _ F H _ (New.refl w.sub) (.bl _) ?_⟩
  rw [ra.nonb]; exact q
/-! ### == of plain data -/
mutual
def D.py : D → PyData
  | .non => .none
  | .bl b => .bool b
  | .int i => .int i
  | .str x => .str x
  | .tup ds => .tuple (D.pys ds)
  | .lst ds => .list (D.pys ds)
  | _ => .none
def D.pys : List D → List PyData
  | [] => []
  | d :: ds => D.py d :: D.pys ds
end
/-- plain to the depth k -/
def D.pl : Nat → D → Prop
  | _, .non => True
  | _, .bl _ => True
  | _, .int _ => True
  | _, .str x => PyData.strOk x = true
  | k + 1, .tup ds => ∀ d ∈ ds, D.pl k d
  | k + 1, .lst ds => ∀ d ∈ ds, D.pl k d
  | _, _ => False
theorem pl_dep : ∀ (k : Nat) (d : D), D.pl k d → d.py.canLay0 = true ∧ d.py.depth ≤ k := by
  intro k
  induction k with
  | zero =>
    intro d h
    cases d <;> first | exact False.elim h | (simp [D.py, PyData.canLay0, PyData.depth]; done) | (simp [D.py, PyData.canLay0, PyData.depth]; exact h)
  | succ k ih =>
    have all : ∀ ds : List D, (∀ d ∈ ds, D.pl k d) → PyData.canLayAll0 (D.pys ds) = true ∧ PyData.depthAll (D.pys ds) ≤ k := by
      intro ds
      induction ds with
      | nil => intro _; simp [D.pys, PyData.canLayAll0, PyData.depthAll]
      | cons d ds ih2 =>
        intro h
        have h1 := ih d (h d (List.mem_cons_self ..))
        have h2 := ih2 fun e he => h e (List.mem_cons_of_mem _ he)
        simp only [D.pys, PyData.canLayAll0, PyData.depthAll, h1.1, h2.1, Bool.and_self, true_and]
        omega
    intro d h
    cases d with
    | tup ds => obtain ⟨h1, h2⟩ := all ds h; simp only [D.py, PyData.canLay0, PyData.depth]; exact ⟨h1, by omega⟩
    | lst ds => obtain ⟨h1, h2⟩ := all ds h; simp only [D.py, PyData.canLay0, PyData.depth]; exact ⟨h1, by omega⟩
    | str x => simp [D.py, PyData.canLay0, PyData.depth]; exact h
    | non => simp [D.py, PyData.canLay0, PyData.depth]
    | bl _ => simp [D.py, PyData.canLay0, PyData.depth]
    | int _ => simp [D.py, PyData.canLay0, PyData.depth]
    | _ => exact False.elim h
theorem pl_shaped {k : Nat} {d : D} (hk : k ≤ 64) (h : D.pl k d) : SeqAt.shaped d.py = true := by
  obtain ⟨h1, h2⟩ := pl_dep k d h
  unfold SeqAt.shaped
  rw [h1, Bool.true_and]
  exact decide_eq_true (by omega)
section
variable {K : PySem.W.Frag} {pa : Option Pn} {F H : Hp}
theorem rep_dp (w : Same F H) : ∀ (k : Nat) (v : V) (d : D), D.pl k d → Rep K pa F v d → Dp K H v d.py := by
  intro k
  induction k with
  | zero =>
    intro v d h r
    cases d <;> first | exact False.elim h | (cases r; simp only [D.py]; constructor)
  | succ k ih =>
    have all : ∀ (ds : List D) (vs : List V), (∀ d ∈ ds, D.pl k d) → Reps K pa F vs ds → DpAll K H vs (D.pys ds) := by
      intro ds
      induction ds with
      | nil => intro vs _ r; cases r; exact .nil
      | cons d ds ih2 =>
        intro vs h r
        cases r with
        | cons r1 r2 => exact .cons (ih _ d (h d (List.mem_cons_self ..)) r1) (ih2 _ (fun e he => h e (List.mem_cons_of_mem _ he)) r2)
    intro v d h r
    cases d with
    | tup ds => cases r with | tup q r => simp only [D.py]; exact .tup (same_sqT w q) (all ds _ h r)
    | lst ds => cases r with | lst q r => simp only [D.py]; exact .lst (SqL.of (w _ _ q)) (all ds _ h r)
    | str x => cases r; simp only [D.py]; constructor
    | non => cases r; simp only [D.py]; constructor
    | bl _ => cases r; simp only [D.py]; constructor
    | int _ => cases r; simp only [D.py]; constructor
    | _ => exact False.elim h
theorem reps_dp (w : Same F H) {k : Nat} : ∀ (ds : List D) (vs : List V), (∀ d ∈ ds, D.pl k d) → Reps K pa F vs ds → DpAll K H vs (D.pys ds) := by
  intro ds
  induction ds with
  | nil => intro vs _ r; cases r; exact .nil
  | cons d ds ih2 =>
    intro vs h r
    cases r with
    | cons r1 r2 => exact .cons (rep_dp w k _ d (h d (List.mem_cons_self ..)) r1) (ih2 _ (fun e he => h e (List.mem_cons_of_mem _ he)) r2)
theorem rb_dp {W : Wd} (w : Same F H) {k : Nat} {v : V} {d : D} (h : D.pl k d) (r : RB W F H v d) : Dp W.K H v d.py := by
  rcases r with r | ⟨p, vs, ds, rfl, rfl, _, h4, h5⟩
  · exact rep_dp w k v d h r
  · cases k with
    | zero => exact False.elim h
    | succ k => simp only [D.py]; exact .lst (SqL.of h4) (reps_dp w ds vs h h5)
end
def D.eqb (a b : D) : Bool := PyData.eqv a.py b.py
def dEq : D2 := fun a b Q => D.pl 8 a ∧ D.pl 8 b ∧ Q (.bl (D.eqb a b))
def dNe : D2 := fun a b Q => D.pl 8 a ∧ D.pl 8 b ∧ Q (.bl (!D.eqb a b))
theorem d_eq : DOp X (rEqD X.K) dEq := by
  intro W F H n x y a b Q R hK w ra rb q fin
  exact ⟨_, _, hK ▸ rb_dp w.sub q.1 ra, hK ▸ rb_dp w.sub q.2.1 rb, pl_shaped (by decide) q.1, pl_shaped (by decide) q.2.1, fin _ F H _ (New.refl w.sub) (.bl _) q.2.2⟩
theorem d_ne : DOp X (rNeD X.K) dNe := by
  intro W F H n x y a b Q R hK w ra rb q fin
  exact ⟨_, _, hK ▸ rb_dp w.sub q.1 ra, hK ▸ rb_dp w.sub q.2.1 rb, pl_shaped (by decide) q.1, pl_shaped (by decide) q.2.1, fin _ F H _ (New.refl w.sub) (.bl _) q.2.2⟩
/-- x in a list, in a tuple -/
def rInT (K : PySem.W.Frag) : R2 := fun x y H Q => ∃ d ds, Dp K H x d ∧ Dp K H y (.tuple ds) ∧ SeqAt.shaped d = true ∧ SeqAt.shaped (.tuple ds) = true ∧ Q (.bl (ds.any fun z => PyData.eqv z d)) H
def rNotInT (K : PySem.W.Frag) : R2 := fun x y H Q => ∃ d ds, Dp K H x d ∧ Dp K H y (.tuple ds) ∧ SeqAt.shaped d = true ∧ SeqAt.shaped (.tuple ds) = true ∧ Q (.bl (!ds.any fun z => PyData.eqv z d)) H
theorem o_inT (hu : X.A.units + 65 < cLine) : OpR X (compareOp .In) (rInT X.K) := by
  rintro pins s σ H x y v u Q I rx ry ⟨d, ds, hd, he, sd, se, q⟩
  obtain ⟨as, r1⟩ := Dp.reads I d x v hd rx
  obtain ⟨bs, r2⟩ := Dp.reads I (.tuple ds) y u he ry
  exact SeqAt.in_tuple_reads r2 r1 (SeqAt.canLay_of_shaped se) (SeqAt.canLay_of_shaped sd) (room_in_shaped sd hu) ⟨.bl _, H, I, rfl, q⟩
theorem o_notInT (hu : X.A.units + 65 < cLine) : OpR X (compareOp .NotIn) (rNotInT X.K) := by
  rintro pins s σ H x y v u Q I rx ry ⟨d, ds, hd, he, sd, se, q⟩
  obtain ⟨as, r1⟩ := Dp.reads I d x v hd rx
  obtain ⟨bs, r2⟩ := Dp.reads I (.tuple ds) y u he ry
  exact SeqAt.notIn_tuple_reads r2 r1 (SeqAt.canLay_of_shaped se) (SeqAt.canLay_of_shaped sd) (room_in_shaped sd hu) ⟨.bl _, H, I, rfl, q⟩
def rInA (K : PySem.W.Frag) : R2 := fun x y H Q => rInD K x y H Q ∨ rIn K false x y H Q ∨ rInT K x y H Q
def rNotInA (K : PySem.W.Frag) : R2 := fun x y H Q => rNotInD K x y H Q ∨ rIn K true x y H Q ∨ rNotInT K x y H Q
theorem o_in (hu : X.A.units + 65 < cLine) : OpR X (compareOp .In) (rInA X.K) := (op_inD hu).or (op_in_seq.or (o_inT hu))
theorem o_notIn (hu : X.A.units + 65 < cLine) : OpR X (compareOp .NotIn) (rNotInA X.K) := (op_notInD hu).or (op_notIn_seq.or (o_notInT hu))
/-- data that are compared at once -/
def D.flat : D → Bool
  | .non => true
  | .bl _ => true
  | .int _ => true
  | .str _ => true
  | _ => false
def D.v : D → V
  | .non => .non
  | .bl b => .bl b
  | .int i => .int i
  | .str x => .str x
  | _ => .non
theorem flat_v {W : Wd} {F H : Hp} {x : V} {a : D} (r : RB W F H x a) (h : a.flat = true) : x = a.v ∧ flatV x = true := by
  rcases r with h' | ⟨p, vs, es, e1, e2, e3, e4, e5⟩
  · cases h' <;> first | exact ⟨rfl, rfl⟩ | cases h
  · subst e2; cases h
theorem flats_v {K : PySem.W.Frag} {pa : Option Pn} {F : Hp} : ∀ {vs : List V} {ds : List D}, Reps K pa F vs ds → ds.all D.flat = true → vs = ds.map D.v ∧ vs.all flatV = true
  | _, _, .nil, _ => ⟨rfl, rfl⟩
  | _, _, .cons h r, e => by
    rw [List.all_cons, Bool.and_eq_true] at e
    obtain ⟨e1, e2⟩ := flats_v r e.2
    obtain ⟨e3, e4⟩ := flat_v (W := ⟨K, pa, F, F⟩) (H := F) (.inl h) e.1
    exact ⟨by rw [e1, e3, List.map_cons], by rw [List.all_cons, e4, e2]; rfl⟩
def D.isIn (a : D) (ds : List D) : Bool := ds.any fun z => D.eqb z a
def dIn : D2 := fun a b Q => match b with
  | .lst ds => D.pl 8 a ∧ D.pl 8 (.lst ds) ∧ Q (.bl (D.isIn a ds))
  | .tup ds => if (a.flat && ds.all D.flat) = true then Q (.bl (inV a.v (ds.map D.v))) else D.pl 8 a ∧ D.pl 8 (.tup ds) ∧ Q (.bl (D.isIn a ds))
  | _ => False
def dNotIn : D2 := fun a b Q => match b with
  | .lst ds => D.pl 8 a ∧ D.pl 8 (.lst ds) ∧ Q (.bl (!D.isIn a ds))
  | .tup ds => if (a.flat && ds.all D.flat) = true then Q (.bl (!inV a.v (ds.map D.v))) else D.pl 8 a ∧ D.pl 8 (.tup ds) ∧ Q (.bl (!D.isIn a ds))
  | _ => False
theorem any_pys (a : D) : ∀ ds : List D, ((D.pys ds).any fun z => PyData.eqv z a.py) = D.isIn a ds
  | [] => rfl
  | d :: ds => by
    have h := any_pys a ds
    unfold D.isIn at h ⊢
    simp only [D.pys, List.any_cons, h]
    rfl
theorem d_in : DOp X (rInA X.K) dIn := by
  intro W F H n x y a b Q R hK w ra rb q fin
  cases b <;> try exact False.elim q
  case lst ds =>
    have hb : Dp X.K H y (D.lst ds).py := hK ▸ rb_dp w.sub q.2.1 rb
    have sb : SeqAt.shaped (D.lst ds).py = true := pl_shaped (by decide) q.2.1
    simp only [D.py] at hb sb
    refine .inl ⟨_, _, hK ▸ rb_dp w.sub q.1 ra, hb, pl_shaped (by decide) q.1, sb, fin _ F H _ (New.refl w.sub) (.bl _) ?_⟩
    rw [any_pys]; exact q.2.2
  case tup ds =>
    have q : if (a.flat && ds.all D.flat) = true then Q (.bl (inV a.v (ds.map D.v))) else D.pl 8 a ∧ D.pl 8 (.tup ds) ∧ Q (.bl (D.isIn a ds)) := q
    by_cases z : (a.flat && ds.all D.flat) = true
    · rw [if_pos z] at q
      rw [Bool.and_eq_true] at z
      obtain ⟨p, vs, rfl, h1, _, h2⟩ := rb.tup w.sub
      obtain ⟨e1, e2⟩ := flat_v ra z.1
      obtain ⟨e3, e4⟩ := flats_v h2 z.2
      refine .inr (.inl ⟨p, vs, rfl, .inr (hK ▸ h1), e2, e4, fin _ F H _ (New.refl w.sub) (.bl _) ?_⟩)
      rw [e1, e3]; exact q
    · rw [if_neg z] at q
      have hb : Dp X.K H y (D.tup ds).py := hK ▸ rb_dp w.sub q.2.1 rb
      have sb : SeqAt.shaped (D.tup ds).py = true := pl_shaped (by decide) q.2.1
      simp only [D.py] at hb sb
      refine .inr (.inr ⟨_, _, hK ▸ rb_dp w.sub q.1 ra, hb, pl_shaped (by decide) q.1, sb, fin _ F H _ (New.refl w.sub) (.bl _) ?_⟩)
      rw [any_pys]; exact q.2.2
theorem d_notIn : DOp X (rNotInA X.K) dNotIn := by
  intro W F H n x y a b Q R hK w ra rb q fin
  cases b <;> try exact False.elim q
  case lst ds =>
    have hb : Dp X.K H y (D.lst ds).py := hK ▸ rb_dp w.sub q.2.1 rb
    have sb : SeqAt.shaped (D.lst ds).py = true := pl_shaped (by decide) q.2.1
    simp only [D.py] at hb sb
    refine .inl ⟨_, _, hK ▸ rb_dp w.sub q.1 ra, hb, pl_shaped (by decide) q.1, sb, fin _ F H _ (New.refl w.sub) (.bl _) ?_⟩
    rw [any_pys]; exact q.2.2
  case tup ds =>
    have q : if (a.flat && ds.all D.flat) = true then Q (.bl (!inV a.v (ds.map D.v))) else D.pl 8 a ∧ D.pl 8 (.tup ds) ∧ Q (.bl (!D.isIn a ds)) := q
    by_cases z : (a.flat && ds.all D.flat) = true
    · rw [if_pos z] at q
      rw [Bool.and_eq_true] at z
      obtain ⟨p, vs, rfl, h1, _, h2⟩ := rb.tup w.sub
      obtain ⟨e1, e2⟩ := flat_v ra z.1
      obtain ⟨e3, e4⟩ := flats_v h2 z.2
      refine .inr (.inl ⟨p, vs, rfl, .inr (hK ▸ h1), e2, e4, fin _ F H _ (New.refl w.sub) (.bl _) ?_⟩)
      rw [e1, e3]; exact q
    · rw [if_neg z] at q
      have hb : Dp X.K H y (D.tup ds).py := hK ▸ rb_dp w.sub q.2.1 rb
      have sb : SeqAt.shaped (D.tup ds).py = true := pl_shaped (by decide) q.2.1
      simp only [D.py] at hb sb
      refine .inr (.inr ⟨_, _, hK ▸ rb_dp w.sub q.1 ra, hb, pl_shaped (by decide) q.1, sb, fin _ F H _ (New.refl w.sub) (.bl _) ?_⟩)
      rw [any_pys]; exact q.2.2
/-! ### subscripts, slices -/
def dIx : D2 := fun a b Q => match a, b with
  | .lst ds, .int i => match atI ds i with
    | some d => Q d
    | none => False
  | .tup ds, .int i => match atI ds i with
    | some d => Q d
    | none => False
  | .str z, .int i => z.length ≤ 1000000 ∧ match atI z.cps.toList i with
    | some c => Q (.str ⟨#[c]⟩)
    | none => False
  | _, _ => False
theorem reps_atI {K : PySem.W.Frag} {pa : Option Pn} {F : Hp} {vs : List V} {ds : List D} {i : Int} {d : D} (r : Reps K pa F vs ds) (h : atI ds i = some d) : ∃ v, atI vs i = some v ∧ Rep K pa F v d := by
  unfold atI at h ⊢
  rw [r.length]
  cases e : ixN ds.length i with
  | none => rw [e] at h; cases h
  | some j => rw [e] at h; exact r.getD h
theorem d_ix : DOp X (rIx X.K) dIx := by
  intro W F H n x y a b Q R hK w ra rb q fin
  cases a <;> cases b <;> try exact False.elim q
  case lst.int ds i =>
    obtain ⟨p, vs, rfl, h1, h2⟩ := ra.lst w.sub
    have q : (match atI ds i with | some d => Q d | none => False) := q
    cases e : atI ds i with
    | none => rw [e] at q; exact q.elim
    | some d =>
      rw [e] at q
      obtain ⟨v, hv, r⟩ := reps_atI h2 e
      exact .inl ⟨p, vs, i, v, rfl, rb.int, SqL.of h1, hv, fin _ F H _ (New.refl w.sub) r q⟩
  case tup.int ds i =>
    obtain ⟨p, vs, rfl, h1, _, h2⟩ := ra.tup w.sub
    have q : (match atI ds i with | some d => Q d | none => False) := q
    cases e : atI ds i with
    | none => rw [e] at q; exact q.elim
    | some d =>
      rw [e] at q
      obtain ⟨v, hv, r⟩ := reps_atI h2 e
      exact .inr (.inl ⟨p, vs, i, v, rfl, rb.int, hK ▸ h1, hv, fin _ F H _ (New.refl w.sub) r q⟩)
  case str.int z i =>
    obtain ⟨q1, q⟩ := q
    cases e : atI z.cps.toList i with
    | none => rw [e] at q; exact q.elim
    | some c =>
      rw [e] at q
      exact .inr (.inr ⟨z, i, c, ra.str, rb.int, big_ok q1, e, fin _ F H _ (New.refl w.sub) (.str _) q⟩)
theorem de_ix {a b : Expr} {ta tb : TE} {ka kb : KE} {pos : Pos} (ha : DB X a ta ka) (hb : DB X b tb kb) (hs : PlainIx b := by intro _ _; rfl) : DE X (.Subscript a b pos) (tOp (rIx X.K) ta tb) (kBin dIx ka kb) :=
  ⟨pe_ix ix_seq ha.pe hb.pe hs, bin_ok d_ix ha.ok hb.ok⟩
/-- a slice of a list of data -/
def cutD {α : Type} (xs : List α) (lo hi : Option Int) : List α := (xs.drop (HT.sIx xs.length 0 lo)).take (HT.sIx xs.length xs.length hi - HT.sIx xs.length 0 lo)
abbrev KO := List Sl → Nat → (Option Int → List Sl → Nat → Prop) → Prop
structure DO (X : Cx) (e : Option Expr) (t : TO) (k : KO) : Prop where
  pe : PO X e t
  ok : ∀ (W : Wd) (F : Hp) (n : Nat) (S : List Sl) (σ : St) (H : Hp) (Q : Option Int → List Sl → Nat → Prop) (R : Option Int → Hp → Prop), W.K = X.K → Abs W F n S σ H → k S n Q →
    (∀ o H' F' n' S', Grow W S σ F H F' H' S' → Abs W F' n' S' σ H' → Q o S' n' → R o H') → t σ H R
def kNoPart : KO := fun S n Q => Q none S n
def kPart (k : KE) : KO := fun S n Q => k S n fun d S1 n1 => match d with
  | .int i => Q (some i) S1 n1
  | _ => False
theorem do_none : DO X none tNoPart kNoPart := ⟨po_none, fun W F n S σ H Q R hK A q fin => fin none H F n S .refl A q⟩
theorem do_some {e : Expr} {t : TE} {k : KE} (h : DE X e t k) : DO X (some e) (tPart t) (kPart k) := by
  refine ⟨po_some h.pe, fun W F n S σ H Q R hK A q fin => ?_⟩
  refine h.ok W F n S σ H _ _ hK A q fun v H1 F1 n1 S1 d g A1 r q1 => ?_
  cases d <;> try exact False.elim q1
  case int i => cases r; exact ⟨i, rfl, fin _ H1 F1 n1 S1 g A1 q1⟩
def kSl (k : KE) (kl kh : KO) : KE := fun S n Q => k S n fun d S1 n1 => kl S1 n1 fun l S2 n2 => kh S2 n2 fun h S3 n3 => match d with
  | .lst ds => Q (.lst (cutD ds l h)) S3 n3
  | .tup ds => Q (.tup (cutD ds l h)) S3 n3
  | _ => False
def rSlBoth (K : PySem.W.Frag) : V → Option Int → Option Int → Hp → VK → Prop := fun x lo hi H Q => rSlL K x lo hi H Q ∨ rSlA K x lo hi H Q
theorem reps_cut {K : PySem.W.Frag} {pa : Option Pn} {F : Hp} {vs : List V} {ds : List D} (r : Reps K pa F vs ds) (lo hi : Option Int) : Reps K pa F (cutV vs lo hi) (cutD ds lo hi) := by
  unfold cutV cutD
  rw [r.length]
  exact Reps.take _ (Reps.drop _ r)
theorem de_slice {e : Expr} {lo hi : Option Expr} {t : TE} {tl th : TO} {k : KE} {kl kh : KO} {pos p2 : Pos} (he : DB X e t k) (hl : DO X lo tl kl) (hh : DO X hi th kh) : DE X (.Subscript e (.Slice lo hi none p2) pos) (tSl (rSlBoth X.K) t tl th) (kSl k kl kh) := by
  refine ⟨pe_slice (sl_list.or sl_tupA) he.pe hl.pe hh.pe, fun W F n S σ H Q R hK A q fin => ?_⟩
  refine he.ok W F n S σ H _ _ hK A q fun v H1 F1 n1 S1 d g1 A1 r1 q1 => ?_
  refine hl.ok W F1 n1 S1 σ H1 _ _ hK A1 q1 fun l H2 F2 n2 S2 g2 A2 q2 => ?_
  refine hh.ok W F2 n2 S2 σ H2 _ _ hK A2 q2 fun h H3 F3 n3 S3 g3 A3 q3 => ?_
  have r3 := (r1.grow g2).grow g3
  cases d <;> try exact False.elim q3
  case lst ds =>
    obtain ⟨p, vs, rfl, h1, h2⟩ := r3.lst A3.w.sub
    refine .inl ⟨p, vs, rfl, SqL.of h1, fun c hc => ?_⟩
    obtain ⟨g, r⟩ := new_lst A3.w hc (reps_cut h2 l h)
    exact fin _ _ _ n3 S3 _ (((g1.trans g2).trans g3).trans g.grow) (A3.new g) r q3
  case tup ds =>
    obtain ⟨p, vs, rfl, h1, h0, h2⟩ := r3.tup A3.w.sub
    refine .inr ⟨p, vs, rfl, hK ▸ h1, fun hw => ?_, fun _ c hc => ?_⟩
    · have e : cutD ds l h = ds := by
        unfold cutD
        rw [← h2.length, hw.1, hw.2, Nat.sub_zero, List.drop_zero, h2.length, List.take_length]
      have q3 : Q (.tup (cutD ds l h)) S3 n3 := q3
      rw [e] at q3
      exact fin _ H3 F3 n3 S3 _ ((g1.trans g2).trans g3) A3 (.tup h0 h2) q3
    · obtain ⟨g, r⟩ := new_tup A3.w hc (reps_cut h2 l h)
      exact fin _ _ _ n3 S3 _ (((g1.trans g2).trans g3).trans g.grow) (A3.new g) r q3
end
end DL
namespace DL
open PySem PySem.Spec PyProof.Rows L2
section
variable {X : Cx}
/-! ### built-ins by their names -/
inductive RBs (W : Wd) (F H : Hp) : List V → List D → Prop
  | nil : RBs W F H [] []
  | cons {v : V} {vs : List V} {d : D} {ds : List D} : RB W F H v d → RBs W F H vs ds → RBs W F H (v :: vs) (d :: ds)
structure DAb (X : Cx) (es : List Expr) (t : TA) (k : KA) : Prop where
  pe : PA X es t
  ok : ∀ (W : Wd) (F : Hp) (n : Nat) (S : List Sl) (σ : St) (H : Hp) (Q : List D → List Sl → Nat → Prop) (R : List V → Hp → Prop), W.K = X.K → Abs W F n S σ H → k S n Q →
    (∀ vs H' F' n' S' ds, Grow W S σ F H F' H' S' → Abs W F' n' S' σ H' → RBs W F' H' vs ds → Q ds S' n' → R vs H') → t σ H R
theorem dab_nil : DAb X [] tNil kNil := ⟨pa_nil, fun W F n S σ H Q R hK A q fin => fin [] H F n S [] .refl A .nil q⟩
theorem dab_cons {e : Expr} {es : List Expr} {t : TE} {ts : TA} {k : KE} {ks : KA} (h : DB X e t k) (hs : DAb X es ts ks) (hst : starEach (e :: es) X.env = (false, eval e X.env) :: starEach es X.env := by rfl) : DAb X (e :: es) (tCons t ts) (kCons k ks) := by
  refine ⟨pa_cons h.pe hs.pe hst, fun W F n S σ H Q R hK A q fin => ?_⟩
  refine h.ok W F n S σ H _ _ hK A q fun v H1 F1 n1 S1 d g1 A1 r q1 => ?_
  refine hs.ok W F1 n1 S1 σ H1 _ _ hK A1 q1 fun vs H2 F2 n2 S2 ds g2 A2 r2 q2 => ?_
  exact fin _ H2 F2 n2 S2 _ (g1.trans g2) A2 (.cons (r.grow g2) r2) q2
/-- a built-in by values -/
def DCall (X : Cx) (r : List V → Hp → VK → Prop) (op : List D → (D → Prop) → Prop) : Prop :=
  ∀ (W : Wd) (F H : Hp) (n : Nat) (vs : List V) (ds : List D) (Q : D → Prop) (R : VK), W.K = X.K → Wok W F H n → RBs W F H vs ds → op ds Q →
    (∀ v F' H' d, New W F H F' H' → Rep W.K W.pa F' v d → Q d → R v H') → r vs H R
def kCall (op : List D → (D → Prop) → Prop) (ks : KA) : KE := fun S n Q => ks S n fun ds S1 n1 => op ds fun d => Q d S1 n1
theorem de_of {r : List V → Hp → VK → Prop} {op : List D → (D → Prop) → Prop} {e : Expr} {es : List Expr} {t : TA} {ks : KA} (hd : DCall X r op) (h : DAb X es t ks) (hp : PA X es t → PE X e (tCB r t)) : DE X e (tCB r t) (kCall op ks) := by
  refine ⟨hp h.pe, fun W F n S σ H Q R hK A q fin => ?_⟩
  refine h.ok W F n S σ H _ _ hK A q fun vs H1 F1 n1 S1 ds g1 A1 r1 q1 => ?_
  refine hd W F1 H1 n1 vs ds _ _ hK A1.w r1 q1 fun v F3 H3 d g3 r3 q3 => ?_
  exact fin v H3 F3 n1 S1 d (g1.trans g3.grow) (A1.new g3) r3 q3
/-- by the built-in's name -/
theorem de_blt {r : List V → Hp → VK → Prop} {op : List D → (D → Prop) → Prop} {x : Str} {id : String} {e : Expr} {es : List Expr} {t : TA} {ks : KA} {p pos : Pos} (hc : CallR X (.builtin id) r) (hd : DCall X r op) (hm : X.mg x = none) (h : DAb X (e :: es) t ks)
    (hp : CallR X (.builtin id) r → X.mg x = none → PA X (e :: es) t → PE X (.Call (.Name x p) (e :: es) [] pos) (tCB r t) := by intro a b c; exact pe_callB a (by exact rfl) b (by decide +kernel) c) : DE X (.Call (.Name x p) (e :: es) [] pos) (tCB r t) (kCall op ks) := de_of hd h (hp hc hm)
theorem de_bty {r : List V → Hp → VK → Prop} {op : List D → (D → Prop) → Prop} {x : Str} {T : String} {e : Expr} {es : List Expr} {t : TA} {ks : KA} {p pos : Pos} (hc : CallR X (.type T) r) (hd : DCall X r op) (hm : X.mg x = none) (h : DAb X (e :: es) t ks)
    (hp : CallR X (.type T) r → X.mg x = none → PA X (e :: es) t → PE X (.Call (.Name x p) (e :: es) [] pos) (tCB r t) := by intro a b c; exact pe_callTy a (by exact rfl) b (by decide +kernel) c) : DE X (.Call (.Name x p) (e :: es) [] pos) (tCB r t) (kCall op ks) := de_of hd h (hp hc hm)
theorem callR_or {f : Value} {r r' : List V → Hp → VK → Prop} (h : CallR X f r) (h' : CallR X f r') : CallR X f (fun xs H Q => r xs H Q ∨ r' xs H Q) := by
  intro pins s σ H xs us Q I rv q
  rcases q with q | q
  · exact h pins s σ H xs us Q I rv q
  · exact h' pins s σ H xs us Q I rv q
def bLen : List D → (D → Prop) → Prop := fun ds Q => match ds with
  | [.lst xs] => Q (.int xs.length)
  | [.tup xs] => Q (.int xs.length)
  | [.str x] => x.length ≤ 1000000 ∧ Q (.int x.length)
  | _ => False
def rLenA (K : PySem.W.Frag) : List V → Hp → VK → Prop := fun xs H Q => (∃ p ys, xs = [V.ref p] ∧ (SqL K H p ys ∨ SqT K H p ys) ∧ Q (.int ys.length) H) ∨ (∃ x n, xs = [x] ∧ LenV K x H n ∧ Q (.int n) H)
theorem c_len : CallR X (.builtin "len") (rLenA X.K) := callR_or call_len_seq call_len
theorem d_len : DCall X (rLenA X.K) bLen := by
  intro W F H n vs ds Q R hK w r q fin
  cases r with
  | nil => exact False.elim q
  | cons r1 r2 =>
    rename_i v vs d ds
    cases r2 with
    | cons _ _ => cases d <;> exact False.elim q
    | nil =>
      cases d <;> try exact False.elim q
      case lst xs =>
        obtain ⟨p, ws, rfl, h1, h2⟩ := r1.lst w.sub
        exact .inl ⟨p, ws, rfl, .inl (SqL.of h1), fin _ F H _ (New.refl w.sub) (.int _) (by rw [h2.length]; exact q)⟩
      case tup xs =>
        obtain ⟨p, ws, rfl, h1, _, h2⟩ := r1.tup w.sub
        exact .inl ⟨p, ws, rfl, .inr (hK ▸ h1), fin _ F H _ (New.refl w.sub) (.int _) (by rw [h2.length]; exact q)⟩
      case str x =>
        refine .inr ⟨v, x.length, rfl, ?_, fin _ F H _ (New.refl w.sub) (.int _) q.2⟩
        rw [r1.str]
        exact ⟨big_ok q.1, rfl⟩
def bInt : List D → (D → Prop) → Prop := fun ds Q => match ds with
  | [.int i] => Q (.int i)
  | [.bl b] => Q (.int (if b then 1 else 0))
  | _ => False
theorem rb1 {W : Wd} {F H : Hp} {vs : List V} {d : D} (r : RBs W F H vs [d]) : ∃ v, vs = [v] ∧ RB W F H v d := by
  cases r with
  | cons r1 r2 => cases r2; exact ⟨_, rfl, r1⟩
theorem rb2 {W : Wd} {F H : Hp} {vs : List V} {d e : D} (r : RBs W F H vs [d, e]) : ∃ v u, vs = [v, u] ∧ RB W F H v d ∧ RB W F H u e := by
  cases r with
  | cons r1 r2 =>
    obtain ⟨u, rfl, h⟩ := rb1 r2
    exact ⟨_, _, rfl, r1, h⟩
theorem d_toInt : DCall X (fun xs H Q => (∃ i, xs = [.int i] ∧ Q (.int i) H) ∨ ∃ k, xs = [.bl k] ∧ Q (.int (if k then 1 else 0)) H) bInt := by
  intro W F H n vs ds Q R hK w r q fin
  match ds, r, q with
  | [.int i], r, q =>
    obtain ⟨v, rfl, rx⟩ := rb1 r
    exact .inl ⟨i, by rw [rx.int], fin _ F H _ (New.refl w.sub) (.int _) q⟩
  | [.bl b], r, q =>
    obtain ⟨v, rfl, rx⟩ := rb1 r
    exact .inr ⟨b, by rw [rx.bl], fin _ F H _ (New.refl w.sub) (.int _) q⟩
def bAbs : List D → (D → Prop) → Prop := fun ds Q => match ds with
  | [.int i] => Q (.int (if i < 0 then -i else i))
  | _ => False
theorem d_abs : DCall X (fun xs H Q => ∃ i, xs = [.int i] ∧ Q (.int (if i < 0 then -i else i)) H) bAbs := by
  intro W F H n vs ds Q R hK w r q fin
  match ds, r, q with
  | [.int i], r, q =>
    obtain ⟨v, rfl, rx⟩ := rb1 r
    exact ⟨i, by rw [rx.int], fin _ F H _ (New.refl w.sub) (.int _) q⟩
def bTuple : List D → (D → Prop) → Prop := fun ds Q => match ds with
  | [.lst xs] => Q (.tup xs)
  | [.tup xs] => Q (.tup xs)
  | _ => False
theorem d_tuple : DCall X (fun xs H Q => ∃ p ys, xs = [.ref p] ∧ ((SqL X.K H p ys ∧ ∀ l, H l = none → Q (.ref l) (upd H l (.tup ys))) ∨ (SqT X.K H p ys ∧ Q (.ref p) H))) bTuple := by
  intro W F H n vs ds Q R hK w r q fin
  match ds, r, q with
  | [.lst xs], r, q =>
    obtain ⟨v, rfl, rx⟩ := rb1 r
    obtain ⟨p, ws, rfl, h1, h2⟩ := rx.lst w.sub
    refine ⟨p, ws, rfl, .inl ⟨SqL.of h1, fun c hc => ?_⟩⟩
    obtain ⟨g, r⟩ := new_tup w hc h2
    exact fin _ _ _ _ g r q
  | [.tup xs], r, q =>
    obtain ⟨v, rfl, rx⟩ := rb1 r
    obtain ⟨p, ws, rfl, h1, h0, h2⟩ := rx.tup w.sub
    exact ⟨p, ws, rfl, .inr ⟨hK ▸ h1, fin _ F H _ (New.refl w.sub) (.tup h0 h2) q⟩⟩
def bList : List D → (D → Prop) → Prop := fun ds Q => match ds with
  | [.lst xs] => Q (.lst xs)
  | [.tup xs] => Q (.lst xs)
  | _ => False
theorem d_list : DCall X (fun xs H Q => ∃ p ys, xs = [.ref p] ∧ (SqL X.K H p ys ∨ SqT X.K H p ys) ∧ ∀ l, H l = none → Q (.ref l) (upd H l (.lst ys))) bList := by
  intro W F H n vs ds Q R hK w r q fin
  match ds, r, q with
  | [.lst xs], r, q =>
    obtain ⟨v, rfl, rx⟩ := rb1 r
    obtain ⟨p, ws, rfl, h1, h2⟩ := rx.lst w.sub
    refine ⟨p, ws, rfl, .inl (SqL.of h1), fun c hc => ?_⟩
    obtain ⟨g, r⟩ := new_lst w hc h2
    exact fin _ _ _ _ g r q
  | [.tup xs], r, q =>
    obtain ⟨v, rfl, rx⟩ := rb1 r
    obtain ⟨p, ws, rfl, h1, h0, h2⟩ := rx.tup w.sub
    refine ⟨p, ws, rfl, .inr (hK ▸ h1), fun c hc => ?_⟩
    obtain ⟨g, r⟩ := new_lst w hc h2
    exact fin _ _ _ _ g r q
/-- bools, ints of a list of data -/
def D.bls : List D → Option (List Bool)
  | [] => some []
  | .bl b :: ds => match D.bls ds with
    | some bs => some (b :: bs)
    | none => none
  | _ => none
def D.ints : List D → Option (List Int)
  | [] => some []
  | .int b :: ds => match D.ints ds with
    | some bs => some (b :: bs)
    | none => none
  | _ => none
theorem bls_v {K : PySem.W.Frag} {pa : Option Pn} {F : Hp} : ∀ {vs : List V} {ds : List D} {bs : List Bool}, Reps K pa F vs ds → D.bls ds = some bs → vs = bs.map V.bl
  | _, [], bs, .nil, e => by cases e; rfl
  | _, d :: ds, bs, .cons h r, e => by
    cases d <;> try (simp [D.bls] at e; done)
    case bl b =>
      unfold D.bls at e
      cases q : D.bls ds with
      | none => rw [q] at e; cases e
      | some cs =>
        rw [q] at e
        cases e
        cases h
        rw [bls_v r q, List.map_cons]
theorem ints_v {K : PySem.W.Frag} {pa : Option Pn} {F : Hp} : ∀ {vs : List V} {ds : List D} {bs : List Int}, Reps K pa F vs ds → D.ints ds = some bs → vs = bs.map V.int
  | _, [], bs, .nil, e => by cases e; rfl
  | _, d :: ds, bs, .cons h r, e => by
    cases d <;> try (simp [D.ints] at e; done)
    case int b =>
      unfold D.ints at e
      cases q : D.ints ds with
      | none => rw [q] at e; cases e
      | some cs =>
        rw [q] at e
        cases e
        cases h
        rw [ints_v r q, List.map_cons]
theorem bls_map : ∀ bs : List Bool, D.bls (bs.map D.bl) = some bs
  | [] => rfl
  | b :: bs => by rw [List.map_cons]; unfold D.bls; rw [bls_map bs]
theorem ints_map : ∀ bs : List Int, D.ints (bs.map D.int) = some bs
  | [] => rfl
  | b :: bs => by rw [List.map_cons]; unfold D.ints; rw [ints_map bs]
def bAny : List D → (D → Prop) → Prop := fun ds Q => match ds with
  | [.lst xs] => match D.bls xs with
    | some bs => Q (.bl (bs.any id))
    | none => False
  | _ => False
def bAll : List D → (D → Prop) → Prop := fun ds Q => match ds with
  | [.lst xs] => match D.bls xs with
    | some bs => Q (.bl (bs.all id))
    | none => False
  | _ => False
def bSum : List D → (D → Prop) → Prop := fun ds Q => match ds with
  | [.lst xs] => match D.ints xs with
    | some bs => Q (.int bs.sum)
    | none => False
  | _ => False
theorem d_any : DCall X (rAny X.K) bAny := by
  intro W F H n vs ds Q R hK w r q fin
  match ds, r, q with
  | [.lst xs], r, q =>
    obtain ⟨v, rfl, rx⟩ := rb1 r
    obtain ⟨p, ws, rfl, h1, h2⟩ := rx.lst w.sub
    have q : (match D.bls xs with | some bs => Q (.bl (bs.any id)) | none => False) := q
    cases e : D.bls xs with
    | none => rw [e] at q; exact q.elim
    | some bs =>
      rw [e] at q
      exact ⟨p, bs, rfl, by rw [← bls_v h2 e]; exact SqL.of h1, fin _ F H _ (New.refl w.sub) (.bl _) q⟩
theorem d_all : DCall X (rAll X.K) bAll := by
  intro W F H n vs ds Q R hK w r q fin
  match ds, r, q with
  | [.lst xs], r, q =>
    obtain ⟨v, rfl, rx⟩ := rb1 r
    obtain ⟨p, ws, rfl, h1, h2⟩ := rx.lst w.sub
    have q : (match D.bls xs with | some bs => Q (.bl (bs.all id)) | none => False) := q
    cases e : D.bls xs with
    | none => rw [e] at q; exact q.elim
    | some bs =>
      rw [e] at q
      exact ⟨p, bs, rfl, by rw [← bls_v h2 e]; exact SqL.of h1, fin _ F H _ (New.refl w.sub) (.bl _) q⟩
theorem d_sum : DCall X (rSum X.K) bSum := by
  intro W F H n vs ds Q R hK w r q fin
  match ds, r, q with
  | [.lst xs], r, q =>
    obtain ⟨v, rfl, rx⟩ := rb1 r
    obtain ⟨p, ws, rfl, h1, h2⟩ := rx.lst w.sub
    have q : (match D.ints xs with | some bs => Q (.int bs.sum) | none => False) := q
    cases e : D.ints xs with
    | none => rw [e] at q; exact q.elim
    | some bs =>
      rw [e] at q
      exact ⟨p, bs, rfl, by rw [← ints_v h2 e]; exact SqL.of h1, fin _ F H _ (New.refl w.sub) (.int _) q⟩
/-! ### isinstance -/
def D.tyn : D → String
  | .non => "NoneType"
  | .bl _ => "bool"
  | .int _ => "int"
  | .str _ => "str"
  | .tup _ => "tuple"
  | .lst _ => "list"
  | _ => ""
theorem rb_ty {W : Wd} {F H : Hp} {x : V} {a : D} (w : Same F H) (r : RB W F H x a) (h : a.tyn ≠ "") : TyX W.K H x (.type a.tyn) := by
  rcases r with r | ⟨p, vs, ds, rfl, rfl, _, h4, _⟩
  · cases r with
    | non => exact .base .non
    | bl b => exact .base (.bl b)
    | int b => exact .base (.int b)
    | str b => exact .base (.str b)
    | tup q r =>
      rcases same_sqT w q with (q | ⟨o, q⟩) | ⟨o, its, k, q1, q2, q3⟩
      · exact .base (.tup q)
      · exact .fTuple q
      · exact .kTuple q1 q2
    | lst q r => exact .base (.lst (w _ _ q))
    | ty n => exact (h rfl).elim
    | ref a => exact (h rfl).elim
    | ins _ _ _ => exact (h rfl).elim
    | pen _ => exact (h rfl).elim
  · exact .base (.lst h4)
/-- isinstance(x, T), T a built-in class -/
def bIsi : List D → (D → Prop) → Prop := fun ds Q => match ds with
  | [a, .ty T] => a.tyn ≠ "" ∧ match kitB a.tyn T with
    | some b => Q (.bl b)
    | none => False
  | _ => False
theorem d_isi : DCall X (rIsi X.K) bIsi := by
  intro W F H n vs ds Q R hK w r q fin
  match ds, r, q with
  | [a, .ty T], r, q =>
    obtain ⟨v, u, rfl, r1, r2⟩ := rb2 r
    obtain ⟨q1, q⟩ := q
    have hu : u = .ty T := by
      rcases r2 with r2 | ⟨p, vs, es, e1, e2, e3, e4, e5⟩
      · cases r2; rfl
      · cases e2
    cases e : kitB a.tyn T with
    | none => rw [e] at q; exact q.elim
    | some b =>
      rw [e] at q
      exact ⟨v, u, _, _, b, rfl, hu ▸ .ty T, hK ▸ rb_ty w.sub r1 q1, kit_ty e, fin _ F H _ (New.refl w.sub) (.bl _) q⟩
/-- the same by a display of two classes -/
def kIsi2 (k : KE) (T U : String) : KE := fun S n Q => k S n fun a S1 n1 => a.tyn ≠ "" ∧ match kitB a.tyn T, kitB a.tyn U with
  | some b, some c => Q (.bl (b || c)) S1 n1
  | _, _ => False
theorem de_isi2 {e e1 e2 : Expr} {T U : String} {t : TE} {k : KE} {kk : Nat} {p tpos pos : Pos} (hm : X.mg "isinstance" = none) (h : DB X e t k) (h1 : PE X e1 (tC (.ty T))) (h2 : PE X e2 (tC (.ty U)))
    (hs : starEach [e, .Tuple [e1, e2] kk tpos] X.env = (false, eval e X.env) :: starEach [.Tuple [e1, e2] kk tpos] X.env := by rfl)
    (hs1 : starEach [e1, e2] X.env = (false, eval e1 X.env) :: starEach [e2] X.env := by rfl) (hs2 : starEach [e2] X.env = (false, eval e2 X.env) :: starEach [] X.env := by rfl)
    (hp : ∀ {t}, X.mg "isinstance" = none → PA X [e, .Tuple [e1, e2] kk tpos] t → PE X (.Call (.Name "isinstance" p) [e, .Tuple [e1, e2] kk tpos] [] pos) (tCB (rIsiT X.K) t) := by intro _ b c; exact pe_callB call_isiT (by exact rfl) b (by decide +kernel) c) :
    DE X (.Call (.Name "isinstance" p) [e, .Tuple [e1, e2] kk tpos] [] pos) (tCB (rIsiT X.K) (tCons t (tCons (tTup (tCons (tC (.ty T)) (tCons (tC (.ty U)) tNil))) tNil))) (kIsi2 k T U) := by
  refine ⟨hp hm (pa_cons h.pe (pa_cons (pe_tup (pa_cons h1 (pa_cons h2 pa_nil hs2) hs1)) pa_nil) hs), fun W F n S σ H Q R hK A q fin => ?_⟩
  refine h.ok W F n S σ H _ _ hK A q fun v H1 F1 n1 S1 a g1 A1 r1 q1 => ?_
  refine ⟨by show 2 ≤ sizeLine; decide, fun c hc => ?_⟩
  have g := New.free A1.w hc (.tup [.ty T, .ty U])
  obtain ⟨q1, q2⟩ := q1
  cases e1 : kitB a.tyn T with
  | none => rw [e1] at q2; exact q2.elim
  | some b =>
    cases e2 : kitB a.tyn U with
    | none => rw [e1, e2] at q2; exact q2.elim
    | some d =>
      rw [e1, e2] at q2
      refine ⟨v, c, _, _, [.type T, .type U], b || d, rfl, upd_same, .cons (.ty T) (.cons (.ty U) .nil), hK ▸ rb_ty g.sub (r1.new g) q1, ?_, fin _ _ F1 n1 S1 _ (g1.trans g.grow) (A1.new g) (.bl _) q2⟩
      refine kitAny_cons (kit_ty e1) (fun hb => ?_) (fun hb => by rw [hb]; rfl)
      refine kitAny_cons (kit_ty e2) (fun hd => ?_) (fun hd => by rw [hd, Bool.or_true])
      rw [hb, hd]
      exact kitAny_nil
/-! ### repr -/
def bRepr : List D → (D → Prop) → Prop := fun ds Q => match ds with
  | [a] => D.pl 8 a ∧ a.py.showable = true ∧ a.py.shown.length ≤ 1000000 ∧ Q (.str a.py.shown)
  | _ => False
def rReprD (K : PySem.W.Frag) : List V → Hp → VK → Prop := fun xs H Q => ∃ x d, xs = [x] ∧ Dp K H x d ∧ d.showable = true ∧ SeqAt.shaped d = true ∧ d.depth ≤ 8 ∧ d.shown.length ≤ 1000000 ∧ Q (.str d.shown) H
end
end DL
namespace DL
open PySem PySem.Spec PyProof.Rows L2
/-! ### enumerate of a tuple -/
def enObj (it : Addr) : Obj := { cls := .type "enumerate", data := .fields #[.none, .bool false, .ref it, rawInt 0, .none, .none] }
def tiObj (l : Addr) : Obj := { cls := .type "tuple_iterator", data := .fields #[.ref l, .int 0 0] }
open AutoSeq1 (wpAny_loadPart') in
theorem enum_new_tup (l : Addr) (items : Array Value) :
    Meets (Builtin.«enumerate.__new__» ⟨[.type "enumerate", .ref l], []⟩) (fun _ R s => s.heap.IsTuple l items ∧
      R (.ok (.ret (.ref (s.heap.push (tiObj l)).objs.size))) { s with heap := (s.heap.push (tiObj l)).push (enObj s.heap.objs.size) }) :=
  .of_wp fun prog w A R s h => by
    obtain ⟨hp, g, d, tk, os⟩ := s
    obtain ⟨h1, h⟩ := h
    have hsub := sub_enumerate
    have q1 : ∀ {A' : Around} {E : Value → Shared → Prop} {Q : Value → Shared → Prop}, Q (.ref hp.objs.size) ⟨hp.push (tiObj l), g, d, tk, os⟩ → wpAny (model prog w) A' (pyIter (.ref l)) Q E ⟨hp, g, d, tk, os⟩ :=
      fun q => wpAny_pyIter_tuple h1 q
    wp_walk using q1
    refine wpAny_stack_any fun st => wpAny_pure ?_
    split
    · rename_i c _ _ _ _ _
      cases (c == Value.type "enumerate") <;> (wp_walk using q1; exact ⟨_, rfl, h⟩)
    · wp_walk using q1
      exact ⟨_, rfl, h⟩
theorem call_enum_tup {prog : Program} {w : World} {A : Around} {E : Value → Shared → Prop} {s : Shared} {l : Addr} {items : Array Value} {Q : Value → Shared → Prop} (hL : s.heap.IsTuple l items)
    (h : ∀ h', IsEnum h' (s.heap.objs.size + 1) s.heap.objs.size 0 .none → h'.IsTupleIter s.heap.objs.size l 0 → (∀ b o, s.heap.get? b = some o → h'.get? b = some o) → Q (.ref (s.heap.objs.size + 1)) { s with heap := h' }) :
    wpAny (model prog w) A (call (.type "enumerate") [.ref l]) Q E s := by
  refine callType_new F.called_enumerate (by decide) (F.typeCall_enumerate_1 _) (F.newCall_enumerate_1 _) (fun obj => F.args_object_init_2 obj _) F.entry_enumerate_new (enum_new_tup l items) ⟨hL, ?_⟩
  have hz : (s.heap.push (tiObj l)).objs.size = s.heap.objs.size + 1 := Heap.size_push ..
  show _ ∧ _
  rw [hz]
  have he : IsEnum ((s.heap.push (tiObj l)).push (enObj s.heap.objs.size)) (s.heap.objs.size + 1) s.heap.objs.size 0 .none := by
    have k := Heap.get?_push_size (s.heap.push (tiObj l)) (o := enObj s.heap.objs.size) rfl
    rw [hz] at k
    exact k
  exact ⟨⟨_, he, rfl⟩, h _ he ⟨_, Heap.get?_push_of_some _ (Heap.get?_push_size _ rfl), rfl, rfl⟩ fun b o x => Heap.get?_push_of_some _ (Heap.get?_push_of_some _ x)⟩
/-- the tuple at a, each item in a new pair -/
def Itet (K : PySem.W.Frag) (a : Addr) : It where
  go := fun i H => ∃ (xs : List V) (x : V), SqT K H a xs ∧ xs[i]? = some x
  yld := fun i H v H' => ∃ T x, v = .ref T ∧ H T = none ∧ H' = upd H T (.tup [.int (i : Nat), x]) ∧ ∀ xs, SqT K H a xs → xs[i]? = some x
  stop := fun i H => ∃ xs : List V, SqT K H a xs ∧ xs.length = i
theorem turn_enumT {P : Program} {w : World} {K : PySem.W.Frag} {elts : List Expr} {kk : Nat} {tpos : Pos} (a e it : Addr) (hne : e ≠ it) (hae : e ≠ a) (hai : a ≠ it) :
    Turn P w K (.Tuple elts kk tpos) (Itet K a) [e, it] e (fun i h => (∃ old, IsEnum h e it ((i : Nat) : Int) old) ∧ h.IsTupleIter it a i) where
  mem := List.mem_cons_self ..
  obj := fun i h ⟨⟨old, he⟩, o, ho, hc, hd⟩ b hb => by
    rcases List.mem_cons.mp hb with z | hb
    · subst z; exact ⟨_, he, fun v q => nomatch q⟩
    · have z : b = it := List.mem_singleton.mp hb
      subst z; exact ⟨o, ho, fun v q => by rw [hd] at q; cases q⟩
  keep := fun i h h' ⟨⟨old, he⟩, hi⟩ k => ⟨⟨old, k e (List.mem_cons_self ..) _ he⟩, hi.at fun o q => k it (List.mem_cons_of_mem _ (List.mem_cons_self ..)) o q⟩
  item := by
    intro X hP hw hK hc i pins s σ H E I hf st hg
    subst hP hw hK
    obtain ⟨⟨old, he⟩, hit⟩ := st
    obtain ⟨xs, x, hq, hx⟩ := hg
    obtain ⟨its, rv, p, hz⟩ := I.tuple hq
    obtain ⟨u, hu, ru⟩ := rv.get hx
    have hel : e < s.heap.objs.size := Heap.lt_size he
    have hil : it < s.heap.objs.size := by obtain ⟨_, q, _⟩ := hit; exact Heap.lt_size q
    have dr := Draws.tuple (prog := X.prog) (w := X.w) (A := X.A.in1) (I.ok.hd hc) it a hai its.toArray
    have hlt : i < its.toArray.size := by
      have := (List.getElem?_eq_some_iff.mp hu).1
      simpa using this
    have hef : e ∉ [it, a] := by simp [hne, hae]
    refine wpAny_pyNext_enum_itemD dr he ⟨hit, p⟩ hlt hne hef fun y h' tk hy ho hst hT hsz hk => ?_
    have ey : u = y := by
      have h1 : its.toArray[i]? = some y := hy
      have h2 : its.toArray[i]? = some u := by simpa using hu
      exact Option.some.inj (h2.symm.trans h1)
    subst ey
    refine ⟨_, rfl, wpAny_letOwnedTupleGo_enum (s := { s with heap := h', toks := tk + 1 }) ho fun h'' he' sb => ?_⟩
    have hT2 : h''.get? s.heap.objs.size = some { cls := .type "tuple", data := .seq #[.int i tk, u] } := (sb.2 _ (Nat.ne_of_gt hel)).trans hT
    have new : ObjOk X.prog X.w (upd H s.heap.objs.size (.tup [.int (i : Nat), x])) h'' s.heap.objs.size (.tup [.int (i : Nat), x]) := by
      refine ⟨?_, [.int i tk, u], .cons ⟨tk, rfl⟩ (.cons ru .nil), _, hT2, rfl, _, rfl⟩
      show 2 ≤ sizeLine
      decide
    have I1 : Inv X pins σ (upd H s.heap.objs.size (.tup [.int (i : Nat), x])) { s with heap := h'', toks := tk + 1 } := by
      refine I.turnedNew (ch := [e, it]) (fun b ob hb q => ?_) hf (Nat.le_refl _) new
      have n1 : b ≠ e := fun z => hb (z ▸ List.mem_cons_self ..)
      have n2 : b ≠ it := fun z => hb (z ▸ List.mem_cons_of_mem _ (List.mem_cons_self ..))
      exact (sb.2 b n1).trans (hk b ob n1 n2 q)
    have fr : H s.heap.objs.size = none := I.hok.fresh (Nat.le_refl _)
    refine ⟨.ref s.heap.objs.size, _, I1, rfl, ⟨_, x, rfl, fr, rfl, fun ys hy => ?_⟩, ⟨⟨u, ?_⟩, hst.1.at fun o q => (sb.2 it (Ne.symm hne)).trans q⟩, fun b hb => ?_⟩
    · rw [I.tuple_inj hy hq]; exact hx
    · have e1 : ((i + 1 : Nat) : Int) = (i : Int) + 1 := by omega
      rw [e1]
      exact he'
    · have hb' : b < s.heap.objs.size := by
        rcases List.mem_cons.mp hb with z | hb
        · rw [z]; exact hel
        · rw [List.mem_singleton.mp hb]; exact hil
      rw [upd_ne (Nat.ne_of_lt hb')]
      exact (hf b hb).1
  done := by
    intro X hP hw hK hc i pins s σ H E I hf st hg
    subst hP hw hK
    obtain ⟨⟨old, he⟩, hit⟩ := st
    obtain ⟨xs, hq, hx⟩ := hg
    obtain ⟨its, rv, p, hz⟩ := I.tuple hq
    obtain ⟨f0, f1, f2, f3, f4, f5⟩ := hf it (List.mem_cons_of_mem _ (List.mem_cons_self ..))
    have dr := Draws.tuple (prog := X.prog) (w := X.w) (A := X.A.in1) (I.ok.hd hc) it a hai its.toArray
    have hl : i = its.toArray.size := by
      have e := rv.length
      rw [List.size_toArray]
      omega
    subst hl
    exact wpAny_pyNext_enum_endD dr he ⟨hit, p⟩ fun h' eb => ⟨rfl, I.turned (t' := s.toks) (fun b o hb q => eb b o hb q) f0 f1 f3 f4 f5⟩
  self := fun A i s Q E ⟨⟨_, he⟩, _⟩ h => wpAny_pyIter_enum he h
def iEnumT (K : PySem.W.Frag) (ta : TA) : TI := fun σ H R => ta σ H fun vs H1 => ∃ a xs, vs = [.ref a] ∧ ((SqL K H1 a xs ∧ R (Ite K a) H1) ∨ (SqT K H1 a xs ∧ R (Itet K a) H1))
theorem pi_enumA {X : Cx} {e : Expr} {ta : TA} {p pos tpos : Pos} {elts : List Expr} {kk : Nat} (hg : Gl X "enumerate") (hm : X.mg "enumerate" = none) (ha : PA X [e] ta) (hs : starEach [e] X.env = [(false, eval e X.env)] := by rfl) :
    PI X (.Tuple elts kk tpos) (.Call (.Name "enumerate" p) [e] [] pos) (iEnumT X.K ta) := by
  refine ⟨fun pins s σ H R I h => ?_⟩
  refine Call_ (ld_blt I hg hm boot_enumerate (PyProof.Rows.callWith_type1 (thn (ha.run pos pins s σ H _ I h) fun us s1 ⟨vs, H1, I1, r1, q1⟩ => ?_) hs rfl))
  obtain ⟨a, xs, ex, hq⟩ := q1
  subst ex
  have two : ∀ b ∈ [s1.heap.objs.size + 1, s1.heap.objs.size], FpOk X pins H1 b := fun b hb => by
    have hle : s1.heap.objs.size ≤ b := by
      rcases List.mem_cons.mp hb with z | hb
      · omega
      · rw [List.mem_singleton.mp hb]; exact Nat.le_refl _
    exact I1.fpOk hle (I1.hok.fresh hle)
  cases r1 with
  | cons r rr =>
    cases rr
    cases r
    rcases hq with ⟨hq, q⟩ | ⟨hq, q⟩
    · obtain ⟨its, rv, pl, hz⟩ := I1.list hq
      refine call_enumerate_list pl.isList fun h' he hit hsz hk => wpAny_pyIter_enum he ?_
      have I2 : Inv X pins σ H1 { s1 with heap := h' } := I1.kept (t' := s1.toks) hk
      exact ⟨s1.heap.objs.size + 1, _, _, _, H1, rfl, I2, turn_enum a (s1.heap.objs.size + 1) s1.heap.objs.size, ⟨⟨.none, he⟩, hit, Nat.succ_ne_self _⟩, two, q⟩
    · obtain ⟨its, rv, pl, hz⟩ := I1.tuple hq
      have hal : a < s1.heap.objs.size := pl.lt
      refine call_enum_tup pl fun h' he hit hk => wpAny_pyIter_enum he ?_
      have I2 : Inv X pins σ H1 { s1 with heap := h' } := I1.kept (t' := s1.toks) hk
      exact ⟨s1.heap.objs.size + 1, _, _, _, H1, rfl, I2, turn_enumT a (s1.heap.objs.size + 1) s1.heap.objs.size (Nat.succ_ne_self _) (Nat.ne_of_gt (Nat.lt_succ_of_lt hal)) (Nat.ne_of_lt hal), ⟨⟨.none, he⟩, hit⟩, two, q⟩
/-! ### repr of data -/
theorem call_reprD {X : Cx} (hg : X.A.guards = some []) (hu : X.A.units + 64 < cLine) : CallR X (.builtin "repr") (rReprD X.K) := by
  intro pins s σ H xs us Q I r h
  obtain ⟨x, d, rfl, hd, sh, sp, dep, len, q⟩ := h
  obtain ⟨u, rfl, ru⟩ := vals1 r
  obtain ⟨as, hr⟩ := Dp.reads I d x u hd ru
  have nd : d.hasDict = false := PyData.hasDict_of_canLay d (SeqAt.canLay_of_shaped sp)
  have obj : ∀ a, u = .ref a → wpAny (model X.prog X.w) X.A (call (.builtin "repr") [u]) (EP X pins σ Q) X.xe s := fun a e => by
    subst e
    exact repr_of_reads' hr sh (PyData.noDict_hsm nd) hg (by omega) (fun _ _ h => h) (fun h' t tk hk => ⟨.str _, H, I.kept hk, ⟨_, rfl⟩, q⟩) (big_ok len)
  cases hd with
  | non =>
    cases ru
    refine PySem.P.repr_of_none ⟨.str _, H, I.tok _, ⟨_, rfl⟩, ?_⟩
    simp only [PyData.shown] at q
    exact q
  | bl b =>
    cases ru
    refine PySem.P.repr_of_bool ⟨.str _, H, I.tok _, ⟨_, rfl⟩, ?_⟩
    simp only [PyData.shown] at q
    exact q
  | int i =>
    obtain ⟨t, rfl⟩ := ru
    simp only [PyData.showable, decide_eq_true_eq] at sh
    refine PySem.P.repr_of_int sh ⟨.str _, H, I.tok _, ⟨_, rfl⟩, ?_⟩
    simp only [PyData.shown] at q
    exact q
  | str x =>
    obtain ⟨t, rfl⟩ := ru
    simp only [PyData.shown] at q len
    exact PySem.P.repr_of_str ⟨.str _, H, I.tok _, ⟨_, rfl⟩, q⟩ (big_ok len)
  | lst _ _ => exact obj _ ru
  | tup _ _ => exact obj _ ru
theorem d_repr {X : Cx} : DCall X (rReprD X.K) bRepr := by
  intro W F H n vs ds Q R hK w r q fin
  match ds, r, q with
  | [a], r, q =>
    obtain ⟨v, rfl, rx⟩ := rb1 r
    obtain ⟨q1, q2, q3, q4⟩ := q
    exact ⟨v, _, rfl, hK ▸ rb_dp w.sub q1 rx, q2, pl_shaped (by decide) q1, (pl_dep 8 a q1).2, q3, fin _ F H _ (New.refl w.sub) (.str _) q4⟩
end DL
namespace DL
open PySem PySem.Spec PyProof.Rows L2
/-! ### what is walked -/
structure WalkD (W : Wd) (F : Hp) (J : It) (ds : List D) : Prop where
  goes : ∀ F' H n i, Same F F' → Wok W F' H n → i < ds.length → J.go i H
  stops : ∀ F' H n, Same F F' → Wok W F' H n → J.stop ds.length H
  yields : ∀ F' H n i x H', Same F F' → Wok W F' H n → i < ds.length → J.yld i H x H' → ∃ F'' d, ds[i]? = some d ∧ New W F' H F'' H' ∧ Rep W.K W.pa F'' x d
/-- from the layer's own walks -/
theorem WalkD.of {W : Wd} {F : Hp} {J : It} {ds : List D} {m : Nat} {G : Hp → Prop} {Y : Nat → Hp → V → Hp → Prop} (w : Walk J m G Y) (hm : ds.length = m) (hG : ∀ F' H n, Same F F' → Wok W F' H n → G H)
    (hY : ∀ F' H n i x H', Same F F' → Wok W F' H n → i < m → Y i H x H' → ∃ F'' d, ds[i]? = some d ∧ New W F' H F'' H' ∧ Rep W.K W.pa F'' x d) : WalkD W F J ds := by
  subst hm
  exact ⟨fun F' H n i e k hi => w.goes i H hi (hG F' H n e k), fun F' H n e k => w.stops H (hG F' H n e k), fun F' H n i x H' e k hi y => hY F' H n i x H' e k hi (w.yields i H x H' hi (hG F' H n e k) y)⟩
section
variable {W : Wd} {F : Hp} {a b : Addr} {vs ws : List V} {ds es : List D}
theorem at_yes {W : Wd} {F' H : Hp} {n : Nat} {vs : List V} {ds : List D} {x : V} {H' : Hp} {i : Nat} (r : Reps W.K W.pa F' vs ds) (k : Wok W F' H n) (y : YAt vs i H x H') : ∃ F'' d, ds[i]? = some d ∧ New W F' H F'' H' ∧ Rep W.K W.pa F'' x d := by
  obtain ⟨e, hx⟩ := y
  subst e
  obtain ⟨d, h1, h2⟩ := r.get hx
  exact ⟨F', d, h1, New.refl k.sub, h2⟩
theorem wd_list (h : F a = some (.lst vs)) (r : Reps W.K W.pa F vs ds) : WalkD W F (Itl W.K a) ds :=
  WalkD.of walk_list r.length.symm (fun F' H n e k => SqL.of (k.sub _ _ (e _ _ h))) fun F' H n i x H' e k _ y => at_yes (Reps.mono e r) k y
theorem wd_tup (h : SqT W.K F a vs) (r : Reps W.K W.pa F vs ds) : WalkD W F (Itt W.K a) ds :=
  WalkD.of walk_tup r.length.symm (fun F' H n e k => same_sqT (e.trans k.sub) h) fun F' H n i x H' e k _ y => at_yes (Reps.mono e r) k y
/-- lo, lo + 1, .. -/
def rngD : Int → Nat → List D
  | _, 0 => []
  | lo, n + 1 => .int lo :: rngD (lo + 1) n
theorem rngD_len : ∀ (n : Nat) (lo : Int), (rngD lo n).length = n
  | 0, _ => rfl
  | n + 1, lo => by unfold rngD; rw [List.length_cons, rngD_len n]
theorem rngD_get : ∀ (n : Nat) (lo : Int) (i : Nat), i < n → (rngD lo n)[i]? = some (.int (lo + i))
  | 0, _, _, h => absurd h (Nat.not_lt_zero _)
  | n + 1, lo, 0, _ => by unfold rngD; simp
  | n + 1, lo, i + 1, h => by
    unfold rngD
    rw [List.getElem?_cons_succ, rngD_get n (lo + 1) i (Nat.lt_of_succ_lt_succ h)]
    have e : lo + 1 + (i : Int) = lo + ((i + 1 : Nat) : Int) := by omega
    rw [e]
theorem wd_range {lo : Int} {n : Nat} : WalkD W F (Itr lo n) (rngD lo n) :=
  WalkD.of walk_range (rngD_len n lo) (fun _ _ _ _ _ => trivial) fun F' H k i x H' e w hi y => by
    obtain ⟨e1, e2⟩ := y
    subst e1 e2
    exact ⟨F', _, rngD_get n lo i hi, New.refl w.sub, .int _⟩
/-- the pairs of enumerate, of zip -/
def enumD : Nat → List D → List D
  | _, [] => []
  | k, d :: ds => .tup [.int (k : Nat), d] :: enumD (k + 1) ds
def zipD : List D → List D → List D
  | d :: ds, e :: es => .tup [d, e] :: zipD ds es
  | _, _ => []
theorem enumD_len : ∀ (ds : List D) (k : Nat), (enumD k ds).length = ds.length
  | [], _ => rfl
  | d :: ds, k => by unfold enumD; rw [List.length_cons, enumD_len ds, List.length_cons]
theorem enumD_get : ∀ (ds : List D) (k i : Nat) (d : D), ds[i]? = some d → (enumD k ds)[i]? = some (.tup [.int ((k + i : Nat) : Int), d])
  | [], _, _, _, h => by simp at h
  | d :: ds, k, 0, e, h => by
    unfold enumD
    have h : some d = some e := by simpa using h
    cases h
    rfl
  | d :: ds, k, i + 1, e, h => by
    unfold enumD
    rw [List.getElem?_cons_succ, enumD_get ds (k + 1) i e (by simpa using h)]
    have e2 : k + 1 + i = k + (i + 1) := by omega
    rw [e2]
theorem zipD_len : ∀ (ds es : List D), (zipD ds es).length = min ds.length es.length
  | [], _ => by unfold zipD; simp
  | d :: ds, [] => by unfold zipD; simp
  | d :: ds, e :: es => by unfold zipD; rw [List.length_cons, zipD_len ds es, List.length_cons, List.length_cons]; omega
theorem zipD_get : ∀ (ds es : List D) (i : Nat) (d e : D), ds[i]? = some d → es[i]? = some e → (zipD ds es)[i]? = some (.tup [d, e])
  | [], _, _, _, _, h, _ => by simp at h
  | _ :: _, [], _, _, _, _, h => by simp at h
  | a :: ds, b :: es, 0, d, e, h1, h2 => by
    unfold zipD
    have h1 : some a = some d := by simpa using h1
    have h2 : some b = some e := by simpa using h2
    cases h1
    cases h2
    rfl
  | a :: ds, b :: es, i + 1, d, e, h1, h2 => by
    unfold zipD
    rw [List.getElem?_cons_succ]
    exact zipD_get ds es i d e (by simpa using h1) (by simpa using h2)
theorem pair_yes {F' H : Hp} {n : Nat} {T : Addr} {x y : V} {d e : D} (k : Wok W F' H n) (hT : H T = none) (h1 : Rep W.K W.pa F' x d) (h2 : Rep W.K W.pa F' y e) :
    ∃ F'' f, some (D.tup [d, e]) = some f ∧ New W F' H F'' (upd H T (.tup [x, y])) ∧ Rep W.K W.pa F'' (.ref T) f := by
  obtain ⟨g, r⟩ := new_tup k hT (.cons h1 (.cons h2 .nil))
  exact ⟨_, _, rfl, g, r⟩
theorem wd_enum (h : F a = some (.lst vs)) (r : Reps W.K W.pa F vs ds) : WalkD W F (Ite W.K a) (enumD 0 ds) :=
  WalkD.of walk_enum (by rw [enumD_len]; exact r.length.symm) (fun F' H n e k => SqL.of (k.sub _ _ (e _ _ h))) fun F' H n i v H' e k hi y => by
    obtain ⟨T, x, y, rfl, hT, rfl, hx, hy⟩ := y
    cases hx
    obtain ⟨d, h1, h2⟩ := (Reps.mono e r).get hy
    rw [enumD_get ds 0 i d h1, Nat.zero_add]
    exact pair_yes k hT (.int _) h2
theorem wd_enumT (h : SqT W.K F a vs) (r : Reps W.K W.pa F vs ds) : WalkD W F (Itet W.K a) (enumD 0 ds) := by
  refine ⟨fun F' H n i e k hi => ?_, fun F' H n e k => ⟨vs, same_sqT (e.trans k.sub) h, by rw [enumD_len]; exact r.length⟩, fun F' H n i v H' e k hi y => ?_⟩
  · rw [enumD_len, ← r.length] at hi
    exact ⟨vs, vs[i], same_sqT (e.trans k.sub) h, List.getElem?_eq_getElem hi⟩
  · obtain ⟨T, x, rfl, hT, rfl, hx⟩ := y
    obtain ⟨d, h1, h2⟩ := (Reps.mono e r).get (hx vs (same_sqT (e.trans k.sub) h))
    rw [enumD_get ds 0 i d h1, Nat.zero_add]
    exact pair_yes k hT (.int _) h2
theorem wd_zip (h : F a = some (.lst vs)) (r : Reps W.K W.pa F vs ds) (h' : F b = some (.lst ws)) (r' : Reps W.K W.pa F ws es) : WalkD W F (Itz W.K a b) (zipD ds es) :=
  WalkD.of (walk_zip rfl) (by rw [zipD_len, r.length, r'.length]) (fun F' H n e k => ⟨SqL.of (k.sub _ _ (e _ _ h)), SqL.of (k.sub _ _ (e _ _ h'))⟩) fun F' H n i v H' e k hi y => by
    obtain ⟨T, x, y, rfl, hT, rfl, hx, hy⟩ := y
    obtain ⟨d, h1, h2⟩ := (Reps.mono e r).get hx
    obtain ⟨d', h1', h2'⟩ := (Reps.mono e r').get hy
    rw [zipD_get ds es i d d' h1 h1']
    exact pair_yes k hT h2 h2'
end
structure DI (X : Cx) (tg iter : Expr) (wi : TI) (k : KA) : Prop where
  pe : PI X tg iter wi
  ok : ∀ (W : Wd) (F : Hp) (n : Nat) (S : List Sl) (σ : St) (H : Hp) (Q : List D → List Sl → Nat → Prop) (R : It → Hp → Prop), W.K = X.K → Abs W F n S σ H → k S n Q →
    (∀ J H' F' n' S' ds, Grow W S σ F H F' H' S' → Abs W F' n' S' σ H' → WalkD W F' J ds → Q ds S' n' → R J H') → wi σ H R
section
variable {X : Cx} {tg e e2 : Expr} {t : TE} {ts : TA} {k : KE} {ks : KA} {p pos tpos : Pos} {elts : List Expr} {kk : Nat}
/-- a list or a tuple -/
def iSeq (K : PySem.W.Frag) (tl : TE) : TI := fun σ H R => tl σ H fun x H1 => ∃ a, x = .ref a ∧ ((∃ xs, SqL K H1 a xs) ∧ R (Itl K a) H1 ∨ (∃ xs, SqT K H1 a xs) ∧ R (Itt K a) H1)
theorem pi_seq {tl : TE} (hl : PE X e tl) : PI X tg e (iSeq X.K tl) := by
  refine ⟨fun pins s σ H R I h => ?_⟩
  refine thn (hl.run pins s σ H _ I h) fun v s1 ⟨x, H1, I1, r1, q1⟩ => ?_
  obtain ⟨a, e, q⟩ := q1
  subst e
  cases r1
  have fr : ∀ b ∈ [s1.heap.objs.size], FpOk X pins H1 b := fun b hb => by
    have e : b = s1.heap.objs.size := List.mem_singleton.mp hb
    subst e
    exact I1.fpOk (Nat.le_refl _) (I1.hok.fresh (Nat.le_refl _))
  rcases q with ⟨⟨xs, hq⟩, q⟩ | ⟨⟨xs, hq⟩, q⟩
  · obtain ⟨its, rv, pl, hz⟩ := I1.list hq
    exact wpAny_pyIter_list pl.isList ⟨s1.heap.objs.size, _, _, _, H1, rfl, I1.kept (t' := s1.toks) fun b o e => Heap.get?_push_of_some _ e, turn_list a _, ⟨_, Heap.get?_push_size _ rfl, rfl, rfl⟩, fr, q⟩
  · obtain ⟨its, rv, pl, hz⟩ := I1.tuple hq
    exact wpAny_pyIter_tuple pl ⟨s1.heap.objs.size, _, _, _, H1, rfl, I1.kept (t' := s1.toks) fun b o e => Heap.get?_push_of_some _ e, turn_tuple a _, ⟨_, Heap.get?_push_size _ rfl, rfl, rfl⟩, fr, q⟩
def kIter (k : KE) : KA := fun S n Q => k S n fun d S1 n1 => match d with
  | .lst ds => Q ds S1 n1
  | .tup ds => Q ds S1 n1
  | _ => False
theorem di_seq (h : DE X e t k) : DI X tg e (iSeq X.K t) (kIter k) := by
  refine ⟨pi_seq h.pe, fun W F n S σ H Q R hK A q fin => ?_⟩
  refine h.ok W F n S σ H _ _ hK A q fun v H1 F1 n1 S1 d g1 A1 r q1 => ?_
  cases d <;> try exact False.elim q1
  case lst ds =>
    cases r with
    | lst h r => exact ⟨_, rfl, .inl ⟨⟨_, SqL.of (A1.w.sub _ _ h)⟩, hK ▸ fin _ H1 F1 n1 S1 ds g1 A1 (wd_list h r) q1⟩⟩
  case tup ds =>
    cases r with
    | tup h r => exact ⟨_, rfl, .inr ⟨⟨_, hK ▸ same_sqT A1.w.sub h⟩, hK ▸ fin _ H1 F1 n1 S1 ds g1 A1 (wd_tup h r) q1⟩⟩
def kRng1 (ks : KA) : KA := fun S n Q => ks S n fun ds S1 n1 => match ds with
  | [.int j] => (-1000000 ≤ j ∧ j ≤ 1000000) ∧ Q (rngD 0 j.toNat) S1 n1
  | _ => False
def kRng2 (ks : KA) : KA := fun S n Q => ks S n fun ds S1 n1 => match ds with
  | [.int i, .int j] => (-1000000 ≤ i ∧ i ≤ 1000000 ∧ -1000000 ≤ j ∧ j ≤ 1000000) ∧ Q (rngD i (j - i).toNat) S1 n1
  | _ => False
theorem di_rng1 (hm : X.mg "range" = none) (h : DA X [e] ts ks) (hg : Gl X "range" := by exact rfl) (hs : starEach [e] X.env = [(false, eval e X.env)] := by rfl) : DI X tg (.Call (.Name "range" p) [e] [] pos) (iRng1 ts) (kRng1 ks) := by
  refine ⟨pi_range1 hg hm h.pe hs, fun W F n S σ H Q R hK A q fin => ?_⟩
  refine h.ok W F n S σ H _ _ hK A q fun vs H1 F1 n1 S1 ds g1 A1 r q1 => ?_
  match ds, r, q1 with
  | [.int j], .cons (.int _) .nil, q1 => exact ⟨j, rfl, by omega, by omega, fin _ H1 F1 n1 S1 _ g1 A1 wd_range q1.2⟩
theorem di_rng2 (hm : X.mg "range" = none) (h : DA X [e, e2] ts ks) (hg : Gl X "range" := by exact rfl) (hs : starEach [e, e2] X.env = [(false, eval e X.env), (false, eval e2 X.env)] := by rfl) (hs2 : starEach [e2] X.env = [(false, eval e2 X.env)] := by rfl) :
    DI X tg (.Call (.Name "range" p) [e, e2] [] pos) (iRng2 ts) (kRng2 ks) := by
  refine ⟨pi_range2 hg hm h.pe hs hs2, fun W F n S σ H Q R hK A q fin => ?_⟩
  refine h.ok W F n S σ H _ _ hK A q fun vs H1 F1 n1 S1 ds g1 A1 r q1 => ?_
  match ds, r, q1 with
  | [.int i, .int j], .cons (.int _) (.cons (.int _) .nil), q1 => exact ⟨i, j, rfl, ⟨by omega, by omega, by omega, by omega⟩, fin _ H1 F1 n1 S1 _ g1 A1 wd_range q1.2⟩
def kEnum (ks : KA) : KA := fun S n Q => ks S n fun ds S1 n1 => match ds with
  | [.lst xs] => Q (enumD 0 xs) S1 n1
  | [.tup xs] => Q (enumD 0 xs) S1 n1
  | _ => False
theorem di_enum (hm : X.mg "enumerate" = none) (h : DA X [e] ts ks) (hg : Gl X "enumerate" := by exact rfl) (hs : starEach [e] X.env = [(false, eval e X.env)] := by rfl) : DI X (.Tuple elts kk tpos) (.Call (.Name "enumerate" p) [e] [] pos) (iEnumT X.K ts) (kEnum ks) := by
  refine ⟨pi_enumA hg hm h.pe hs, fun W F n S σ H Q R hK A q fin => ?_⟩
  refine h.ok W F n S σ H _ _ hK A q fun vs H1 F1 n1 S1 ds g1 A1 r q1 => ?_
  match ds, r, q1 with
  | [.lst xs], .cons (.lst h r) .nil, q1 => exact ⟨_, _, rfl, .inl ⟨SqL.of (A1.w.sub _ _ h), hK ▸ fin _ H1 F1 n1 S1 _ g1 A1 (wd_enum h r) q1⟩⟩
  | [.tup xs], .cons (.tup h r) .nil, q1 => exact ⟨_, _, rfl, .inr ⟨hK ▸ same_sqT A1.w.sub h, hK ▸ fin _ H1 F1 n1 S1 _ g1 A1 (wd_enumT h r) q1⟩⟩
def kZip (ks : KA) : KA := fun S n Q => ks S n fun ds S1 n1 => match ds with
  | [.lst xs, .lst ys] => Q (zipD xs ys) S1 n1
  | _ => False
theorem di_zip (hm : X.mg "zip" = none) (h : DA X [e, e2] ts ks) (hg : Gl X "zip" := by exact rfl) (hs : starEach [e, e2] X.env = (false, eval e X.env) :: starEach [e2] X.env := by rfl) (hpl : (backTo pos (starEach [e2] X.env)).any (·.1) = false := by rfl) :
    DI X (.Tuple elts kk tpos) (.Call (.Name "zip" p) [e, e2] [] pos) (iZip X.K ts) (kZip ks) := by
  refine ⟨pi_zip hg hm h.pe hs hpl, fun W F n S σ H Q R hK A q fin => ?_⟩
  refine h.ok W F n S σ H _ _ hK A q fun vs H1 F1 n1 S1 ds g1 A1 r q1 => ?_
  match ds, r, q1 with
  | [.lst xs, .lst ys], .cons (.lst h r) (.cons (.lst h' r') .nil), q1 =>
    exact ⟨_, _, _, _, rfl, SqL.of (A1.w.sub _ _ h), SqL.of (A1.w.sub _ _ h'), hK ▸ fin _ H1 F1 n1 S1 _ g1 A1 (wd_zip h r h' r') q1⟩
end
/-! ### targets -/
abbrev KG := D → List Sl → (List Sl → Prop) → Prop
abbrev KGs := List D → List Sl → (List Sl → Prop) → Prop
/-- the slots at sl alone may change -/
structure DG (X : Cx) (tg : Expr) (g : TG) (sl : List Nat) (kg : KG) : Prop where
  pe : PG X tg g
  ok : ∀ (W : Wd) (F : Hp) (n : Nat) (S : List Sl) (σ : St) (H : Hp) (v : V) (d : D) (Q : List Sl → Prop) (R : St → Hp → Prop), W.K = X.K → Abs W F n S σ H → Rep W.K W.pa F v d → kg d S Q →
    (∀ σ' S', Abs W F n S' σ' H → (∀ i, i ∉ sl → σ'[i]? = σ[i]? ∧ S'[i]? = S[i]?) → (∀ i ds, S'[i]? = some (.own ds) → S[i]? = some (.own ds) ∧ i ∉ sl) → Q S' → R σ' H) → g v σ H R
structure DGs (X : Cx) (tgs : List Expr) (g : TGs) (sl : List Nat) (kg : KGs) : Prop where
  pe : PGs X tgs g
  ok : ∀ (W : Wd) (F : Hp) (n : Nat) (S : List Sl) (σ : St) (H : Hp) (vs : List V) (ds : List D) (Q : List Sl → Prop) (R : St → Hp → Prop), W.K = X.K → Abs W F n S σ H → Reps W.K W.pa F vs ds → kg ds S Q →
    (∀ σ' S', Abs W F n S' σ' H → (∀ i, i ∉ sl → σ'[i]? = σ[i]? ∧ S'[i]? = S[i]?) → (∀ i ds, S'[i]? = some (.own ds) → S[i]? = some (.own ds) ∧ i ∉ sl) → Q S' → R σ' H) → g vs σ H R
section
variable {W : Wd} {F H : Hp} {n : Nat} {S : List Sl} {σ : St}
theorem Abs.set (A : Abs W F n S σ H) {v : V} {d : D} (r : Rep W.K W.pa F v d) (i : Nat) : Abs W F n (S.set i (.val d)) (σ.set i (some v)) H := by
  refine ⟨A.w, by rw [List.length_set, List.length_set]; exact A.len, fun j s u h1 h2 => ?_, fun j k p ds es h1 h2 h3 h4 => ?_⟩
  · by_cases e : j = i
    · subst e
      have hj : j < S.length := by
        have := (List.getElem?_eq_some_iff.mp h1).1
        rwa [List.length_set] at this
      rw [List.getElem?_set_self hj] at h1
      rw [List.getElem?_set_self (by rw [← A.len]; exact hj)] at h2
      cases h1
      cases h2
      exact r
    · rw [List.getElem?_set_ne (Ne.symm e)] at h1 h2
      exact A.sl j s u h1 h2
  · have nj : j ≠ i := fun e => by
      subst e
      have hj : j < S.length := by
        have := (List.getElem?_eq_some_iff.mp h1).1
        rwa [List.length_set] at this
      rw [List.getElem?_set_self hj] at h1
      cases h1
    have nk : k ≠ i := fun e => by
      subst e
      have hj : k < S.length := by
        have := (List.getElem?_eq_some_iff.mp h2).1
        rwa [List.length_set] at this
      rw [List.getElem?_set_self hj] at h2
      cases h2
    rw [List.getElem?_set_ne (Ne.symm nj)] at h1 h3
    rw [List.getElem?_set_ne (Ne.symm nk)] at h2 h4
    exact A.di j k p ds es h1 h2 h3 h4
end
theorem not_single {i j : Nat} (h : j ∉ [i]) : i ≠ j := fun e => h (e ▸ List.mem_singleton_self _)
section
variable {X : Cx} {t : Expr} {ts : List Expr} {g : TG} {gs : TGs} {sl sl2 : List Nat} {kg : KG} {kgs : KGs}
def gN (i : Nat) : KG := fun d S Q => Q (S.set i (.val d))
theorem dg_name {i : Nat} {x : Str} {pos : Pos} (h : PG X (.Name x pos) (gName i)) : DG X (.Name x pos) (gName i) [i] (gN i) := by
  refine ⟨h, fun W F n S σ H v d Q R hK A r q fin => ?_⟩
  refine fin _ _ (A.set r i) (fun j hj => ⟨List.getElem?_set_ne (not_single hj), List.getElem?_set_ne (not_single hj)⟩) (fun j ds hd => ?_) q
  by_cases e : j = i
  · subst e
    have hj : j < S.length := by
      have := (List.getElem?_eq_some_iff.mp hd).1
      rwa [List.length_set] at this
    rw [List.getElem?_set_self hj] at hd
    cases hd
  · rw [List.getElem?_set_ne (Ne.symm e)] at hd
    exact ⟨hd, fun z => e (List.mem_singleton.mp z)⟩
def gsNil : KGs := fun ds S Q => match ds with
  | [] => Q S
  | _ => False
def gsCons (kg : KG) (kgs : KGs) : KGs := fun ds S Q => match ds with
  | d :: r => kg d S fun S' => kgs r S' Q
  | _ => False
theorem dgs_nil : DGs X [] gNil [] gsNil := by
  refine ⟨pgs_nil, fun W F n S σ H vs ds Q R hK A r q fin => ?_⟩
  cases ds with
  | cons _ _ => exact False.elim q
  | nil => cases r; exact ⟨rfl, fin σ S A (fun _ _ => ⟨rfl, rfl⟩) (fun _ _ h => ⟨h, List.not_mem_nil⟩) q⟩
theorem dgs_cons (h : DG X t g sl kg) (h2 : DGs X ts gs sl2 kgs) (hp : PG X t g → PGs X ts gs → PGs X (t :: ts) (gCons g gs) := by intro a b; exact pgs_cons a b) : DGs X (t :: ts) (gCons g gs) (sl ++ sl2) (gsCons kg kgs) := by
  refine ⟨hp h.pe h2.pe, fun W F n S σ H vs ds Q R hK A r q fin => ?_⟩
  cases ds with
  | nil => exact False.elim q
  | cons d ds =>
    cases r with
    | cons r1 r2 =>
      refine ⟨_, _, rfl, h.ok W F n S σ H _ d _ _ hK A r1 q fun σ1 S1 A1 c1 o1 q1 => ?_⟩
      refine h2.ok W F n S1 σ1 H _ ds _ _ hK A1 r2 q1 fun σ2 S2 A2 c2 o2 q2 => ?_
      refine fin σ2 S2 A2 (fun i hi => ?_) (fun i es he => ?_) q2
      · have z1 : i ∉ sl := fun z => hi (List.mem_append_left _ z)
        have z2 : i ∉ sl2 := fun z => hi (List.mem_append_right _ z)
        exact ⟨(c2 i z2).1.trans (c1 i z1).1, (c2 i z2).2.trans (c1 i z1).2⟩
      · obtain ⟨y1, y2⟩ := o2 i es he
        obtain ⟨y3, y4⟩ := o1 i es y1
        exact ⟨y3, fun z => (List.mem_append.mp z).elim y4 y2⟩
def gTupD (m : Nat) (kgs : KGs) : KG := fun d S Q => match d with
  | .tup ds => ds.length = m ∧ kgs ds S Q
  | _ => False
theorem dg_tup {kk m : Nat} {pos : Pos} (h : DGs X ts gs sl kgs) (hp : PGs X ts gs → PG X (.Tuple ts kk pos) (gTup X.K m gs) := by intro a; exact pg_tup rfl a) : DG X (.Tuple ts kk pos) (gTup X.K m gs) sl (gTupD m kgs) := by
  refine ⟨hp h.pe, fun W F n S σ H v d Q R hK A r q fin => ?_⟩
  cases d <;> try exact False.elim q
  case tup ds =>
    cases r with
    | tup hq r => exact ⟨_, _, rfl, hK ▸ same_sqT A.w.sub hq, r.length.trans q.1, h.ok W F n S σ H _ ds Q R hK A r q.2 fin⟩
end
end DL
namespace DL
open PySem PySem.Spec PyProof.Rows L2
/-! ### list comprehensions -/
/-- the block's own slots forgotten -/
def wipeD (S : List Sl) : List Nat → List Sl
  | [] => S
  | v :: vs => (wipeD S vs).set v .no
def okW (S : List Sl) (vs : List Nat) : Bool := vs.all fun i => match S[i]? with
  | some (.own _) => false
  | _ => true
def kComps (kg : KG) (kt : KT) (ke : KE) (vs : List Nat) (Sc : List Sl) : List D → List D → Nat → (List D → Nat → Prop) → Prop
  | [], acc, n, Q => Q acc n
  | d :: ds, acc, n, Q => kg d Sc fun S2 => wipeD S2 vs = Sc ∧ kt S2 n fun b S3 n3 => S3 = S2 ∧
    if b = true then ke S2 n3 fun y S4 n4 => S4 = S2 ∧ kComps kg kt ke vs Sc ds (acc ++ [y]) n4 Q else kComps kg kt ke vs Sc ds acc n3 Q
def kComp (ki : KA) (kg : KG) (kt : KT) (ke : KE) (vs : List Nat) : KE := fun S n Q => ki S n fun ds S1 n1 => ds.length ≤ 1000000 ∧ okW S1 vs = true ∧
  kComps kg kt ke vs (wipeD S1 vs) ds [] n1 fun acc n2 => Q (.lst acc) S1 n2
def kYes : KT := fun S n Q => Q true S n
structure DTs (X : Cx) (ifs : List Expr) (t : TT) (k : KT) : Prop where
  pe : PTs X ifs t
  ok : SpT X.K t k
theorem dts_nil {X : Cx} : DTs X [] tYes kYes := ⟨pts_nil, fun W F n S σ H Q R hK A q fin => fin true H F n S .refl A q⟩
theorem dts_one {X : Cx} {c : Expr} {t : TT} {k : KT} (h : DT X c t k) : DTs X [c] t k := ⟨pts_one h.pe, h.ok⟩
section
theorem wipeD_len : ∀ (vs : List Nat) (S : List Sl), (wipeD S vs).length = S.length
  | [], _ => rfl
  | v :: vs, S => by unfold wipeD; rw [List.length_set, wipeD_len vs S]
theorem wipeD_in : ∀ {vs : List Nat} {S : List Sl} {i : Nat} {s : Sl}, i ∈ vs → (wipeD S vs)[i]? = some s → s = .no
  | [], _, _, _, h, _ => absurd h List.not_mem_nil
  | v :: vs, S, i, s, h, e => by
    unfold wipeD at e
    by_cases z : i = v
    · subst z
      have hi : i < (wipeD S vs).length := by
        have := (List.getElem?_eq_some_iff.mp e).1
        rwa [List.length_set] at this
      rw [List.getElem?_set_self hi] at e
      cases e
      rfl
    · rw [List.getElem?_set_ne (Ne.symm z)] at e
      rcases List.mem_cons.mp h with q | q
      · exact absurd q z
      · exact wipeD_in q e
theorem wipeD_out : ∀ {vs : List Nat} {S : List Sl} {i : Nat}, i ∉ vs → (wipeD S vs)[i]? = S[i]?
  | [], _, _, _ => rfl
  | v :: vs, S, i, h => by
    unfold wipeD
    have z : i ≠ v := fun e => h (e ▸ List.mem_cons_self ..)
    rw [List.getElem?_set_ne (Ne.symm z)]
    exact wipeD_out fun q => h (List.mem_cons_of_mem _ q)
theorem wipe_in : ∀ {vs : List Nat} {σ : St} {i : Nat} {v : Option V}, i ∈ vs → (wipe σ vs)[i]? = some v → v = none
  | [], _, _, _, h, _ => absurd h List.not_mem_nil
  | w :: vs, σ, i, s, h, e => by
    unfold wipe at e
    by_cases z : i = w
    · subst z
      have hi : i < (wipe σ vs).length := by
        have := (List.getElem?_eq_some_iff.mp e).1
        rwa [List.length_set] at this
      rw [List.getElem?_set_self hi] at e
      cases e
      rfl
    · rw [List.getElem?_set_ne (Ne.symm z)] at e
      rcases List.mem_cons.mp h with q | q
      · exact absurd q z
      · exact wipe_in q e
theorem wipe_none {vs : List Nat} {σ : St} {i : Nat} (h : i ∈ vs) (hi : i < σ.length) : (wipe σ vs)[i]? = some none := by
  have hj : i < (wipe σ vs).length := by rw [wipe_length]; exact hi
  have e := List.getElem?_eq_getElem hj
  have e2 := wipe_in h e
  rw [e, e2]
/-- states that agree outside vs are wiped to the same one -/
theorem wipe_eq {vs : List Nat} {σ σ2 : St} (hl : σ2.length = σ.length) (h : ∀ i, i ∉ vs → σ2[i]? = σ[i]?) : wipe σ2 vs = wipe σ vs := by
  apply List.ext_getElem?
  intro i
  by_cases z : i ∈ vs
  · by_cases hi : i < σ.length
    · rw [wipe_none z hi, wipe_none z (by rw [hl]; exact hi)]
    · rw [List.getElem?_eq_none (by rw [wipe_length, hl]; omega), List.getElem?_eq_none (by rw [wipe_length]; omega)]
  · rw [wipe_out z, wipe_out z]
    exact h i z
variable {W : Wd} {F H : Hp} {n : Nat} {S : List Sl} {σ : St}
theorem Abs.wipe (A : Abs W F n S σ H) (vs : List Nat) : Abs W F n (wipeD S vs) (L2.wipe σ vs) H := by
  refine ⟨A.w, by rw [wipeD_len, wipe_length]; exact A.len, fun i s v h1 h2 => ?_, fun i j p ds es h1 h2 h3 h4 => ?_⟩
  · by_cases z : i ∈ vs
    · rw [wipeD_in z h1]; trivial
    · rw [wipeD_out z] at h1
      rw [wipe_out z] at h2
      exact A.sl i s v h1 h2
  · have zi : i ∉ vs := fun z => by have := wipeD_in z h1; cases this
    have zj : j ∉ vs := fun z => by have := wipeD_in z h2; cases this
    rw [wipeD_out zi] at h1
    rw [wipe_out zi] at h3
    rw [wipeD_out zj] at h2
    rw [wipe_out zj] at h4
    exact A.di i j p ds es h1 h2 h3 h4
theorem own_wipe {vs : List Nat} {a : Addr} (h : OwnA (wipeD S vs) (L2.wipe σ vs) a) : OwnA S σ a := by
  obtain ⟨i, ds, h1, h2⟩ := h
  have zi : i ∉ vs := fun z => by have := wipeD_in z h1; cases this
  rw [wipeD_out zi] at h1
  rw [wipe_out zi] at h2
  exact ⟨i, ds, h1, h2⟩
/-- behind the block: what stood in the slots stands -/
theorem Abs.back {F' H' : Hp} {n' : Nat} {vs : List Nat} (A : Abs W F n S σ H) (ok : okW S vs = true) (f : Same F F') (A' : Abs W F' n' (wipeD S vs) (L2.wipe σ vs) H') : Abs W F' n' S σ H' := by
  refine ⟨A'.w, A.len, fun i s v h1 h2 => ?_, A.di⟩
  by_cases z : i ∈ vs
  · have q := A.sl i s v h1 h2
    cases s with
    | no => trivial
    | val d =>
      cases v with
      | none => exact q.elim
      | some v => exact Rep.mono f q
    | own ds =>
      unfold okW at ok
      have := List.all_eq_true.mp ok i z
      rw [h1] at this
      cases this
  · exact A'.sl i s v (by rw [wipeD_out z]; exact h1) (by rw [wipe_out z]; exact h2)
/-- a list that stands apart from all slots is frozen -/
theorem Abs.shut {D0 : Addr} {ws : List V} (A : Abs W F n S σ H) (hF : F D0 = none) (hD : H D0 = some (.lst ws)) (hp : pad W.pa ≠ some D0) (h0 : W.H0 D0 = none) (no : ¬ OwnA S σ D0) : Abs W (upd F D0 (.lst ws)) n S σ H := by
  have sm : Same F (upd F D0 (.lst ws)) := same_new hF
  refine ⟨⟨fun a u z => ?_, fun q z => ?_, A.w.old, A.w.oldp, A.w.f0.trans sm, fun a u z => ?_⟩, A.len, fun j s v z1 z2 => ?_, A.di⟩
  · by_cases y : a = D0
    · subst y; rw [upd_same] at z; rw [hD]; exact z
    · rw [upd_ne y] at z; exact A.w.sub _ _ z
  · obtain ⟨y1, ca, turn, rst, y2, y3, y4⟩ := A.w.pen q z
    refine ⟨?_, ca, turn, rst, y2, sm _ _ y3, y4⟩
    have nq : q ≠ D0 := fun y => hp (y ▸ z)
    rw [upd_ne nq]
    exact y1
  · by_cases y : a = D0
    · subst y; exact .inr h0
    · rw [upd_ne y] at z; exact A.w.nf _ _ z
  · have ok := A.sl j s v z1 z2
    cases s with
    | no => trivial
    | val d =>
      cases v with
      | none => exact ok.elim
      | some v => exact Rep.mono sm ok
    | own es =>
      cases v with
      | none => exact ok.elim
      | some v =>
        cases v with
        | ref q =>
          obtain ⟨k1, k2, k3, ws', k4, k5⟩ := ok
          have nq : q ≠ D0 := fun x => no ⟨j, es, z1, x ▸ z2⟩
          exact ⟨by rw [upd_ne nq]; exact k1, k2, k3, ws', k4, Reps.mono sm k5⟩
        | _ => exact ok.elim
/-- a list that is written and stands apart from all -/
theorem Abs.put {D0 : Addr} {ws us : List V} (A : Abs W F n S σ H) (hF : F D0 = none) (hD : H D0 = some (.lst ws)) (hp : pad W.pa ≠ some D0) (h0 : W.H0 D0 = none) (no : ¬ OwnA S σ D0) : Abs W F n S σ (upd H D0 (.lst us)) := by
  have far : ∀ a o, F a = some o → a ≠ D0 := fun a o h e => by rw [e, hF] at h; cases h
  refine ⟨⟨fun a u z => ?_, fun q z => ?_, fun a u z p => ?_, fun p z => ?_, A.w.f0, A.w.nf⟩, A.len, fun j s v z1 z2 => ?_, A.di⟩
  · rw [upd_ne (far _ _ z)]; exact A.w.sub _ _ z
  · obtain ⟨y1, ca, turn, rst, y2, y3⟩ := A.w.pen q z
    have nq : q ≠ D0 := fun y => hp (y ▸ z)
    exact ⟨y1, ca, turn, rst, by rw [upd_ne nq]; exact y2, y3⟩
  · have na : a ≠ D0 := fun y => by rw [y, h0] at z; cases z
    rw [upd_ne na]; exact A.w.old _ _ z p
  · have nq : p ≠ D0 := fun y => hp (y ▸ z)
    rw [upd_ne nq]; exact A.w.oldp p z
  · have ok := A.sl j s v z1 z2
    cases s with
    | no => trivial
    | val d =>
      cases v with
      | none => exact ok.elim
      | some v => exact ok
    | own es =>
      cases v with
      | none => exact ok.elim
      | some v =>
        cases v with
        | ref q =>
          obtain ⟨k1, k2, k3, ws', k4, k5⟩ := ok
          have nq : q ≠ D0 := fun x => no ⟨j, es, z1, x ▸ z2⟩
          exact ⟨k1, k2, k3, ws', by rw [upd_ne nq]; exact k4, k5⟩
        | _ => exact ok.elim
theorem Abs.ownH (A : Abs W F n S σ H) {a : Addr} (h : OwnA S σ a) : ∃ vs, H a = some (.lst vs) := by
  obtain ⟨i, ds, h1, h2⟩ := h
  obtain ⟨_, _, _, vs, h4, _⟩ := A.sl i _ _ h1 h2
  exact ⟨vs, h4⟩
end
/-- what holds between two turns of a comprehension: the new list stands at D0 -/
structure CompIn (W : Wd) (F1 : Hp) (H1 : Hp) (S1 : List Sl) (σ : St) (vs : List Nat) (D0 : Addr) (kg : KG) (kt : KT) (ke : KE) (Q : List D → Nat → Prop) (i : Nat) (ds : List D) (H : Hp) : Prop where
  ex : ∃ (F : Hp) (n : Nat) (us : List V) (acc : List D), Same F1 F ∧ (∀ a o, H1 a = some o → pad W.pa ≠ some a → H a = some o) ∧ (∀ a, H a = none → H1 a = none) ∧ (∀ a o, F a = some o → F1 a = some o ∨ H1 a = none) ∧ Abs W F n (wipeD S1 vs) (wipe σ vs) H ∧
    F D0 = none ∧ H D0 = some (.lst us) ∧ Reps W.K W.pa F us acc ∧ acc.length ≤ i ∧ kComps kg kt ke vs (wipeD S1 vs) ds acc n Q
/-- the reading of a comprehension, up to what is done with the new list: it stands at D0, not frozen -/
theorem lc_read {K : PySem.W.Frag} {wi : TI} {g : TG} {tt : TT} {te : TE} {ki : KA} {kg : KG} {kt : KT} {ke : KE} {vs sl : List Nat}
    (hi : ∀ (W : Wd) (F : Hp) (n : Nat) (S : List Sl) (σ : St) (H : Hp) (Q : List D → List Sl → Nat → Prop) (R : It → Hp → Prop), W.K = K → Abs W F n S σ H → ki S n Q →
      (∀ J H' F' n' S' ds, Grow W S σ F H F' H' S' → Abs W F' n' S' σ H' → WalkD W F' J ds → Q ds S' n' → R J H') → wi σ H R)
    (hg : ∀ (W : Wd) (F : Hp) (n : Nat) (S : List Sl) (σ : St) (H : Hp) (v : V) (d : D) (Q : List Sl → Prop) (R : St → Hp → Prop), W.K = K → Abs W F n S σ H → Rep W.K W.pa F v d → kg d S Q →
      (∀ σ' S', Abs W F n S' σ' H → (∀ i, i ∉ sl → σ'[i]? = σ[i]? ∧ S'[i]? = S[i]?) → (∀ i ds, S'[i]? = some (.own ds) → S[i]? = some (.own ds) ∧ i ∉ sl) → Q S' → R σ' H) → g v σ H R)
    (hsl : ∀ i ∈ sl, i ∈ vs) (ht : SpT K tt kt) (he : SpE K te ke)
    (W : Wd) (F : Hp) (n : Nat) (S : List Sl) (σ : St) (H : Hp) (Q : D → List Sl → Nat → Prop) (R : VK) (hK : W.K = K) (A : Abs W F n S σ H) (q : kComp ki kg kt ke vs S n Q)
    (fin : ∀ D0 us acc H' F' n' S', Grow W S σ F H F' H' S' → Abs W F' n' S' σ H' → F' D0 = none → W.H0 D0 = none → pad W.pa ≠ some D0 → H' D0 = some (.lst us) → Reps W.K W.pa F' us acc → ¬ OwnA S' σ D0 → H D0 = none → Q (.lst acc) S' n' → R (.ref D0) H') :
    tLc wi g tt te vs σ H R := by
  refine hi W F n S σ H _ _ hK A q fun J H1 F1 n1 S1 ds g1 A1 wk q1 => ?_
  obtain ⟨len, ok, q1⟩ := q1
  intro D0 hD
  obtain ⟨fD, h0D, pD⟩ := A1.w.fresh hD
  have noD : ¬ OwnA S1 σ D0 := fun z => by
    obtain ⟨ws, e⟩ := A1.ownH z
    rw [hD] at e; cases e
  have hDH : H D0 = none := g1.hn D0 hD
  refine ⟨fun i m H => m = ds.length - i ∧ i ≤ ds.length ∧ CompIn W F1 H1 S1 σ vs D0 kg kt ke (fun acc n2 => Q (.lst acc) S1 n2) i (ds.drop i) H, ⟨ds.length, by simp, Nat.zero_le _, ⟨F1, n1, [], [], Same.refl _, fun a o h _ => same_new hD a o h, fun a h => ?_, fun _ _ h => .inl h,
    (A1.new (New.free A1.w hD _)).wipe vs, fD, upd_same, .nil, Nat.zero_le _, by rw [List.drop_zero]; exact q1⟩⟩, ?_⟩
  · by_cases y : a = D0
    · rw [y, upd_same] at h; cases h
    · rw [upd_ne y] at h; exact h
  rintro i m H2 ⟨rfl, hi2, ⟨F2, n2, us, acc, f2, h2, hn2, nf2, A2, fD2, hD2, r2, la, q2⟩⟩
  have noD2 : ¬ OwnA (wipeD S1 vs) (wipe σ vs) D0 := fun z => noD (own_wipe z)
  by_cases hlt : i < ds.length
  · have ed : ds.drop i = ds[i] :: ds.drop (i + 1) := List.drop_eq_getElem_cons hlt
    rw [ed] at q2
    refine .inr ⟨wk.goes F2 H2 n2 i f2 A2.w hlt, fun H' => CompIn W F1 H1 S1 σ vs D0 kg kt ke (fun acc n2 => Q (.lst acc) S1 n2) (i + 1) (ds.drop (i + 1)) H', fun H' p => ⟨ds.length - (i + 1), by omega, rfl, hlt, p⟩, fun x H' y => ?_⟩
    obtain ⟨F3, d, hd, g3, r3⟩ := wk.yields F2 H2 n2 i x H' f2 A2.w hlt y
    have ed2 : d = ds[i] := Option.some.inj (hd.symm.trans (List.getElem?_eq_getElem hlt))
    subst ed2
    have A3 := A2.new g3
    refine hg W F3 n2 _ _ H' x _ _ _ hK A3 r3 q2 fun σ2 S2 A4 c4 o4 q4 => ?_
    obtain ⟨w4, q4⟩ := q4
    have wσ : wipe σ2 vs = wipe σ vs := by
      have e1 : wipe σ2 vs = wipe (wipe σ vs) vs := by
        refine wipe_eq ?_ fun j hj => (c4 j fun z => hj (hsl j z)).1
        rw [← A4.len, ← (show (wipeD S2 vs).length = S2.length from wipeD_len _ _), w4, A3.len]
      have e2 : wipe (wipe σ vs) vs = wipe σ vs := wipe_eq (wipe_length _ _) fun j hj => wipe_out hj
      exact e1.trans e2
    refine ⟨wσ, ?_⟩
    have noD4 : ¬ OwnA S2 σ2 D0 := fun ⟨j, es, z1, z2⟩ => by
      obtain ⟨y1, y2⟩ := o4 j es z1
      exact noD2 ⟨j, es, y1, (c4 j y2).1 ▸ z2⟩
    -- what follows once a turn is through
    have next : ∀ (F5 H5 : Hp) (n5 : Nat) (acc5 : List D) (us5 : List V), Grow W S2 σ2 F3 H' F5 H5 S2 → Abs W F5 n5 S2 σ2 H5 → H5 D0 = some (.lst us) → ∀ zs, Reps W.K W.pa F5 (us ++ us5) zs → zs.length ≤ i + 1 →
        kComps kg kt ke vs (wipeD S1 vs) (ds.drop (i + 1)) zs n5 (fun acc n2 => Q (.lst acc) S1 n2) → CompIn W F1 H1 S1 σ vs D0 kg kt ke (fun acc n2 => Q (.lst acc) S1 n2) (i + 1) (ds.drop (i + 1)) (upd H5 D0 (.lst (us ++ us5))) := by
      intro F5 H5 n5 acc5 us5 g5 A5 hD5 zs r5 l5 q5
      have fD5 : F5 D0 = none := by
        cases e : F5 D0 with
        | none => rfl
        | some o =>
          rcases g5.nf D0 o e with z | z | z
          · rcases g3.nw D0 o z with z | z
            · rw [fD2] at z; cases z
            · rw [hD2] at z; cases z
          · rw [g3.h _ _ hD2] at z; cases z
          · exact absurd z noD4
      have A6 : Abs W F5 n5 (wipeD S1 vs) (wipe σ vs) H5 := by
        have := A5.wipe vs
        rw [w4, wσ] at this
        exact this
      refine ⟨F5, n5, us ++ us5, zs, f2.trans (g3.f.trans g5.f), fun a o h p => ?_, fun a h => ?_, fun a o h => ?_, A6.put fD5 hD5 pD h0D noD2, fD5, upd_same, r5, l5, q5⟩
      · have na : a ≠ D0 := fun e => by rw [e, hD] at h; cases h
        rw [upd_ne na]
        exact g5.h a o (g3.h a o (h2 a o h p)) p
      · by_cases y : a = D0
        · rw [y, upd_same] at h; cases h
        · rw [upd_ne y] at h
          refine hn2 a ?_
          cases e : H2 a with
          | none => rfl
          | some o =>
            have := g5.hn a h
            rw [g3.h _ _ e] at this; cases this
      · rcases g5.nf a o h with z | z | z
        · rcases g3.nw a o z with z | z
          · exact nf2 a o z
          · exact .inr (hn2 a z)
        · refine .inr (hn2 a ?_)
          cases e : H2 a with
          | none => rfl
          | some o => rw [g3.h _ _ e] at z; cases z
        · obtain ⟨j, es, z1, z2⟩ := z
          obtain ⟨y1, y2⟩ := o4 j es z1
          have zo : OwnA (wipeD S1 vs) (wipe σ vs) a := ⟨j, es, y1, (c4 j y2).1 ▸ z2⟩
          have z3 : OwnA S2 σ2 a := ⟨j, es, z1, z2⟩
          obtain ⟨k1, _⟩ := A5.sl j _ _ z1 z2
          rw [k1] at h; cases h
    refine ht W F3 n2 S2 σ2 H' _ _ hK A4 q4 fun b H4 F4 n4 S4 g4 A5 q5 => ?_
    obtain ⟨e5, q5⟩ := q5
    subst e5
    have hD4 : H4 D0 = some (.lst us) := g4.h _ _ (g3.h _ _ hD2) pD
    cases b with
    | false =>
      have r5 : Reps W.K W.pa F4 (us ++ []) acc := by rw [List.append_nil]; exact Reps.mono (g3.f.trans g4.f) r2
      have := next F4 H4 n4 acc [] g4 A5 hD4 acc r5 (by omega) (by simpa using q5)
      have e : upd H4 D0 (.lst (us ++ [])) = H4 := by
        funext a
        unfold upd
        by_cases y : a = D0
        · rw [if_pos y, y, hD4, List.append_nil]
        · rw [if_neg y]
      rw [e] at this
      exact iteF this
    | true =>
      have q5 : ke S4 n4 fun y S5 n5 => S5 = S4 ∧ kComps kg kt ke vs (wipeD S1 vs) (ds.drop (i + 1)) (acc ++ [y]) n5 (fun acc n2 => Q (.lst acc) S1 n2) := by simpa using q5
      refine iteT (he W F4 n4 S4 σ2 H4 _ _ hK A5 q5 fun y H5 F5 n5 S5 d5 g5 A6 r6 q6 => ?_)
      obtain ⟨e6, q6⟩ := q6
      subst e6
      have hD5 : H5 D0 = some (.lst us) := g5.h _ _ hD4 pD
      have r7 : Reps W.K W.pa F5 (us ++ [y]) (acc ++ [d5]) := Reps.append (Reps.mono (g3.f.trans (g4.f.trans g5.f)) r2) (.cons r6 .nil)
      have lu : us.length = acc.length := r2.length
      exact ⟨us, hD5, by rw [lu]; exact big_lt (by omega), next F5 H5 n5 acc [y] (g4.trans g5) A6 hD5 _ r7 (by rw [List.length_append, List.length_singleton]; omega) q6⟩
  · have e : i = ds.length := by omega
    subst e
    rw [List.drop_length] at q2
    have A3 := A1.back ok f2 A2
    refine .inl ⟨wk.stops F2 H2 n2 f2 A2.w, ?_⟩
    refine fin D0 us acc H2 F2 n2 S1 (g1.trans ⟨f2, h2, hn2, fun a o h => ?_, fun _ h => h⟩) A3 fD2 h0D pD hD2 r2 noD hDH q2
    rcases nf2 a o h with z | z
    · exact .inl z
    · exact .inr (.inl z)
end DL
namespace DL
open PySem PySem.Spec PyProof.Rows L2
section
variable {X : Cx}
/-! ### comprehensions as expressions; lists of one's own -/
theorem Grow.shut {W : Wd} {S S' : List Sl} {σ : St} {F H F' H' : Hp} {D0 : Addr} {us : List V} (g : Grow W S σ F H F' H' S') (hF : F' D0 = none) (hD : H D0 = none) : Grow W S σ F H (upd F' D0 (.lst us)) H' S' :=
  ⟨g.f.trans (same_new hF), g.h, g.hn, fun a o h => by
    by_cases y : a = D0
    · subst y; exact .inr (.inl hD)
    · rw [upd_ne y] at h; exact g.nf a o h, g.os⟩
/-- a new list that stands apart, not frozen -/
abbrev SpO (K : PySem.W.Frag) (t : TE) (k : KA) : Prop :=
  ∀ (W : Wd) (F : Hp) (n : Nat) (S : List Sl) (σ : St) (H : Hp) (Q : List D → List Sl → Nat → Prop) (R : VK), W.K = K → Abs W F n S σ H → k S n Q →
    (∀ D0 us acc H' F' n' S', Grow W S σ F H F' H' S' → Abs W F' n' S' σ H' → F' D0 = none → W.H0 D0 = none → pad W.pa ≠ some D0 → H' D0 = some (.lst us) → Reps W.K W.pa F' us acc → ¬ OwnA S' σ D0 → H D0 = none → Q acc S' n' → R (.ref D0) H') → t σ H R
structure DOw (X : Cx) (e : Expr) (t : TE) (k : KA) : Prop where
  pe : PE X e t
  ok : SpO X.K t k
def kOut (k : KA) : KE := fun S n Q => k S n fun ds S1 n1 => Q (.lst ds) S1 n1
theorem SpO.e {K : PySem.W.Frag} {t : TE} {k : KA} (h : SpO K t k) : SpE K t (kOut k) := by
  intro W F n S σ H Q R hK A q fin
  refine h W F n S σ H _ _ hK A q fun D0 us acc H' F' n' S' g A' hF h0 hp hD r no hn q' => ?_
  exact fin _ H' (upd F' D0 (.lst us)) n' S' (.lst acc) (g.shut hF hn) (A'.shut hF hD hp h0 no) (.lst upd_same (Reps.mono (same_new hF) r)) q'
theorem DOw.e {e : Expr} {t : TE} {k : KA} (h : DOw X e t k) : DE X e t (kOut k) := ⟨h.pe, h.ok.e⟩
def kLstO (ks : KA) : KA := fun S n Q => ks S n fun ds S1 n1 => ds.length ≤ 1000000 ∧ Q ds S1 n1
theorem dow_lst {es : List Expr} {ts : TA} {ks : KA} {pos : Pos} (h : DA X es ts ks) : DOw X (.List es pos) (tLst ts) (kLstO ks) := by
  refine ⟨pe_lst h.pe, fun W F n S σ H Q R hK A q fin => ?_⟩
  refine h.ok W F n S σ H _ _ hK A q fun vs H1 F1 n1 S1 ds g1 A1 r q1 => ?_
  refine ⟨by rw [r.length]; exact big_ok q1.1, fun p hp => ?_⟩
  obtain ⟨f1, f2, f3⟩ := A1.w.fresh hp
  have g2 := New.free A1.w hp (.lst vs)
  refine fin p vs ds _ F1 n1 S1 (g1.trans g2.grow) (A1.new g2) f1 f2 f3 upd_same r (fun z => ?_) (g1.hn p hp) q1.2
  obtain ⟨ws, e⟩ := A1.ownH z
  rw [hp] at e; cases e
def kCompO (ki : KA) (kg : KG) (kt : KT) (ke : KE) (vs : List Nat) : KA := fun S n Q => ki S n fun ds S1 n1 => ds.length ≤ 1000000 ∧ okW S1 vs = true ∧
  kComps kg kt ke vs (wipeD S1 vs) ds [] n1 fun acc n2 => Q acc S1 n2
/-- the parts of a comprehension -/
structure DLc (X : Cx) (elt tg iter : Expr) (ifs : List Expr) (scope : Scope) (own : List (Str × Nat)) (wi : TI) (g : TG) (tt : TT) (te : TE) (ki : KA) (kg : KG) (kt : KT) (ke : KE) : Prop where
  hN : X.N.Nodup
  hi : DI X tg iter wi ki
  blk : BlkOk X.N X.env.scope scope own
  hg : ∀ (s : Shared) (H : Hp) (C : Addr) (cl : List (Str × Addr)) (fp : List Addr), PG (X.blk s H scope (compEnvC scope cl C X.env) fp) tg g
  ht : ∀ (s : Shared) (H : Hp) (C : Addr) (cl : List (Str × Addr)) (fp : List Addr), PTs (X.blk s H scope (compEnvC scope cl C X.env) fp) ifs tt
  he : ∀ (s : Shared) (H : Hp) (C : Addr) (cl : List (Str × Addr)) (fp : List Addr), PE (X.blk s H scope (compEnvC scope cl C X.env) fp) elt te
  ok : ∀ (W : Wd) (F : Hp) (n : Nat) (S : List Sl) (σ : St) (H : Hp) (Q : D → List Sl → Nat → Prop) (R : VK), W.K = X.K → Abs W F n S σ H → kComp ki kg kt ke (own.map (·.2)) S n Q →
    (∀ D0 us acc H' F' n' S', Grow W S σ F H F' H' S' → Abs W F' n' S' σ H' → F' D0 = none → W.H0 D0 = none → pad W.pa ≠ some D0 → H' D0 = some (.lst us) → Reps W.K W.pa F' us acc → ¬ OwnA S' σ D0 → H D0 = none → Q (.lst acc) S' n' → R (.ref D0) H') →
    tLc wi g tt te (own.map (·.2)) σ H R
variable {elt tg iter : Expr} {ifs : List Expr} {scope : Scope} {own : List (Str × Nat)} {wi : TI} {g : TG} {tt : TT} {te : TE} {ki : KA} {kg : KG} {kt : KT} {ke : KE} {sl : List Nat}
theorem dlc_mk (hN : X.N.Nodup) (hi : DI X tg iter wi ki) (blk : BlkOk X.N X.env.scope scope own) (_ : DG (X.blk X.s_0 X.H_0 scope (compEnvC scope [] 0 X.env) []) tg g sl kg) (_ : DTs (X.blk X.s_0 X.H_0 scope (compEnvC scope [] 0 X.env) []) ifs tt kt) (_ : DE (X.blk X.s_0 X.H_0 scope (compEnvC scope [] 0 X.env) []) elt te ke)
    (hg : ∀ (s : Shared) (H : Hp) (C : Addr) (cl : List (Str × Addr)) (fp : List Addr), DG (X.blk s H scope (compEnvC scope cl C X.env) fp) tg g sl kg)
    (ht : ∀ (s : Shared) (H : Hp) (C : Addr) (cl : List (Str × Addr)) (fp : List Addr), DTs (X.blk s H scope (compEnvC scope cl C X.env) fp) ifs tt kt)
    (he : ∀ (s : Shared) (H : Hp) (C : Addr) (cl : List (Str × Addr)) (fp : List Addr), DE (X.blk s H scope (compEnvC scope cl C X.env) fp) elt te ke) (hsl : ∀ i ∈ sl, i ∈ own.map (·.2) := by decide) : DLc X elt tg iter ifs scope own wi g tt te ki kg kt ke :=
  ⟨hN, hi, blk, fun s H C cl fp => (hg s H C cl fp).pe, fun s H C cl fp => (ht s H C cl fp).pe, fun s H C cl fp => (he s H C cl fp).pe,
    lc_read hi.ok (hg X.s_0 X.H_0 0 [] []).ok hsl (ht X.s_0 X.H_0 0 [] []).ok (he X.s_0 X.H_0 0 [] []).ok⟩
theorem dow_lc {pos : Pos} (h : DLc X elt tg iter ifs scope own wi g tt te ki kg kt ke) (hc : X.calm = true := by rfl) (hs : ∀ x, foldedSetIterable iter X.env x = pure x := by intro _; rfl) :
    DOw X (.ListComp elt [⟨tg, iter, ifs, 0⟩] scope pos) (tLc wi g tt te (own.map (·.2))) (kCompO ki kg kt ke (own.map (·.2))) := by
  refine ⟨pe_lc hc h.hN h.hi.pe h.blk h.hg h.ht h.he hs, fun W F n S σ H Q R hK A q fin => ?_⟩
  exact h.ok W F n S σ H (fun d S1 n1 => match d with | .lst ds => Q ds S1 n1 | _ => False) R hK A q fin
/-! ### statements -/
structure DEnds where
  nx : List Sl → Nat → Prop
  rt : D → Nat → Prop
  bk : List Sl → Nat → Prop := fun _ _ => False
  ct : List Sl → Nat → Prop := fun _ _ => False
abbrev KS := DEnds → List Sl → Nat → Prop
structure EndsOk (W : Wd) (F : Hp) (E : DEnds) (R : Ends) : Prop where
  nx : ∀ F' n' S' σ' H', Same F F' → Abs W F' n' S' σ' H' → E.nx S' n' → R.nx σ' H'
  rt : ∀ F' n' v d H', Same F F' → Wok W F' H' n' → Rep W.K W.pa F' v d → E.rt d n' → R.rt v H'
  bk : ∀ F' n' S' σ' H', Same F F' → Abs W F' n' S' σ' H' → E.bk S' n' → R.bk σ' H'
  ct : ∀ F' n' S' σ' H', Same F F' → Abs W F' n' S' σ' H' → E.ct S' n' → R.ct σ' H'
theorem EndsOk.mono {W : Wd} {F F1 : Hp} {E : DEnds} {R : Ends} (h : EndsOk W F E R) (f : Same F F1) : EndsOk W F1 E R :=
  ⟨fun F' n' S' σ' H' g => h.nx F' n' S' σ' H' (f.trans g), fun F' n' v d H' g => h.rt F' n' v d H' (f.trans g), fun F' n' S' σ' H' g => h.bk F' n' S' σ' H' (f.trans g), fun F' n' S' σ' H' g => h.ct F' n' S' σ' H' (f.trans g)⟩
abbrev SpS (K : PySem.W.Frag) (t : TS) (k : KS) : Prop :=
  ∀ (W : Wd) (F : Hp) (n : Nat) (S : List Sl) (σ : St) (H : Hp) (E : DEnds) (R : Ends), W.K = K → Abs W F n S σ H → k E S n → EndsOk W F E R → t R σ H
structure DS (X : Cx) (st : Stmt) (t : TS) (k : KS) : Prop where
  pe : PS X st t
  ok : SpS X.K t k
structure DSs (X : Cx) (st : List Stmt) (t : TS) (k : KS) : Prop where
  pe : PSs X st t
  ok : SpS X.K t k
def kNext : KS := fun E S n => E.nx S n
def kSeq (k1 k2 : KS) : KS := fun E S n => k1 { E with nx := k2 E } S n
def kNever : KS := fun _ _ _ => False
variable {st : Stmt} {sts sts2 : List Stmt} {t t1 t2 : TS} {k1 k2 : KS} {pos : Pos}
theorem dss_nil : DSs X [] tNext kNext := ⟨pss_nil, fun W F n S σ H E R hK A q fin => fin.nx F n S σ H (Same.refl _) A q⟩
theorem dss_cons (h1 : DS X st t1 k1) (h2 : DSs X sts t2 k2) : DSs X (st :: sts) (tSeq t1 t2) (kSeq k1 k2) := by
  refine ⟨pss_cons h1.pe h2.pe, fun W F n S σ H E R hK A q fin => ?_⟩
  exact h1.ok W F n S σ H { E with nx := k2 E } { R with nx := t2 R } hK A q ⟨fun F' n' S' σ' H' f A' q' => h2.ok W F' n' S' σ' H' E R hK A' q' (fin.mono f), fin.rt, fin.bk, fin.ct⟩
theorem dss_one (h1 : DS X st t1 k1) : DSs X [st] t1 k1 := ⟨pss_one h1.pe, h1.ok⟩
theorem ds_pass : DS X (.Pass pos) tNext kNext := ⟨ps_pass, fun W F n S σ H E R hK A q fin => fin.nx F n S σ H (Same.refl _) A q⟩
theorem ds_never : DS X st tNever kNever := ⟨ps_never, fun W F n S σ H E R hK A q fin => q.elim⟩
theorem dss_never : DSs X sts tNever kNever := ⟨pss_never, fun W F n S σ H E R hK A q fin => q.elim⟩
def kBrk : KS := fun E S n => E.bk S n
def kCnt : KS := fun E S n => E.ct S n
theorem ds_brk : DS X (.Break pos) tBreak kBrk := ⟨ps_break, fun W F n S σ H E R hK A q fin => fin.bk F n S σ H (Same.refl _) A q⟩
theorem ds_cnt : DS X (.Continue pos) tCont kCnt := ⟨ps_continue, fun W F n S σ H E R hK A q fin => fin.ct F n S σ H (Same.refl _) A q⟩
variable {e e2 : Expr} {te2 : TE} {k : KE} {ke2 : KE} {ts : TA} {ks : KA}
def kDrop (k : KE) : KS := fun E S n => k S n fun _ S1 n1 => E.nx S1 n1
theorem ds_expr (h : DE X e te k) (hs : swapsWith e none pos.line X.env = pure false := by rfl) : DS X (.Expr e pos) (tDrop te) (kDrop k) := by
  refine ⟨ps_expr h.pe hs, fun W F n S σ H E R hK A q fin => ?_⟩
  exact h.ok W F n S σ H _ _ hK A q fun v H1 F1 n1 S1 d g1 A1 r q1 => fin.nx F1 n1 S1 σ H1 g1.f A1 q1
def kRet (k : KE) : KS := fun E S n => k S n fun d _ n1 => E.rt d n1
theorem ds_ret (h : DE X e te k) : DS X (.Return (some e) pos) (tRet te) (kRet k) := by
  refine ⟨ps_ret h.pe, fun W F n S σ H E R hK A q fin => ?_⟩
  exact h.ok W F n S σ H _ _ hK A q fun v H1 F1 n1 S1 d g1 A1 r q1 => fin.rt F1 n1 v d H1 g1.f A1.w r q1
def kRetN : KS := fun E _ n => E.rt .non n
theorem ds_retN : DS X (.Return none pos) tRetN kRetN := ⟨ps_retN, fun W F n S σ H E R hK A q fin => fin.rt F n _ _ H (Same.refl _) A.w .non q⟩
def kIfS (kt : KT) (k1 k2 : KS) : KS := fun E S n => kt S n fun c S1 n1 => if c = true then k1 E S1 n1 else k2 E S1 n1
theorem ds_if (h : DT X e tt kt) (h1 : DSs X sts t1 k1) (h2 : DSs X sts2 t2 k2) : DS X (.If e sts sts2 pos) (tIfS tt t1 t2) (kIfS kt k1 k2) := by
  refine ⟨ps_if h.pe h1.pe h2.pe, fun W F n S σ H E R hK A q fin => ?_⟩
  refine h.ok W F n S σ H _ _ hK A q fun c H1 F1 n1 S1 g1 A1 q1 => ?_
  cases c with
  | true => exact iteT (h1.ok W F1 n1 S1 σ H1 E R hK A1 (by simpa using q1) (fin.mono g1.f))
  | false => exact iteF (h2.ok W F1 n1 S1 σ H1 E R hK A1 (by simpa using q1) (fin.mono g1.f))
/-- a target's store -/
def kAsg (k : KE) (kg : KG) : KS := fun E S n => k S n fun d S1 n1 => kg d S1 fun S2 => E.nx S2 n1
theorem asg_ok {K : PySem.W.Frag} (h : SpE K te k) (hg : ∀ (W : Wd) (F : Hp) (n : Nat) (S : List Sl) (σ : St) (H : Hp) (v : V) (d : D) (Q : List Sl → Prop) (R : St → Hp → Prop), W.K = K → Abs W F n S σ H → Rep W.K W.pa F v d → kg d S Q →
    (∀ σ' S', Abs W F n S' σ' H → (∀ i, i ∉ sl → σ'[i]? = σ[i]? ∧ S'[i]? = S[i]?) → (∀ i ds, S'[i]? = some (.own ds) → S[i]? = some (.own ds) ∧ i ∉ sl) → Q S' → R σ' H) → g v σ H R) : SpS K (tAsg te g) (kAsg k kg) := by
  intro W F n S σ H E R hK A q fin
  refine h W F n S σ H _ _ hK A q fun v H1 F1 n1 S1 d g1 A1 r q1 => ?_
  exact hg W F1 n1 S1 σ H1 v d _ _ hK A1 r q1 fun σ' S' A2 _ _ q2 => fin.nx F1 n1 S' σ' H1 g1.f A2 q2
theorem ds_asg (h : DE X e te k) (h2 : DG X tg g sl kg) (hp : PE X e te → PG X tg g → PS X (.Assign [tg] e pos) (tAsg te g) := by intro a b; exact ps_asg a b) : DS X (.Assign [tg] e pos) (tAsg te g) (kAsg k kg) := ⟨hp h.pe h2.pe, asg_ok h.ok h2.ok⟩
/-- a name is set -/
theorem ds_set (i : Nat) {x : Str} {pos' : Pos} (h : DE X e te k) (hp : PE X e te → PS X (.Assign [.Name x pos'] e pos) (tAsg te (gName i))) : DS X (.Assign [.Name x pos'] e pos) (tAsg te (gName i)) (kAsg k (gN i)) := by
  refine ⟨hp h.pe, asg_ok (sl := [i]) h.ok fun W F n S σ H v d Q R hK A r q fin => ?_⟩
  refine fin _ _ (A.set r i) (fun j hj => ⟨List.getElem?_set_ne (not_single hj), List.getElem?_set_ne (not_single hj)⟩) (fun j ds hd => ?_) q
  by_cases e : j = i
  · subst e
    have hj : j < S.length := by
      have := (List.getElem?_eq_some_iff.mp hd).1
      rwa [List.length_set] at this
    rw [List.getElem?_set_self hj] at hd
    cases hd
  · rw [List.getElem?_set_ne (Ne.symm e)] at hd
    exact ⟨hd, fun z => e (List.mem_singleton.mp z)⟩
/-- a name is set to a list of the def's own -/
def kOwnS (i : Nat) (k : KA) : KS := fun E S n => k S n fun ds S1 n1 => E.nx (S1.set i (.own ds)) n1
theorem Abs.setOwn {W : Wd} {F H : Hp} {n : Nat} {S : List Sl} {σ : St} (A : Abs W F n S σ H) {D0 : Addr} {us : List V} {acc : List D} (i : Nat) (hF : F D0 = none) (h0 : W.H0 D0 = none) (hp : pad W.pa ≠ some D0) (hD : H D0 = some (.lst us)) (r : Reps W.K W.pa F us acc) (no : ¬ OwnA S σ D0) :
    Abs W F n (S.set i (.own acc)) (σ.set i (some (.ref D0))) H := by
  have far : ∀ (j : Nat) (es : List D), j ≠ i → (S.set i (.own acc))[j]? = some (.own es) → (σ.set i (some (.ref D0)))[j]? = some (some (.ref D0)) → False := fun j es nj h1 h2 => by
    rw [List.getElem?_set_ne (Ne.symm nj)] at h1 h2
    exact no ⟨j, es, h1, h2⟩
  refine ⟨A.w, by rw [List.length_set, List.length_set]; exact A.len, fun j s u h1 h2 => ?_, fun j k p ds es h1 h2 h3 h4 => ?_⟩
  · by_cases e : j = i
    · subst e
      have hj : j < S.length := by
        have := (List.getElem?_eq_some_iff.mp h1).1
        rwa [List.length_set] at this
      rw [List.getElem?_set_self hj] at h1
      rw [List.getElem?_set_self (by rw [← A.len]; exact hj)] at h2
      cases h1
      cases h2
      exact ⟨hF, h0, hp, us, hD, r⟩
    · rw [List.getElem?_set_ne (Ne.symm e)] at h1 h2
      exact A.sl j s u h1 h2
  · by_cases ej : j = i
    · by_cases ek : k = i
      · exact ej.trans ek.symm
      · subst ej
        have hj : j < σ.length := by
          have := (List.getElem?_eq_some_iff.mp h3).1
          rwa [List.length_set] at this
        rw [List.getElem?_set_self hj] at h3
        cases h3
        exact (far k es ek h2 h4).elim
    · by_cases ek : k = i
      · subst ek
        have hj : k < σ.length := by
          have := (List.getElem?_eq_some_iff.mp h4).1
          rwa [List.length_set] at this
        rw [List.getElem?_set_self hj] at h4
        cases h4
        exact (far j ds ej h1 h3).elim
      · rw [List.getElem?_set_ne (Ne.symm ej)] at h1 h3
        rw [List.getElem?_set_ne (Ne.symm ek)] at h2 h4
        exact A.di j k p ds es h1 h2 h3 h4
theorem own_ok {K : PySem.W.Frag} {ka : KA} (i : Nat) (h : SpO K te ka) : SpS K (tAsg te (gName i)) (kOwnS i ka) := by
  intro W F n S σ H E R hK A q fin
  refine h W F n S σ H _ _ hK A q fun D0 us acc H' F' n' S' g A' hF h0 hp hD r no hn q' => ?_
  exact fin.nx F' n' _ _ H' g.f (A'.setOwn i hF h0 hp hD r no) q'
theorem ds_own (i : Nat) {x : Str} {pos' : Pos} {ka : KA} (h : DOw X e te ka) (hp : PE X e te → PS X (.Assign [.Name x pos'] e pos) (tAsg te (gName i))) : DS X (.Assign [.Name x pos'] e pos) (tAsg te (gName i)) (kOwnS i ka) :=
  ⟨hp h.pe, own_ok i h.ok⟩
/-- x = [.. for ..], x a local on the same row -/
theorem ds_lc (i : Nat) {x : Str} {py lpos spos : Pos} (h : DLc X elt tg iter ifs scope own wi g tt te ki kg kt ke) (hy : X.N[i]? = some x) (hyl : X.env.scope.names.lookup x = some .local)
    (hsw : swapsWith (.ListComp elt [⟨tg, iter, ifs, 0⟩] scope lpos) (some (.Name x py)) spos.line X.env = pure true) (hc : X.calm = true := by rfl) (hs : ∀ x, foldedSetIterable iter X.env x = pure x := by intro _; rfl) :
    DS X (.Assign [.Name x py] (.ListComp elt [⟨tg, iter, ifs, 0⟩] scope lpos) spos) (tAsg (tLc wi g tt te (own.map (·.2))) (gName i)) (kAsg (kOut (kCompO ki kg kt ke (own.map (·.2)))) (gN i)) := by
  have hO : SpO X.K (tLc wi g tt te (own.map (·.2))) (kCompO ki kg kt ke (own.map (·.2))) := fun W F n S σ H Q R hK A q fin =>
    h.ok W F n S σ H (fun d S1 n1 => match d with | .lst ds => Q ds S1 n1 | _ => False) R hK A q fin
  refine ⟨ps_setLc hc h.hN hy hyl hsw h.hi.pe h.blk h.hg h.ht h.he hs, asg_ok (sl := [i]) hO.e fun W F n S σ H v d Q R hK A r q fin => ?_⟩
  refine fin _ _ (A.set r i) (fun j hj => ⟨List.getElem?_set_ne (not_single hj), List.getElem?_set_ne (not_single hj)⟩) (fun j ds hd => ?_) q
  by_cases e : j = i
  · subst e
    have hj : j < S.length := by
      have := (List.getElem?_eq_some_iff.mp hd).1
      rwa [List.length_set] at this
    rw [List.getElem?_set_self hj] at hd
    cases hd
  · rw [List.getElem?_set_ne (Ne.symm e)] at hd
    exact ⟨hd, fun z => e (List.mem_singleton.mp z)⟩
theorem ds_lcO (i : Nat) {x : Str} {py lpos spos : Pos} (h : DLc X elt tg iter ifs scope own wi g tt te ki kg kt ke) (hy : X.N[i]? = some x) (hyl : X.env.scope.names.lookup x = some .local)
    (hsw : swapsWith (.ListComp elt [⟨tg, iter, ifs, 0⟩] scope lpos) (some (.Name x py)) spos.line X.env = pure true) (hc : X.calm = true := by rfl) (hs : ∀ x, foldedSetIterable iter X.env x = pure x := by intro _; rfl) :
    DS X (.Assign [.Name x py] (.ListComp elt [⟨tg, iter, ifs, 0⟩] scope lpos) spos) (tAsg (tLc wi g tt te (own.map (·.2))) (gName i)) (kOwnS i (kCompO ki kg kt ke (own.map (·.2)))) := by
  have hO : SpO X.K (tLc wi g tt te (own.map (·.2))) (kCompO ki kg kt ke (own.map (·.2))) := fun W F n S σ H Q R hK A q fin =>
    h.ok W F n S σ H (fun d S1 n1 => match d with | .lst ds => Q ds S1 n1 | _ => False) R hK A q fin
  exact ⟨ps_setLc hc h.hN hy hyl hsw h.hi.pe h.blk h.hg h.ht h.he hs, own_ok i hO⟩
/-- x, y = a, b (locals) -/
def kPar (i j : Nat) (ks : KA) : KS := fun E S n => ks S n fun ds S1 n1 => match ds with
  | [d, f] => E.nx ((S1.set i (.val d)).set j (.val f)) n1
  | _ => False
theorem ds_par {i j : Nat} {es : List Expr} (h : DA X es ts ks) (hp : PA X es ts → PS X st (tPar i j ts)) : DS X st (tPar i j ts) (kPar i j ks) := by
  refine ⟨hp h.pe, fun W F n S σ H E R hK A q fin => ?_⟩
  refine h.ok W F n S σ H _ _ hK A q fun vs H1 F1 n1 S1 ds g1 A1 r q1 => ?_
  match ds, r, q1 with
  | [d, f], .cons r1 (.cons r2 .nil), q1 => exact ⟨_, _, rfl, fin.nx F1 n1 _ _ H1 g1.f ((A1.set r1 i).set r2 j) q1⟩
/-- x op= e, ints -/
def kAug (i : Nat) (f : Int → Int → Int) (k : KE) : KS := fun E S n => match S[i]? with
  | some (.val (.int a)) => k S n fun d S1 n1 => match d with
    | .int b => E.nx (S1.set i (.val (.int (f a b)))) n1
    | _ => False
  | _ => False
theorem ds_aug (i : Nat) {f : Int → Int → Int} (h : DE X e te k) (hp : PE X e te → PS X st (tAug i te (ipI f))) : DS X st (tAug i te (ipI f)) (kAug i f k) := by
  refine ⟨hp h.pe, fun W F n S σ H E R hK A q fin => ?_⟩
  unfold kAug at q
  cases e1 : S[i]? with
  | none => rw [e1] at q; exact q.elim
  | some s =>
    rw [e1] at q
    cases s with
    | no => exact q.elim
    | own _ => exact q.elim
    | val d =>
      cases d <;> try exact False.elim q
      case int a =>
        obtain ⟨v, e2, ok⟩ := slot_of A e1
        cases v with
        | none => exact ok.elim
        | some v =>
          cases ok
          refine ⟨_, e2, h.ok W F n S σ H _ _ hK A q fun w H1 F1 n1 S1 d g1 A1 r q1 => ?_⟩
          cases d <;> try exact False.elim q1
          case int b =>
            cases r
            exact ⟨a, b, rfl, rfl, fin.nx F1 n1 _ _ H1 g1.f (A1.set (.int _) i) q1⟩
/-! ### lists of one's own are changed -/
theorem Abs.putOwn {W : Wd} {F H : Hp} {n : Nat} {S : List Sl} {σ : St} (A : Abs W F n S σ H) {i : Nat} {p : Addr} {ds es : List D} {ws : List V} (e : S[i]? = some (.own ds)) (e2 : σ[i]? = some (some (.ref p))) (r : Reps W.K W.pa F ws es) :
    Abs W F n (S.set i (.own es)) σ (upd H p (.lst ws)) := by
  obtain ⟨h1, h2, h3, vs, h4, h5⟩ := A.sl i _ _ e e2
  have hi : i < S.length := (List.getElem?_eq_some_iff.mp e).1
  have far : ∀ a o, F a = some o → a ≠ p := fun a o h z => by rw [z, h1] at h; cases h
  have old : ∀ (j : Nat) (es' : List D), (S.set i (.own es))[j]? = some (Sl.own es') → ∃ es0, S[j]? = some (Sl.own es0) := fun j es' h => by
    by_cases y : j = i
    · subst y; exact ⟨ds, e⟩
    · rw [List.getElem?_set_ne (Ne.symm y)] at h; exact ⟨es', h⟩
  refine ⟨⟨fun a u z => ?_, fun q z => ?_, fun a u z k => ?_, fun q z => ?_, A.w.f0, A.w.nf⟩, by rw [List.length_set]; exact A.len, fun j s v z1 z2 => ?_, fun j k q ds1 ds2 z1 z2 z3 z4 => ?_⟩
  · rw [upd_ne (far _ _ z)]; exact A.w.sub _ _ z
  · obtain ⟨y1, ca, turn, rst, y2, y3⟩ := A.w.pen q z
    have nq : q ≠ p := fun y => h3 (y ▸ z)
    exact ⟨y1, ca, turn, rst, by rw [upd_ne nq]; exact y2, y3⟩
  · have na : a ≠ p := fun y => by rw [y, h2] at z; cases z
    rw [upd_ne na]; exact A.w.old _ _ z k
  · have nq : q ≠ p := fun y => h3 (y ▸ z)
    rw [upd_ne nq]; exact A.w.oldp q z
  · by_cases y : j = i
    · subst y
      rw [List.getElem?_set_self hi] at z1
      cases z1
      rw [e2] at z2
      cases z2
      exact ⟨h1, h2, h3, ws, upd_same, r⟩
    · rw [List.getElem?_set_ne (Ne.symm y)] at z1
      have ok := A.sl j s v z1 z2
      cases s with
      | no => trivial
      | val d =>
        cases v with
        | none => exact ok.elim
        | some v => exact ok
      | own es' =>
        cases v with
        | none => exact ok.elim
        | some v =>
          cases v with
          | ref q =>
            obtain ⟨k1, k2, k3, ws', k4, k5⟩ := ok
            have nq : q ≠ p := fun x => y (A.di j i p es' ds z1 e (x ▸ z2) e2)
            exact ⟨k1, k2, k3, ws', by rw [upd_ne nq]; exact k4, k5⟩
          | _ => exact ok.elim
  · obtain ⟨es1, y1⟩ := old j _ z1
    obtain ⟨es2, y2⟩ := old k _ z2
    exact A.di j k q es1 es2 y1 y2 z3 z4
theorem slot_own {W : Wd} {F H : Hp} {n : Nat} {S : List Sl} {σ : St} (A : Abs W F n S σ H) {i : Nat} {ds : List D} (e : S[i]? = some (.own ds)) : ∃ p vs, σ[i]? = some (some (.ref p)) ∧ H p = some (.lst vs) ∧ Reps W.K W.pa F vs ds := by
  obtain ⟨v, e2, ok⟩ := slot_of A e
  cases v with
  | none => exact ok.elim
  | some v =>
    cases v with
    | ref p => obtain ⟨_, _, _, vs, h4, h5⟩ := ok; exact ⟨p, vs, e2, h4, h5⟩
    | _ => exact ok.elim
/-- x.append(e) -/
def kApp (i : Nat) (k : KE) : KS := fun E S n => match S[i]? with
  | some (.own _) => k S n fun d S1 n1 => match S1[i]? with
    | some (.own ds) => ds.length < 1000000 ∧ E.nx (S1.set i (.own (ds ++ [d]))) n1
    | _ => False
  | _ => False
theorem ds_app (i : Nat) (h : DE X e te k) (hp : PE X e te → PS X st (tDrop (tBM X.K "list" rAppend (tVar i) (tCons te tNil)))) : DS X st (tDrop (tBM X.K "list" rAppend (tVar i) (tCons te tNil))) (kApp i k) := by
  refine ⟨hp h.pe, fun W F n S σ H E R hK A q fin => ?_⟩
  unfold kApp at q
  cases e1 : S[i]? with
  | none => rw [e1] at q; exact q.elim
  | some s =>
    rw [e1] at q
    cases s with
    | no => exact q.elim
    | val _ => exact q.elim
    | own ds0 =>
      obtain ⟨p, vs0, e2, h4, _⟩ := slot_own A e1
      refine ⟨_, e2, .inl ⟨rfl, _, SqL.of h4⟩, h.ok W F n S σ H _ _ hK A q fun v H1 F1 n1 S1 d g1 A1 r q1 => ?_⟩
      cases e3 : S1[i]? with
      | none => rw [e3] at q1; exact q1.elim
      | some s =>
        rw [e3] at q1
        cases s with
        | no => exact q1.elim
        | val _ => exact q1.elim
        | own ds =>
          obtain ⟨p', vs, e4, h5, r5⟩ := slot_own A1 e3
          have ep : p' = p := by rw [e2] at e4; cases e4; rfl
          subst ep
          refine ⟨p', vs, v, rfl, rfl, h5, by rw [r5.length]; exact big_lt (Nat.le_of_lt q1.1), ?_⟩
          exact fin.nx F1 n1 _ _ _ g1.f (A1.putOwn e3 e4 (Reps.append r5 (.cons r .nil))) q1.2
/-- x.extend(e) -/
def kExt (i : Nat) (k : KE) : KS := fun E S n => match S[i]? with
  | some (.own _) => k S n fun d S1 n1 => match S1[i]?, d with
    | some (.own ds), .lst es => ds.length + es.length < 1000000 ∧ E.nx (S1.set i (.own (ds ++ es))) n1
    | _, _ => False
  | _ => False
theorem ds_ext (i : Nat) (h : DE X e te k) (hp : PE X e te → PS X st (tDrop (tBM X.K "list" rExtend (tVar i) (tCons te tNil)))) : DS X st (tDrop (tBM X.K "list" rExtend (tVar i) (tCons te tNil))) (kExt i k) := by
  refine ⟨hp h.pe, fun W F n S σ H E R hK A q fin => ?_⟩
  unfold kExt at q
  cases e1 : S[i]? with
  | none => rw [e1] at q; exact q.elim
  | some s =>
    rw [e1] at q
    cases s with
    | no => exact q.elim
    | val _ => exact q.elim
    | own ds0 =>
      obtain ⟨p, vs0, e2, h4, _⟩ := slot_own A e1
      refine ⟨_, e2, .inl ⟨rfl, _, SqL.of h4⟩, h.ok W F n S σ H _ _ hK A q fun v H1 F1 n1 S1 d g1 A1 r q1 => ?_⟩
      cases e3 : S1[i]? with
      | none => rw [e3] at q1; exact q1.elim
      | some s =>
        rw [e3] at q1
        cases s with
        | no => exact q1.elim
        | val _ => exact q1.elim
        | own ds =>
          cases d <;> try exact False.elim q1
          case lst es =>
            obtain ⟨p', vs, e4, h5, r5⟩ := slot_own A1 e3
            have ep : p' = p := by rw [e2] at e4; cases e4; rfl
            subst ep
            cases r with
            | lst hb rb =>
              refine ⟨p', _, vs, _, rfl, rfl, h5, A1.w.sub _ _ hb, by rw [r5.length, rb.length]; exact big_ok (Nat.le_of_lt q1.1), ?_⟩
              exact fin.nx F1 n1 _ _ _ g1.f (A1.putOwn e3 e4 (Reps.append r5 rb)) q1.2
/-- x[e] = e2 -/
def kSub (i : Nat) (k2 k : KE) : KS := fun E S n => k2 S n fun d S1 n1 => match S1[i]? with
  | some (.own _) => k S1 n1 fun z S2 n2 => match S2[i]?, z with
    | some (.own ds), .int j => match ixN ds.length j with
      | some m => E.nx (S2.set i (.own (ds.set m d))) n2
      | none => False
    | _, _ => False
  | _ => False
theorem ds_sub (i : Nat) (h2 : DE X e2 te2 ke2) (h : DE X e te k) (hp : PE X e2 te2 → PE X e te → PS X st (tAsg te2 (gSub (tVar i) te rSetL))) : DS X st (tAsg te2 (gSub (tVar i) te rSetL)) (kSub i ke2 k) := by
  refine ⟨hp h2.pe h.pe, fun W F n S σ H E R hK A q fin => ?_⟩
  refine h2.ok W F n S σ H _ _ hK A q fun v H1 F1 n1 S1 d g1 A1 r q1 => ?_
  cases e1 : S1[i]? with
  | none => rw [e1] at q1; exact q1.elim
  | some s =>
    rw [e1] at q1
    cases s with
    | no => exact q1.elim
    | val _ => exact q1.elim
    | own ds0 =>
      obtain ⟨p, vs0, e2, h4, _⟩ := slot_own A1 e1
      refine ⟨_, e2, h.ok W F1 n1 S1 σ H1 _ _ hK A1 q1 fun w H2 F2 n2 S2 z g2 A2 r2 q2 => ?_⟩
      cases e3 : S2[i]? with
      | none => rw [e3] at q2; exact q2.elim
      | some s =>
        rw [e3] at q2
        cases s with
        | no => exact q2.elim
        | val _ => exact q2.elim
        | own ds =>
          cases z <;> try exact False.elim q2
          case int j =>
            obtain ⟨p', vs, e4, h5, r5⟩ := slot_own A2 e3
            have ep : p' = p := by rw [e2] at e4; cases e4; rfl
            subst ep
            have q2 : (match ixN ds.length j with | some m => E.nx (S2.set i (.own (ds.set m d))) n2 | none => False) := q2
            cases e6 : ixN ds.length j with
            | none => rw [e6] at q2; exact q2.elim
            | some m =>
              rw [e6] at q2
              cases r2
              refine ⟨p', vs, j, m, rfl, rfl, h5, by rw [r5.length]; exact e6, ?_⟩
              exact fin.nx F2 n2 _ _ _ (g1.f.trans g2.f) (A2.putOwn e3 e4 (Reps.set (Rep.mono g2.f r) m r5)) q2
/-! ### loops -/
def kFors (kg : KG) (kb : KS) (E : DEnds) : List D → List Sl → Nat → Prop
  | [] => fun S n => E.nx S n
  | d :: ds => fun S n => kg d S fun S1 => kb { E with nx := kFors kg kb E ds, ct := kFors kg kb E ds, bk := E.nx } S1 n
def kFor (ki : KA) (kg : KG) (kb : KS) : KS := fun E S n => ki S n fun ds S1 n1 => kFors kg kb E ds S1 n1
theorem ds_for (hi : DI X tg iter wi ki) (hg : DG X tg g sl kg) (hb : DSs X sts t1 k1) (hp : PI X tg iter wi → PG X tg g → PSs X sts t1 → PS X (.For tg iter sts [] pos) (tFor wi g t1)) : DS X (.For tg iter sts [] pos) (tFor wi g t1) (kFor ki kg k1) := by
  refine ⟨hp hi.pe hg.pe hb.pe, fun W F n S σ H E R hK A q fin => ?_⟩
  refine hi.ok W F n S σ H _ _ hK A q fun J H1 F1 n1 S1 ds g1 A1 wk q1 => ?_
  refine ⟨fun i m σ H => m = ds.length - i ∧ i ≤ ds.length ∧ ∃ F2 n2 S2, Same F1 F2 ∧ Abs W F2 n2 S2 σ H ∧ kFors kg k1 E (ds.drop i) S2 n2, ⟨ds.length, by simp, Nat.zero_le _, F1, n1, S1, Same.refl _, A1, by rw [List.drop_zero]; exact q1⟩, ?_⟩
  rintro i m σ2 H2 ⟨rfl, hi2, F2, n2, S2, f2, A2, q2⟩
  by_cases hlt : i < ds.length
  · have ed : ds.drop i = ds[i] :: ds.drop (i + 1) := List.drop_eq_getElem_cons hlt
    rw [ed] at q2
    refine .inr ⟨wk.goes F2 H2 n2 i f2 A2.w hlt, fun σ' H' => ∃ F3 n3 S3, Same F1 F3 ∧ Abs W F3 n3 S3 σ' H' ∧ kFors kg k1 E (ds.drop (i + 1)) S3 n3, fun σ' H' p => ⟨ds.length - (i + 1), by omega, rfl, hlt, p⟩, fun x H' y => ?_⟩
    obtain ⟨F3, d, hd, g3, r3⟩ := wk.yields F2 H2 n2 i x H' f2 A2.w hlt y
    have ed2 : d = ds[i] := Option.some.inj (hd.symm.trans (List.getElem?_eq_getElem hlt))
    subst ed2
    refine hg.ok W F3 n2 _ _ H' x _ _ _ hK (A2.new g3) r3 q2 fun σ4 S4 A4 _ _ q4 => ?_
    refine hb.ok W F3 n2 S4 σ4 H' _ _ hK A4 q4 ⟨fun F' n' S' σ' H' f A' q' => ⟨F', n', S', f2.trans (g3.f.trans f), A', q'⟩, fun F' n' v d H' f => fin.rt F' n' v d H' (g1.f.trans (f2.trans (g3.f.trans f))),
      fun F' n' S' σ' H' f => fin.nx F' n' S' σ' H' (g1.f.trans (f2.trans (g3.f.trans f))), fun F' n' S' σ' H' f A' q' => ⟨F', n', S', f2.trans (g3.f.trans f), A', q'⟩⟩
  · have e : i = ds.length := by omega
    subst e
    rw [List.drop_length] at q2
    exact .inl ⟨wk.stops F2 H2 n2 f2 A2.w, fin.nx F2 n2 S2 σ2 H2 (g1.f.trans f2) A2 q2⟩
def kWhiles (kt : KT) (kb : KS) (E : DEnds) : Nat → List Sl → Nat → Prop
  | 0 => fun _ _ => False
  | m + 1 => fun S n => kt S n fun b S1 n1 => if b = true then kb { E with nx := kWhiles kt kb E m, ct := kWhiles kt kb E m, bk := E.nx } S1 n1 else E.nx S1 n1
def kWhile (kt : KT) (kb : KS) : KS := fun E S n => ∃ m, kWhiles kt kb E m S n
theorem ds_while (ht : DT X e tt kt) (hb : DSs X sts t1 k1) (hp : PT X e tt → PSs X sts t1 → PS X (.While e sts [] pos) (tWhile tt t1)) : DS X (.While e sts [] pos) (tWhile tt t1) (kWhile kt k1) := by
  refine ⟨hp ht.pe hb.pe, fun W F n S σ H E R hK A q fin => ?_⟩
  obtain ⟨m0, q⟩ := q
  refine ⟨fun m σ H => ∃ F2 n2 S2, Same F F2 ∧ Abs W F2 n2 S2 σ H ∧ kWhiles kt k1 E m S2 n2, ⟨m0, F, n, S, Same.refl _, A, q⟩, ?_⟩
  rintro m σ2 H2 ⟨F2, n2, S2, f2, A2, q2⟩
  cases m with
  | zero => exact False.elim q2
  | succ m =>
    refine ht.ok W F2 n2 S2 σ2 H2 _ _ hK A2 q2 fun b H3 F3 n3 S3 g3 A3 q3 => ?_
    cases b with
    | false => exact fin.nx F3 n3 S3 σ2 H3 (f2.trans g3.f) A3 (by simpa using q3)
    | true =>
      have q3 := (show k1 { E with nx := kWhiles kt k1 E m, ct := kWhiles kt k1 E m, bk := E.nx } S3 n3 by simpa using q3)
      refine ⟨fun σ' H' => ∃ F4 n4 S4, Same F F4 ∧ Abs W F4 n4 S4 σ' H' ∧ kWhiles kt k1 E m S4 n4, fun σ' H' p => ⟨m, Nat.lt_succ_self _, p⟩, ?_⟩
      exact hb.ok W F3 n3 S3 σ2 H3 _ _ hK A3 q3 ⟨fun F' n' S' σ' H' f A' q' => ⟨F', n', S', f2.trans (g3.f.trans f), A', q'⟩, fun F' n' v d H' f => fin.rt F' n' v d H' (f2.trans (g3.f.trans f)),
        fun F' n' S' σ' H' f => fin.nx F' n' S' σ' H' (f2.trans (g3.f.trans f)), fun F' n' S' σ' H' f A' q' => ⟨F', n', S', f2.trans (g3.f.trans f), A', q'⟩⟩
end
end DL
namespace DL
open PySem PySem.Spec PyProof.Rows L2
/-! ### what a def promises, where no recursion of repr is under way -/
section
variable {P : Program} {w : World} {K : PySem.W.Frag} {mg : Str → Option Value} {base : Heap} {CX : CXT} {k : Nat} {f : Addr} {fd : FuncData} {ps : List Str} {sp : Sp}
structure FnG (P : Program) (w : World) (K : PySem.W.Frag) (mg : Str → Option Value) (base : Heap) (CX : CXT) (k : Nat) (f : Addr) (fd : FuncData) (ps : List Str) (sp : Sp) : Prop where
  long : ∀ vs H Q E, sp vs H Q E → vs.length = ps.length
  goes : ∀ (A : Around) (outer : List Env) (s : Shared) (H : Hp) (args : Args) (us : List Value) (vs : List V) (Q : VK) (E : XK),
    Room k A → A.guards = some [] → Env0 P w K mg base A outer s H → BindsTo s fd args (ps.zip us) → Vals vs us → sp vs H Q E →
    codeAny (model P w) A (.call (.ref f) args) (CR CX outer P w H s Q E) s
theorem FnG.of (F : FnOk P w K mg base CX k f fd ps sp) : FnG P w K mg base CX k f fd ps sp :=
  ⟨F.len, fun A outer s H args us vs Q E hr _ => F.run A outer s H args us vs Q E hr⟩
theorem FnG.up (F : FnG P w K mg base CX k f fd ps sp) {j : Nat} (h : k ≤ j) : FnG P w K mg base CX j f fd ps sp :=
  ⟨F.long, fun A outer s H args us vs Q E hr => F.goes A outer s H args us vs Q E (hr.mono h)⟩
/-- a def of the text by its body -/
theorem FnG.mk' {name qual : Str} {params : Arguments} {body : List Stmt} {scope : Scope} {dV kV doc pm cdv ct oc : Value} {an od : Option Addr} {osl : Array (Option Value)} {N : List Str}
    (lk : K.lookup f = some ⟨oc, od, .func (PySem.W.fnOf name qual params body scope dV kV doc pm an cdv ct), osl⟩) (hcd : PySem.W.codeIn K cdv qual = true)
    (S : FnScope N ps scope) (long : ∀ vs H Q E, sp vs H Q E → vs.length = ps.length)
    (walk : ∀ (A : Around) (outer : List Env) (s : Shared) (H : Hp) (vs : List V) (Q : VK) (E : XK), Room k (A.deeper (envOfC qual scope s.heap.objs.size f cdv)) → A.guards = some [] → sp vs H Q E →
      ∃ t, PSs (cxOf CX P w K mg base N qual scope f cdv A outer s H E) body t ∧ t ⟨fun _ H' => Q .non H', Q, fun _ _ => False, fun _ _ => False⟩ (start N vs) H) :
    FnG P w K mg base CX (k + 1) f (PySem.W.fnOf name qual params body scope dV kV doc pm an cdv ct) ps sp := by
  refine ⟨long, ?_⟩
  intro A outer s H args us vs Q E hr hgd e0 hb r hsp
  have kept : ∀ b o, base.get? b = some o → s.heap.get? b = some o := fun b o z => (e0.bs b o z).1
  have inK : K.In s.heap := e0.mod.kin.keeps kept
  have cells : ∀ y ∈ ps.zip us, scope.names.lookup y.1 = some .local ∨
      (scope.names.lookup y.1 = some .cell ∧ ((cellsFrom (s.heap.objs.size + 1) scope.names []).lookup y.1).isSome = true) := by
    rintro ⟨n, v⟩ hy
    rcases S.par n (List.of_mem_zip hy).1 with z | z
    · exact Or.inl z
    · exact Or.inr ⟨z, PySem.W.cellsFrom_some _ _ _ (Or.inl z)⟩
  refine codeAny_call_function hr.depth (inK _ _ lk) rfl S.co S.gen rfl
    (PySem.W.codeRec_of inK hcd) (hb _ _ _ _ ?_)
  refine wpAny_newFunctionEnv_cells S.kind cells ?_
  intro env he s1 x
  subst he
  refine ⟨(e0.mod.nolimit.keeps kept).keeps x.toInCall.keep, codeAny_func ?_⟩
  obtain ⟨t, ht, hq⟩ := walk A outer s H vs Q E (hr.deeper _) hgd hsp
  have I := inv_start (CX := CX) (E := E) S hr.hd e0 (long _ _ _ _ hsp) r x
  refine wpAny_mono (ht.run [] s1 _ H _ I hq) ?_ (fun _ _ z => z)
  intro fl s' z
  cases fl with
  | next => obtain ⟨σ', H', J, q⟩ := z; exact ⟨V.non, H', J.os, J.bare, J.base, J.hok, rfl, q⟩
  | ret u => obtain ⟨v, σ', H', J, rv, q⟩ := z; exact ⟨v, H', J.os, J.bare, J.base, J.hok, rv, q⟩
  | brk => obtain ⟨_, _, _, q⟩ := z; exact q.elim
  | cont => obtain ⟨_, _, _, q⟩ := z; exact q.elim
end
section
variable {X : Cx} {CX : CXT} {k : Nat} {f : Addr} {fd : FuncData} {ps : List Str} {sp : Sp} {dvs : List V} {ds : List Value} {E : XK}
theorem FnG.call {pins : List (Addr × Obj)} {σ : St} {H : Hp} {s : Shared} {Q : VK} {us : List Value} {vs : List V} {args : Args} {all : List Value} {vall : List V} (F : FnG X.prog X.w X.K X.mg X.base CX k f fd ps sp) (hr : Room k X.A) (hgd : X.A.guards = some [])
    (hx : Passes CX X E) (I : Inv X pins σ H s) (hb : BindsTo s fd args (ps.zip all)) (r : Vals vall all) (h : sp vall H Q E) :
    codeAny (model X.prog X.w) X.A (.call (.ref f) args) (fun res s' => match res with | .ok (.ret u) => EP X pins σ Q u s' | .ok _ => False | .error e => X.xe e s') s := by
  refine codeAny_mono (F.goes X.A X.stack s H args all vall Q E hr hgd I.env0 hb r h) ?_
  intro res s' z
  cases res with
  | error e => exact hx pins σ H s e s' I z
  | ok fl =>
    cases fl with
    | ret u => exact I.after z
    | _ => exact False.elim z
theorem FnG.run {pins : List (Addr × Obj)} {σ : St} {H : Hp} {s : Shared} {Q : VK} {us : List Value} {vs : List V} (F : FnG X.prog X.w X.K X.mg X.base CX k f fd ps sp) (hr : Room k X.A) (hgd : X.A.guards = some []) (hb : Binds X.K fd ps ds) (hd : Vals dvs ds)
    (hx : Passes CX X E) (I : Inv X pins σ H s) (r : Vals vs us) (h : sp (vs ++ dvs) H Q E) : wpAny (model X.prog X.w) X.A (PySem.call (.ref f) us) (EP X pins σ Q) X.xe s := by
  have r2 : Vals (vs ++ dvs) (us ++ ds) := r.append hd
  have hl : (us ++ ds).length = ps.length := r2.length.symm.trans (F.long _ _ _ _ h)
  refine wpAny_call (codeAny_mono (F.call (us := us) (vs := vs) hr hgd hx I (hb s us I.kIn hl) r2 h) ?_)
  intro res s' z
  cases res with
  | error e => exact z
  | ok fl => cases fl <;> first | exact z | exact False.elim z
variable {x : Str} {p pos : Pos} {e : Expr} {es : List Expr} {t tk : TA} {kws : List Keyword} {ks : List Str} {g : List Value → List Value → List Value} {gV : List V → List V → List V}
theorem pe_callG (F : FnG X.prog X.w X.K X.mg X.base CX k f fd ps sp) (hr : Room k X.A) (hgd : X.A.guards = some []) (hg : Gl X x) (hm : X.mg x = some (.ref f)) (hk : PySem.W.keepIn X.K (.ref f) = true) (hb : Binds X.K fd ps ds) (hd : Vals dvs ds) (hx : Passes CX X E)
    (ha : PA X (e :: es) t) (hdb : (x == ("__debug__" : Str)) = false := by decide) (he : starEach (e :: es) X.env = (false, eval e X.env) :: starEach es X.env := by rfl) (hpl : (backTo pos (starEach es X.env)).any (·.1) = false := by rfl) :
    PE X (.Call (.Name x p) (e :: es) [] pos) (tCall sp dvs E t) := by
  constructor
  intro pins s σ H Q I h
  refine wpAny_Call_Name_kw (ld_glob I hg hm ?_ hdb)
  refine PySem.W.callWith_K (h₀ := X.base) I.ok.mod.kin hk ?_ he hpl
  refine thn (ha.run pos pins s σ H _ I h) ?_
  rintro us s1 ⟨vs, H1, I1, r, q⟩
  exact ⟨I1.kIn, F.run hr hgd hb hd hx I1 r q⟩
theorem pe_callG0 (F : FnG X.prog X.w X.K X.mg X.base CX k f fd ps sp) (hr : Room k X.A) (hgd : X.A.guards = some []) (hg : Gl X x) (hm : X.mg x = some (.ref f)) (hk : PySem.W.keepIn X.K (.ref f) = true) (hb : Binds X.K fd ps ds) (hd : Vals dvs ds) (hx : Passes CX X E)
    (hdb : (x == ("__debug__" : Str)) = false := by decide) : PE X (.Call (.Name x p) [] [] pos) (tCall sp dvs E tNil) := by
  constructor
  intro pins s σ H Q I h
  exact wpAny_Call_Name_kw (ld_glob I hg hm (PySem.W.callWith_K0 I.kIn hk (F.run (us := []) hr hgd hb hd hx I .nil h)) hdb)
end
/-! ### promises over data -/
/-- arguments, draws so far, what is wanted -/
abbrev DC := List D → Nat → (D → Nat → Prop) → Prop
def spD (K : PySem.W.Frag) (c : DC) : Sp := fun vs H Q _ => ∃ (pa : Option Pn) (F : Hp) (n : Nat) (ds : List D) (Qd : D → Nat → Prop), Wok ⟨K, pa, F, H⟩ F H n ∧ Reps K pa F vs ds ∧ c ds n Qd ∧
  ∀ v H' F' n' d, Wok ⟨K, pa, F, H⟩ F' H' n' → Rep K pa F' v d → Qd d n' → Q v H'
/-- a caller's place as a callee's begin -/
theorem Wok.enter {W : Wd} {F H : Hp} {n : Nat} (w : Wok W F H n) : Wok ⟨W.K, W.pa, F, H⟩ F H n :=
  ⟨w.sub, w.pen, fun _ _ h _ => h, w.oldp, Same.refl _, fun _ _ h => .inl h⟩
theorem Abs.leave {W : Wd} {F H F' H' : Hp} {n n' : Nat} {S : List Sl} {σ : St} (A : Abs W F n S σ H) (w : Wok ⟨W.K, W.pa, F, H⟩ F' H' n') : Grow W S σ F H F' H' S ∧ Abs W F' n' S σ H' := by
  have g : Grow W S σ F H F' H' S := by
    refine ⟨w.f0, w.old, fun a h => ?_, fun a o h => ?_, fun _ h => h⟩
    · cases q : H a with
      | none => rfl
      | some o =>
        by_cases e : pad W.pa = some a
        · exact absurd h (w.oldp a e)
        · rw [w.old a o q e] at h; cases h
    · rcases w.nf a o h with z | z
      · exact .inl z
      · exact .inr (.inl z)
  refine ⟨g, ⟨w.sub, w.pen, fun a o h p => w.old a o (A.w.old a o h p) p, w.oldp, A.w.f0.trans w.f0, fun a o h => ?_⟩, A.len, fun i s v h1 h2 => ?_, A.di⟩
  · rcases w.nf a o h with z | z
    · exact A.w.nf a o z
    · exact .inr (A.w.fresh z).2.1
  · refine (A.sl i s v h1 h2).grow g fun p vs h3 h4 h5 => ?_
    cases q : F' p with
    | none => rfl
    | some o =>
      rcases w.nf p o q with z | z
      · rw [show F p = some o from z] at h4; cases h4
      · rw [show H p = none from z] at h3; cases h3
def kFn (c : DC) (ks : KA) : KE := fun S n Q => ks S n fun ds S1 n1 => c ds n1 fun d n2 => Q d S1 n2
theorem call_ok {K : PySem.W.Frag} {c : DC} {t : TA} {ks : KA} {E : XK} (h : SpA K t ks) : SpE K (tCall (spD K c) [] E t) (kFn c ks) := by
  intro W F n S σ H Q R hK A q fin
  refine h W F n S σ H _ _ hK A q fun vs H1 F1 n1 S1 ds g1 A1 r1 q1 => ?_
  rw [List.append_nil]
  subst hK
  refine ⟨W.pa, F1, n1, ds, _, A1.w.enter, r1, q1, fun v H2 F2 n2 d w2 r2 q2 => ?_⟩
  obtain ⟨g2, A2⟩ := A1.leave w2
  exact fin v H2 F2 n2 S1 d (g1.trans g2) A2 r2 q2
section
variable {X : Cx} {k j : Nat} {f : Addr} {fd : FuncData} {ps : List Str} {c : DC} {x : Str} {p pos : Pos} {e : Expr} {es : List Expr} {t : TA} {ks : KA}
/-- where calls are made -/
structure Stand (X : Cx) (j : Nat) : Prop where
  room : Room j X.A
  gd : X.A.guards = some []
/-- f(e, ..) -/
theorem de_fn (F : FnG X.prog X.w X.K X.mg X.base CX0 k f fd ps (spD X.K c)) (st : Stand X j) (hm : X.mg x = some (.ref f)) (hk : PySem.W.keepIn X.K (.ref f) = true) (hb : Binds X.K fd ps []) (h : DA X (e :: es) t ks) (hj : k ≤ j := by decide)
    (hp : FnG X.prog X.w X.K X.mg X.base CX0 k f fd ps (spD X.K c) → Room k X.A → X.A.guards = some [] → X.mg x = some (.ref f) → PySem.W.keepIn X.K (.ref f) = true → Binds X.K fd ps [] → PA X (e :: es) t → PE X (.Call (.Name x p) (e :: es) [] pos) (tCall (spD X.K c) [] E0 t) := by
      intro a b c d e f g; exact pe_callG a b c (by exact rfl) d e f .nil pass0 g) :
    DE X (.Call (.Name x p) (e :: es) [] pos) (tCall (spD X.K c) [] E0 t) (kFn c ks) := ⟨hp F (st.room.mono hj) st.gd hm hk hb h.pe, call_ok h.ok⟩
end
/-! ### a def by its body -/
def startD (N : List Str) (ds : List D) : List Sl := ds.map Sl.val ++ List.replicate (N.length - ds.length) Sl.no
theorem reps_at {K : PySem.W.Frag} {pa : Option Pn} {F : Hp} {vs : List V} {ds : List D} (r : Reps K pa F vs ds) {N : List Str} {i : Nat} {s : Sl} {v : Option V} (h1 : (startD N ds)[i]? = some s) (h2 : (start N vs)[i]? = some v) (W : Wd) (hK : W.K = K) (hp : W.pa = pa) {H : Hp} : SlOk W F H s v := by
  subst hK hp
  unfold startD at h1
  unfold L2.start at h2
  by_cases hi : i < ds.length
  · rw [List.getElem?_append_left (by simpa using hi), List.getElem?_map, List.getElem?_eq_getElem hi] at h1
    have hv : i < vs.length := by rw [r.length]; exact hi
    rw [List.getElem?_append_left (by simpa using hv), List.getElem?_map, List.getElem?_eq_getElem hv] at h2
    cases h1
    cases h2
    obtain ⟨d, e1, e2⟩ := r.get (List.getElem?_eq_getElem hv)
    rw [List.getElem?_eq_getElem hi] at e1
    cases e1
    exact e2
  · rw [List.getElem?_append_right (by simpa using hi), List.getElem?_replicate] at h1
    split at h1
    · cases h1; trivial
    · cases h1
theorem startD_own {N : List Str} {ds : List D} {i : Nat} {es : List D} (h : (startD N ds)[i]? = some (.own es)) : False := by
  unfold startD at h
  by_cases hi : i < ds.length
  · rw [List.getElem?_append_left (by simpa using hi), List.getElem?_map, List.getElem?_eq_getElem hi] at h
    cases h
  · rw [List.getElem?_append_right (by simpa using hi), List.getElem?_replicate] at h
    split at h <;> cases h
theorem body_ok {K : PySem.W.Frag} {c : DC} {t : TS} {kb : KS} {N ps : List Str} (hl : ps.length ≤ N.length) (long : ∀ ds n Q, c ds n Q → ds.length = ps.length) (h : SpS K t kb) (hc : ∀ ds n Q, c ds n Q → kb ⟨fun _ n' => Q .non n', Q, fun _ _ => False, fun _ _ => False⟩ (startD N ds) n)
    {vs : List V} {H : Hp} {Q : VK} {E : XK} (q : spD K c vs H Q E) : t ⟨fun _ H' => Q .non H', Q, fun _ _ => False, fun _ _ => False⟩ (start N vs) H := by
  obtain ⟨pa, F, n, ds, Qd, w, r, q1, q2⟩ := q
  have e := long ds n Qd q1
  refine h ⟨K, pa, F, H⟩ F n (startD N ds) (start N vs) H _ _ rfl ⟨w, ?_, fun i s v h1 h2 => reps_at r h1 h2 _ rfl rfl, fun i j p es fs h1 _ _ _ => (startD_own h1).elim⟩ (hc ds n Qd q1) ⟨fun F' n' S' σ' H' f A' z => q2 _ H' F' n' _ A'.w .non z, fun F' n' v d H' f w' r' z => q2 v H' F' n' d w' r' z, fun _ _ _ _ _ _ _ z => z.elim, fun _ _ _ _ _ _ _ z => z.elim⟩
  unfold startD L2.start
  rw [List.length_append, List.length_append, List.length_map, List.length_map, List.length_replicate, List.length_replicate, r.length]
section
variable {P : Program} {w : World} {K : PySem.W.Frag} {mg : Str → Option Value} {base : Heap} {k : Nat} {f : Addr} {fd : FuncData} {N ps : List Str} {c : DC} {x qual : Str} {st : Stmt}
theorem Stand.of {A : Around} {env : Env} (hr : Room k (A.deeper env)) (hg : A.guards = some []) (X : Cx) (e : X.A = A.deeper env) : Stand X k := ⟨e ▸ hr, by rw [e]; exact hg⟩
/-- THE RULE: the walk of the body, then what is to be shown over data -/
theorem def_ok (F : Fun K x qual st f fd) (S : FnScope N ps (defScope st)) (long : ∀ ds n Q, c ds n Q → ds.length = ps.length)
    (walk : ∀ (cdv : Value) (A : Around) (outer : List Env) (s : Shared) (H : Hp) (E : XK), Stand (cxOf CX0 P w K mg base N qual (defScope st) f cdv A outer s H E).nox k →
      ∃ t kb, DSs (cxOf CX0 P w K mg base N qual (defScope st) f cdv A outer s H E).nox (defBody st) t kb ∧ ∀ ds n Q, c ds n Q → kb ⟨fun _ n' => Q .non n', Q, fun _ _ => False, fun _ _ => False⟩ (startD N ds) n) :
    FnG P w K mg base CX0 (k + 1) f fd ps (spD K c) := by
  obtain ⟨oc, od, kV, doc, pm, an, cdv, ct, osl, rfl, lk, hcd⟩ := F.ex
  have hl : ps.length ≤ N.length := by
    have := congrArg List.length S.pre
    rw [List.length_take] at this
    omega
  refine FnG.mk' lk hcd S (fun vs H Q E q => ?_) fun A outer s H vs Q E hr hg q => ?_
  · obtain ⟨pa, F, n, ds, Qd, w, r, q1, q2⟩ := q
    rw [r.length]
    exact long ds n Qd q1
  · obtain ⟨t, kb, h1, h2⟩ := walk cdv A outer s H E (Stand.of hr hg _ rfl)
    exact ⟨t, h1.pe.nox, body_ok hl long h1.ok h2 q⟩
end
end DL
namespace DL
open PySem PySem.Spec PyProof.Rows L2
/-! ### the pen -/
section
variable {X : Cx}
theorem pen_at {W : Wd} {F H : Hp} {n : Nat} {S : List Sl} {σ : St} (A : Abs W F n S σ H) {i : Nat} {cs : List Int} (e : S[i]? = some (.val (.pen cs))) :
    ∃ a ca turn rst, σ[i]? = some (some (.ref a)) ∧ W.pa = some (a, cs) ∧ F a = none ∧ H a = some (.lst [.ref ca, .int turn, .int rst]) ∧ F ca = some (.lst (cs.map V.int)) ∧ 0 ≤ turn ∧ turn ≤ (n : Int) ∧ 0 ≤ rst := by
  obtain ⟨v, e2, ok⟩ := slot_of A e
  cases v with
  | none => exact ok.elim
  | some v =>
    cases ok with
    | pen hp =>
      rename_i a
      have hq : pad W.pa = some a := by rw [hp]; rfl
      obtain ⟨h1, ca, turn, rst, h2, h3, h4⟩ := A.w.pen a hq
      have ec : pcs W.pa = cs := by rw [hp]; rfl
      rw [ec] at h3
      exact ⟨a, ca, turn, rst, e2, hp, h1, h2, h3, h4⟩
def kPen0 (i : Nat) : KE := fun S n Q => match S[i]? with
  | some (.val (.pen cs)) => Q (.lst (cs.map D.int)) S n
  | _ => False
def kPen1 (i : Nat) : KE := fun S n Q => match S[i]? with
  | some (.val (.pen _)) => ∀ t : Int, 0 ≤ t → t ≤ (n : Int) → Q (.int t) S n
  | _ => False
def kPen2 (i : Nat) : KE := fun S n Q => match S[i]? with
  | some (.val (.pen _)) => ∀ t : Int, 0 ≤ t → Q (.int t) S n
  | _ => False
variable {x : Str} {p q pos : Pos} {j : Nat}
abbrev tPen (K : PySem.W.Frag) (i : Nat) (z : Int) : TE := tOp (rIx K) (tVar i) (tC (.int z))
theorem val_pen {S : List Sl} {i : Nat} {Q : List Int → Prop} (h : match S[i]? with | some (.val (.pen cs)) => Q cs | _ => False) : ∃ cs, S[i]? = some (.val (.pen cs)) ∧ Q cs := by
  cases e : S[i]? with
  | none => rw [e] at h; exact h.elim
  | some s =>
    rw [e] at h
    cases s with
    | no => exact h.elim
    | own _ => exact h.elim
    | val d =>
      cases d <;> try exact False.elim h
      case pen cs => exact ⟨cs, rfl, h⟩
theorem de_pen0 (i : Nat) (h : PE X (.Name x p) (tVar i) := by exact pv i) : DE X (.Subscript (.Name x p) (.Constant (.int 0) j q) pos) (tPen X.K i 0) (kPen0 i) := by
  refine ⟨pe_ix ix_seq h pe_int fun _ _ => rfl, fun W F n S σ H Q R hK A k fin => ?_⟩
  obtain ⟨cs, e, k⟩ := val_pen (Q := fun cs => Q (.lst (cs.map D.int)) S n) k
  obtain ⟨a, ca, turn, rst, e1, e2, e3, e4, e5, e6⟩ := pen_at A e
  exact ⟨_, e1, .inl ⟨a, _, 0, _, rfl, rfl, SqL.of e4, atI_nat (j := 0) rfl, fin _ H F n S _ .refl A (.lst e5 (Reps.ints cs)) k⟩⟩
theorem de_pen1 (i : Nat) (h : PE X (.Name x p) (tVar i) := by exact pv i) : DE X (.Subscript (.Name x p) (.Constant (.int 1) j q) pos) (tPen X.K i 1) (kPen1 i) := by
  refine ⟨pe_ix ix_seq h pe_int fun _ _ => rfl, fun W F n S σ H Q R hK A k fin => ?_⟩
  obtain ⟨cs, e, k⟩ := val_pen (Q := fun cs => ∀ t : Int, 0 ≤ t → t ≤ (n : Int) → Q (.int t) S n) k
  obtain ⟨a, ca, turn, rst, e1, e2, e3, e4, e5, e6, e7, e8⟩ := pen_at A e
  exact ⟨_, e1, .inl ⟨a, _, 1, _, rfl, rfl, SqL.of e4, atI_nat (j := 1) rfl, fin _ H F n S _ .refl A (.int _) (k turn e6 e7)⟩⟩
theorem de_pen2 (i : Nat) (h : PE X (.Name x p) (tVar i) := by exact pv i) : DE X (.Subscript (.Name x p) (.Constant (.int 2) j q) pos) (tPen X.K i 2) (kPen2 i) := by
  refine ⟨pe_ix ix_seq h pe_int fun _ _ => rfl, fun W F n S σ H Q R hK A k fin => ?_⟩
  obtain ⟨cs, e, k⟩ := val_pen (Q := fun cs => ∀ t : Int, 0 ≤ t → Q (.int t) S n) k
  obtain ⟨a, ca, turn, rst, e1, e2, e3, e4, e5, e6, e7, e8⟩ := pen_at A e
  exact ⟨_, e1, .inl ⟨a, _, 2, _, rfl, rfl, SqL.of e4, atI_nat (j := 2) rfl, fin _ H F n S _ .refl A (.int _) (k rst e8)⟩⟩
/-- the pen's list is written -/
theorem Abs.ink {W : Wd} {F H : Hp} {n n' : Nat} {S : List Sl} {σ : St} {a ca : Addr} {cs : List Int} {t r : Int} (A : Abs W F n S σ H) (hp : W.pa = some (a, cs)) (h1 : F a = none) (h2 : F ca = some (.lst (cs.map V.int))) (ht : 0 ≤ t) (ht2 : t ≤ (n' : Int)) (hr : 0 ≤ r) :
    Abs W F n' S σ (upd H a (.lst [.ref ca, .int t, .int r])) := by
  have pa : pad W.pa = some a := by rw [hp]; rfl
  have pc : pcs W.pa = cs := by rw [hp]; rfl
  refine ⟨⟨fun b o z => ?_, fun b z => ?_, fun b o z k => ?_, fun b z => ?_, A.w.f0, A.w.nf⟩, A.len, fun j s v z1 z2 => ?_, A.di⟩
  · rw [upd_ne (fun y => by rw [y, h1] at z; cases z)]
    exact A.w.sub _ _ z
  · have eb : b = a := by rw [pa] at z; cases z; rfl
    subst eb
    exact ⟨h1, ca, t, r, upd_same, by rw [pc]; exact h2, ht, ht2, hr⟩
  · rw [upd_ne (fun y => k (by rw [y]; exact pa))]
    exact A.w.old _ _ z k
  · have eb : b = a := by rw [pa] at z; cases z; rfl
    subst eb
    rw [upd_same]
    intro z; cases z
  · have ok := A.sl j s v z1 z2
    cases s with
    | no => trivial
    | val d =>
      cases v with
      | none => exact ok.elim
      | some v => exact ok
    | own es =>
      cases v with
      | none => exact ok.elim
      | some v =>
        cases v with
        | ref b =>
          obtain ⟨k1, k2, k3, ws, k4, k5⟩ := ok
          have nb : b ≠ a := fun y => k3 (y ▸ pa)
          exact ⟨k1, k2, k3, ws, by rw [upd_ne nb]; exact k4, k5⟩
        | _ => exact ok.elim
variable {e : Expr} {te : TE} {k : KE} {st : Stmt}
def asInt (d : D) (f : Int → Prop) : Prop := match d with
  | .int t => f t
  | _ => False
def kInk1 (i : Nat) (k : KE) : KS := fun E S n => k S n fun d S1 n1 => match S1[i]? with
  | some (.val (.pen _)) => asInt d fun t => (0 ≤ t ∧ t ≤ (n1 : Int) + 1) ∧ E.nx S1 (n1 + 1)
  | _ => False
def kInk2 (i : Nat) (k : KE) : KS := fun E S n => k S n fun d S1 n1 => match S1[i]? with
  | some (.val (.pen _)) => asInt d fun t => 0 ≤ t ∧ E.nx S1 n1
  | _ => False
theorem ds_ink1 (i : Nat) (h : DE X e te k) (hp : PE X e te → PS X st (tAsg te (gSub (tVar i) (tC (.int 1)) rSetL))) : DS X st (tAsg te (gSub (tVar i) (tC (.int 1)) rSetL)) (kInk1 i k) := by
  refine ⟨hp h.pe, fun W F n S σ H E R hK A q fin => ?_⟩
  refine h.ok W F n S σ H _ _ hK A q fun v H1 F1 n1 S1 d g1 A1 r q1 => ?_
  obtain ⟨cs, e0, q1⟩ := val_pen (Q := fun _ => asInt d fun t => (0 ≤ t ∧ t ≤ (n1 : Int) + 1) ∧ E.nx S1 (n1 + 1)) q1
  obtain ⟨a, ca, turn, rst, e1, e2, e3, e4, e5, e6, e7, e8⟩ := pen_at A1 e0
  cases d <;> try exact False.elim q1
  case int t =>
    cases r
    refine ⟨_, e1, a, _, 1, 1, rfl, rfl, e4, rfl, ?_⟩
    exact fin.nx F1 (n1 + 1) S1 σ _ g1.f (A1.ink e2 e3 e5 q1.1.1 q1.1.2 e8) q1.2
theorem ds_ink2 (i : Nat) (h : DE X e te k) (hp : PE X e te → PS X st (tAsg te (gSub (tVar i) (tC (.int 2)) rSetL))) : DS X st (tAsg te (gSub (tVar i) (tC (.int 2)) rSetL)) (kInk2 i k) := by
  refine ⟨hp h.pe, fun W F n S σ H E R hK A q fin => ?_⟩
  refine h.ok W F n S σ H _ _ hK A q fun v H1 F1 n1 S1 d g1 A1 r q1 => ?_
  obtain ⟨cs, e0, q1⟩ := val_pen (Q := fun _ => asInt d fun t => 0 ≤ t ∧ E.nx S1 n1) q1
  obtain ⟨a, ca, turn, rst, e1, e2, e3, e4, e5, e6, e7, e8⟩ := pen_at A1 e0
  cases d <;> try exact False.elim q1
  case int t =>
    cases r
    refine ⟨_, e1, a, _, 2, 2, rfl, rfl, e4, rfl, ?_⟩
    exact fin.nx F1 n1 S1 σ _ g1.f (A1.ink e2 e3 e5 e6 e7 q1.1) q1.2
end
/-! ### the law -/
def spLaw (K : PySem.W.Frag) : Sp := fun vs H Q _ => ∃ (a : Addr) (ns : List Int), vs = [.ref a] ∧ SqL K H a (ns.map V.int) ∧ ns.length ≤ 63 ∧ ∀ H', Q (.bl true) H'
/-- what makes the pen -/
def spPen (K : PySem.W.Frag) : Sp := fun vs H Q _ => ∃ (a : Addr) (ns : List Int), vs = [.ref a] ∧ SqL K H a (ns.map V.int) ∧ ns.length ≤ 63 ∧
  ∀ (H' : Hp) (p ca : Addr) (cs : List Int), Same H H' → p ≠ ca → H p = none → H ca = none → H' p = some (.lst [.ref ca, .int 0, .int 0]) → H' ca = some (.lst (cs.map V.int)) → Q (.ref p) H'
/-- the law's body behind the making of the pen, which stands in slot 1 -/
theorem law_body {X : Cx} {H : Hp} {a p ca : Addr} {cs : List Int} {m : Nat} {sts : List Stmt} {t : TS} {k : KS} {R : Ends} (h : DSs X sts t k) (npc : p ≠ ca) (hp : H p = some (.lst [.ref ca, .int 0, .int 0])) (hc : H ca = some (.lst (cs.map V.int)))
    (q : k ⟨fun _ _ => False, fun d _ => d = .bl true, fun _ _ => False, fun _ _ => False⟩ (.no :: .val (.pen cs) :: List.replicate m .no) 0) (fin : ∀ H', R.rt (.bl true) H') : t R (some (.ref a) :: some (.ref p) :: List.replicate m none) H := by
  have hF : (upd (fun _ => none) ca (.lst (cs.map V.int)) : Hp) ca = some (.lst (cs.map V.int)) := upd_same
  have nF : (upd (fun _ => none) ca (.lst (cs.map V.int)) : Hp) p = none := by rw [upd_ne npc]
  have only : ∀ b o, (upd (fun _ => none) ca (.lst (cs.map V.int)) : Hp) b = some o → b = ca ∧ o = .lst (cs.map V.int) := fun b o z => by
    by_cases y : b = ca
    · subst y; rw [upd_same] at z; cases z; exact ⟨rfl, rfl⟩
    · rw [upd_ne y] at z; cases z
  refine h.ok ⟨X.K, some (p, cs), fun _ => none, fun _ => none⟩ (upd (fun _ => none) ca (.lst (cs.map V.int))) 0 _ _ H _ R rfl ⟨⟨fun b o z => ?_, fun b z => ?_, fun b o z => ?_, fun b z => ?_, fun b o z => ?_, fun b o z => .inr rfl⟩, ?_, fun i s v z1 z2 => ?_, fun i j b ds es z1 z2 => ?_⟩ q
    ⟨fun _ _ _ _ _ _ _ z => z.elim, fun F' n' v d H' f w r z => ?_, fun _ _ _ _ _ _ _ z => z.elim, fun _ _ _ _ _ _ _ z => z.elim⟩
  · obtain ⟨rfl, rfl⟩ := only b o z
    exact hc
  · have e : b = p := by cases z; rfl
    subst e
    exact ⟨nF, ca, 0, 0, hp, hF, Int.le_refl _, Int.le_refl _, Int.le_refl _⟩
  · cases (show (none : Option HO) = some o from z)
  · have e : b = p := by cases z; rfl
    subst e
    rw [hp]
    intro z; cases z
  · cases (show (none : Option HO) = some o from z)
  · simp
  · match i with
    | 0 => cases z1; trivial
    | 1 =>
      cases z1
      cases z2
      exact .pen rfl
    | i + 2 =>
      have z1 : (List.replicate m Sl.no)[i]? = some s := z1
      rw [List.getElem?_replicate] at z1
      split at z1
      · cases z1; trivial
      · cases z1
  · match i with
    | 0 => cases z1
    | 1 => cases z1
    | i + 2 =>
      have z1 : (List.replicate m Sl.no)[i]? = some (.own ds) := z1
      rw [List.getElem?_replicate] at z1
      split at z1 <;> cases z1
  · have z : d = .bl true := z
    subst z
    cases r
    exact fin H'
section
variable {P : Program} {w : World} {K : PySem.W.Frag} {mg mb : Str → Option Value} {CX : CXT} {k : Nat} {fa a : Addr} {fd : FuncData} {x : Str} {sp : Sp} {s1 : Shared} {vs : List Value} {ns : List Int}
/-- the law's call at the heap behind the top -/
theorem law_goes (KX : K.In s1.heap) (hns : s1.heap.Ns mainGlobals mg) (hb : s1.heap.Ns builtinsNs mb) (hbb : ∀ x : Str, x ≠ "__name__" → mb x = bootBuiltins x) (hlim : s1.heap.NoLimit) (hg : s1.gens = #[])
    (ha : s1.heap.get? a = some { cls := .type "list", data := .seq vs.toArray }) (hi : IntsAre vs ns) (hl : ns.length ≤ sizeLine) (hr : Room k callerA)
    (F : ∀ base : Heap, K.In base → base.Ns mainGlobals mg → FnG P w K mg base CX k fa fd [x] sp) (hbind : ∀ (s : Shared) (u : Value), BindsTo s fd ⟨[u], []⟩ [(x, u)])
    (hsp : ∀ H : Hp, SqL K H a (ns.map V.int) → sp [.ref a] H (fun v _ => v = .bl true) fun _ _ _ => False)
    (hCX : ∀ H e s', CX [] H s1 (fun _ _ _ => False) e s' → False) :
    codeAny (model P w) callerA (.call (.ref fa) ⟨[.ref a], []⟩) (fun r s' => r = .ok (.ret (.bool true)) ∧ OldK s1.heap s'.heap ∧ s'.os = s1.os ∧ AllBare s'.gens) s1 := by
  -- the abstract heap: the script alone, locked, unless the module holds it
  have core : ∀ H : Hp, SqL K H a (ns.map V.int) → HOk P w H s1.heap → (∀ b u, H b = some u → b = a ∧ K.lookup b = none ∧ ∃ o xs, u = .frz o (.lst xs)) →
      codeAny (model P w) callerA (.call (.ref fa) ⟨[.ref a], []⟩) (fun r s' => r = .ok (.ret (.bool true)) ∧ OldK s1.heap s'.heap ∧ s'.os = s1.os ∧ AllBare s'.gens) s1 := by
    intro H hS ok only
    have down : ∀ {b : Addr} {o : Obj}, s1.heap.get? b = some o → (∀ its, o.data ≠ .seq its 0) ∨ H b = none → (hidT s1.heap H).get? b = some o := by
      intro b o z y
      refine hidT_get z ?_
      rcases y with y | y
      · cases q : H b with
        | none => rfl
        | some u =>
          obtain ⟨e, _⟩ := only b u q
          subst e
          rw [ha] at z
          cases z
          exact absurd rfl (y _)
      · exact y
    have nsd : ∀ {b : Addr} {m : Str → Option Value}, s1.heap.Ns b m → (hidT s1.heap H).Ns b m := by
      rintro b m ⟨o, es, ep, z, d, r⟩
      exact ⟨o, es, ep, down z (.inl fun its y => by rw [d] at y; cases y), d, r⟩
    have kin : K.In (hidT s1.heap H) := fun b o z => down (KX b o z) (.inr (by
      cases q : H b with
      | none => rfl
      | some u => rw [(only b u q).2.1] at z; cases z))
    have hM : Mod K mg (hidT s1.heap H) := by
      obtain ⟨mc, z1, z2⟩ := hlim
      exact ⟨kin, nsd hns, ⟨mb, nsd hb, hbb⟩, ⟨mc, nsd z1, z2⟩⟩
    have e0 : Env0 P w K mg (hidT s1.heap H) callerA [] s1 H := by
      refine ⟨rfl, hM, fun b o z => of_hidT z, Nat.le_of_eq (hidT_size _ _), trivial, fun b z => ?_, ok, .of_eq hg⟩
      exact absurd (show b ∈ ([] : List Addr) from z) List.not_mem_nil
    refine codeAny_mono ((F _ kin (nsd hns)).goes callerA [] s1 H ⟨[.ref a], []⟩ [.ref a] [.ref a] _ _ hr rfl e0 (hbind s1 (.ref a)) (.cons rfl .nil) (hsp H hS)) ?_
    intro r s' z
    cases r with
    | error e => exact (hCX H e s' z).elim
    | ok fl =>
      cases fl with
      | ret u =>
        obtain ⟨v, H', os, bare, un, ok', r', q⟩ := z
        cases (show v = .bl true from q)
        cases (show u = Value.bool true from r')
        refine ⟨rfl, OldK.of_keep fun b o y => ?_, os, bare⟩
        cases qb : H b with
        | none => exact un.keep b o y qb (fun z => absurd (show b ∈ ([] : List Addr) from z) List.not_mem_nil) List.not_mem_nil
        | some u =>
          obtain ⟨_, _, ob, xs, rfl⟩ := only b u qb
          obtain ⟨e1, _⟩ := ok b _ qb
          obtain ⟨e2, _⟩ := ok' b _ (un.frzs b ob _ qb)
          rw [y] at e1
          cases e1
          exact e2
      | _ => exact False.elim z
  have rv := vals_ints hi
  have lv := hi.length
  cases hk : K.lookup a with
  | some o =>
    have z := KX a o hk
    rw [ha] at z
    cases z
    refine core (fun _ => none) (.inr ⟨_, vs.toArray, _, hk, rfl, rfl, rfl, by rw [List.size_toArray, lv]; exact hl, by simpa using rv⟩) (fun b u z => ?_) (fun b u z => ?_) <;> cases (show (none : Option HO) = some u from z)
  | none =>
    have at_ : ∀ b u, upd (fun _ => none) a (.frz { cls := .type "list", data := .seq vs.toArray } (.lst (ns.map V.int))) b = some u → b = a ∧ u = .frz { cls := .type "list", data := .seq vs.toArray } (.lst (ns.map V.int)) := fun b u z => by
      by_cases y : b = a
      · subst y; rw [upd_same] at z; cases z; exact ⟨rfl, rfl⟩
      · rw [upd_ne y] at z; cases z
    refine core (upd (fun _ => none) a (.frz { cls := .type "list", data := .seq vs.toArray } (.lst (ns.map V.int)))) (.inl (.inr ⟨_, upd_same⟩)) (fun b u z => ?_) (fun b u z => ?_)
    · obtain ⟨rfl, rfl⟩ := at_ b u z
      exact ⟨ha, by rw [List.length_map]; exact hl, vs, _, rv, ha⟩
    · obtain ⟨rfl, rfl⟩ := at_ b u z
      exact ⟨rfl, hk, _, _, rfl⟩
end
/-- the goal that the head leaves -/
theorem walk_ofG {l : PySem.W.OpenLaw} {k : Nat} {q : Program} {loose : List Str} {XP : (Str → Option Value) → Heap → Prop} {YP : World → Heap → Prop} {d : DefRec} {K : Params → PySem.W.Frag}
    (hn : l.most = some 63) (hdf : d.params.defaults = []) (hr : Room k callerA) (hY : ∀ (w : World) (h : Heap), YP w h → (K w.params).In h)
    (F : ∀ (w : World) (mg : Str → Option Value) (fa : Addr) (h : Heap), (K w.params).In h → h.Ns mainGlobals mg → mg d.name = some (.ref fa) →
      ∃ fd : FuncData, (∀ (s : Shared) (u : Value), BindsTo s fd ⟨[u], []⟩ [("script", u)]) ∧
        ∀ base : Heap, (K w.params).In base → base.Ns mainGlobals mg → FnG l.prog w (K w.params) mg base CX0 k fa fd ["script"] (spLaw (K w.params))) :
    PySem.W.WalkO q loose XP YP l.row.toRowW d [] (fun f vs => PySem.call f vs) := by
  refine Att.attach_call hn hdf ?_
  intro w s0 s1 mg mb fa o pm cd doc a vs ns G Y ho hd hcd hmg hobj hints hlen hg
  have KX := hY w _ Y
  obtain ⟨fd, hb, hF⟩ := F w mg fa _ KX G.T.g hmg
  refine law_goes KX G.T.g G.T.b G.T.builtins G.T.nolimit hg hobj hints (Nat.le_trans hlen (by decide)) hr hF hb (fun H hS => ?_) (fun _ _ _ z => z)
  exact ⟨a, ns, rfl, hS, hlen, fun _ => rfl⟩
end DL
namespace DL
open PySem PySem.Spec PyProof.Rows L2
/-! ### calls with keywords -/
/-- the parameters' values: places in the positional ones and the keywords' ones behind them -/
def permed {α : Type} (z : α) (perm : List Nat) (us : List α) : List α := perm.map fun j => us.getD j z
theorem vals_permed {vs : List V} {us : List Value} (r : Vals vs us) : ∀ perm, Vals (permed V.non perm vs) (permed Value.none perm us)
  | [] => .nil
  | j :: perm => by
    refine .cons ?_ (vals_permed r perm)
    show RelV (vs.getD j V.non) (us.getD j Value.none)
    rw [List.getD_eq_getElem?_getD, List.getD_eq_getElem?_getD]
    cases e : vs[j]? with
    | none => rw [r.none_of e]; rfl
    | some v =>
      obtain ⟨u, e2, h⟩ := r.get e
      rw [e2]
      exact h
theorem reps_permed {K : PySem.W.Frag} {pa : Option Pn} {F : Hp} {vs : List V} {ds : List D} (r : Reps K pa F vs ds) : ∀ perm, Reps K pa F (permed V.non perm vs) (permed D.non perm ds)
  | [] => .nil
  | j :: perm => by
    refine .cons ?_ (reps_permed r perm)
    show Rep K pa F (vs.getD j V.non) (ds.getD j D.non)
    rw [List.getD_eq_getElem?_getD, List.getD_eq_getElem?_getD]
    cases e : vs[j]? with
    | none =>
      have h : ds[j]? = none := by
        have h1 := List.getElem?_eq_none_iff.mp e
        rw [r.length] at h1
        exact List.getElem?_eq_none_iff.mpr h1
      rw [h]
      exact .non
    | some v =>
      obtain ⟨u, e2, h⟩ := r.get e
      rw [e2]
      exact h
structure KwB (K : PySem.W.Frag) (fd : FuncData) (ps : List Str) (n : Nat) (ks : List Str) (perm : List Nat) : Prop where
  to : ∀ (s : Shared) (us ws : List Value), us.length = n → ws.length = ks.length → BindsTo s fd ⟨us, ks.zip ws⟩ (ps.zip (permed Value.none perm (us ++ ws)))
theorem kwb_mk {K : PySem.W.Frag} {x qual : Str} {st : Stmt} {f : Addr} {fd : FuncData} {ps ks : List Str} {n : Nat} {perm : List Nat} (F : Fun K x qual st f fd)
    (h : ∀ (kV doc pm : Value) (an : Option Addr) (cdv ct : Value) (us ws : List Value), us.length = n → ws.length = ks.length →
      bindArgs (PySem.W.fnOf x qual (defArgs st) (defBody st) (defScope st) .none kV doc pm an cdv ct) ⟨us, ks.zip ws⟩ = pure (ps.zip (permed Value.none perm (us ++ ws)))) : KwB K fd ps n ks perm := by
  obtain ⟨oc, od, kV, doc, pm, an, cdv, ct, osl, rfl, lk, hcd⟩ := F.ex
  exact ⟨fun s us ws h1 h2 => .of_eq (h kV doc pm an cdv ct us ws h1 h2)⟩
section
variable {X : Cx} {CX : CXT} {k j n : Nat} {f : Addr} {fd : FuncData} {ps ks : List Str} {perm : List Nat} {sp : Sp} {E : XK} {x : Str} {p pos : Pos} {e : Expr} {es : List Expr} {kws : List Keyword} {t tk : TA}
def tKw (sp : Sp) (perm : List Nat) (n m : Nat) (E : XK) (t tk : TA) : TE := fun σ H Q => t σ H fun vs H1 => tk σ H1 fun zs H2 => vs.length = n ∧ zs.length = m ∧ sp (permed V.non perm (vs ++ zs)) H2 Q E
theorem FnG.runK {pins : List (Addr × Obj)} {σ : St} {H : Hp} {s : Shared} {Q : VK} {us ws : List Value} {vs zs : List V} (F : FnG X.prog X.w X.K X.mg X.base CX k f fd ps sp) (hr : Room k X.A) (hgd : X.A.guards = some []) (hb : KwB X.K fd ps n ks perm) (hx : Passes CX X E)
    (I : Inv X pins σ H s) (r : Vals vs us) (rz : Vals zs ws) (l1 : vs.length = n) (l2 : zs.length = ks.length) (h : sp (permed V.non perm (vs ++ zs)) H Q E) : wpAny (model X.prog X.w) X.A (PySem.call (.ref f) us (ks.zip ws)) (EP X pins σ Q) X.xe s := by
  refine wpAny_call (codeAny_mono (F.call (us := us) (vs := vs) hr hgd hx I (hb.to s us ws (r.length.symm.trans l1) (rz.length.symm.trans l2)) (vals_permed (r.append rz) perm) h) ?_)
  intro res s' z
  cases res with
  | error e => exact z
  | ok fl => cases fl <;> first | exact z | exact False.elim z
theorem pe_kw (F : FnG X.prog X.w X.K X.mg X.base CX k f fd ps sp) (hr : Room k X.A) (hgd : X.A.guards = some []) (hg : Gl X x) (hm : X.mg x = some (.ref f)) (hk : PySem.W.keepIn X.K (.ref f) = true) (hb : KwB X.K fd ps n ks perm) (hx : Passes CX X E)
    (ha : PA X (e :: es) t) (hkw : PK X kws tk) (hall : (backToKw pos (keywordEach kws X.env)).all (·.1.isSome) = true := by rfl) (hks : (backToKw pos (keywordEach kws X.env)).filterMap (·.1) = ks := by rfl)
    (hdb : (x == ("__debug__" : Str)) = false := by decide) (he : starEach (e :: es) X.env = (false, eval e X.env) :: starEach es X.env := by rfl)
    (hpl : ((backTo pos (starEach (e :: es) X.env)).any (·.1) || (backToKw pos (keywordEach kws X.env)).any (·.1.isNone)) = false := by rfl) :
    PE X (.Call (.Name x p) (e :: es) kws pos) (tKw sp perm n ks.length E t tk) := by
  constructor
  intro pins s σ H Q I h
  refine wpAny_Call_Name_kw (ld_glob I hg hm ?_ hdb)
  refine PySem.W.callWith_KW (h₀ := X.base) I.ok.mod.kin hk hall (thn (ha.run pos pins s σ H _ I h) ?_) hpl he
  rintro us s1 ⟨vs, H1, I1, r, q⟩
  refine thn (hkw.run pos pins s1 σ H1 _ I1 q) ?_
  rintro ws s2 ⟨zs, H2, I2, rz, l1, l2, q2⟩
  refine ⟨I2.kIn, ?_⟩
  rw [hks]
  exact F.runK hr hgd hb hx I2 r rz l1 l2 q2
theorem pe_kw0 (F : FnG X.prog X.w X.K X.mg X.base CX k f fd ps sp) (hr : Room k X.A) (hgd : X.A.guards = some []) (hg : Gl X x) (hm : X.mg x = some (.ref f)) (hk : PySem.W.keepIn X.K (.ref f) = true) (hb : KwB X.K fd ps 0 ks perm) (hx : Passes CX X E)
    (hkw : PK X kws tk) (hall : (backToKw pos (keywordEach kws X.env)).all (·.1.isSome) = true := by rfl) (hks : (backToKw pos (keywordEach kws X.env)).filterMap (·.1) = ks := by rfl) (hdb : (x == ("__debug__" : Str)) = false := by decide)
    (hpl : ((backTo pos (starEach [] X.env)).any (·.1) || (backToKw pos (keywordEach kws X.env)).any (·.1.isNone)) = false := by rfl) :
    PE X (.Call (.Name x p) [] kws pos) (tKw sp perm 0 ks.length E tNil tk) := by
  constructor
  intro pins s σ H Q I h
  refine wpAny_Call_Name_kw (ld_glob I hg hm ?_ hdb)
  refine PySem.W.callWith_KW0 (h₀ := X.base) I.ok.mod.kin hk hall (thn (hkw.run pos pins s σ H _ I h) ?_) hpl
  rintro ws s2 ⟨zs, H2, I2, rz, l1, l2, q2⟩
  refine ⟨I2.kIn, ?_⟩
  rw [hks]
  exact F.runK (us := []) (vs := []) hr hgd hb hx I2 .nil rz rfl l2 q2
structure DK (X : Cx) (kws : List Keyword) (t : TA) (k : KA) : Prop where
  pe : PK X kws t
  ok : SpA X.K t k
theorem dk_nil : DK X [] tNil kNil := ⟨pk_nil, fun W F n S σ H Q R hK A q fin => fin [] H F n S [] .refl A .nil q⟩
theorem dk_cons {te : TE} {kk : KE} {ka : KA} {nm : Option Str} {kpos : Pos} (h : DE X e te kk) (hs : DK X kws t ka) : DK X (⟨nm, e, kpos⟩ :: kws) (tCons te t) (kCons kk ka) := by
  refine ⟨pk_cons h.pe hs.pe, fun W F n S σ H Q R hK A q fin => ?_⟩
  refine h.ok W F n S σ H _ _ hK A q fun v H1 F1 n1 S1 d g1 A1 r q1 => ?_
  refine hs.ok W F1 n1 S1 σ H1 _ _ hK A1 q1 fun vs H2 F2 n2 S2 ds g2 A2 r2 q2 => ?_
  exact fin _ H2 F2 n2 S2 _ (g1.trans g2) A2 (.cons (Rep.mono g2.f r) r2) q2
def kFnK (c : DC) (perm : List Nat) (n m : Nat) (ka kz : KA) : KE := fun S nn Q => ka S nn fun ds S1 n1 => kz S1 n1 fun zs S2 n2 => ds.length = n ∧ zs.length = m ∧ c (permed D.non perm (ds ++ zs)) n2 fun d n3 => Q d S2 n3
theorem kw_ok {K : PySem.W.Frag} {c : DC} {ka kz : KA} {m : Nat} (h : SpA K t ka) (hz : SpA K tk kz) : SpE K (tKw (spD K c) perm n m E t tk) (kFnK c perm n m ka kz) := by
  intro W F nn S σ H Q R hK A q fin
  refine h W F nn S σ H _ _ hK A q fun vs H1 F1 n1 S1 ds g1 A1 r1 q1 => ?_
  refine hz W F1 n1 S1 σ H1 _ _ hK A1 q1 fun zs H2 F2 n2 S2 es g2 A2 r2 q2 => ?_
  subst hK
  refine ⟨r1.length.trans q2.1, r2.length.trans q2.2.1, W.pa, F2, n2, _, _, A2.w.enter, reps_permed (Reps.append (Reps.mono g2.f r1) r2) perm, q2.2.2, fun v H3 F3 n3 d w3 r3 q3 => ?_⟩
  obtain ⟨g3, A3⟩ := A2.leave w3
  exact fin v H3 F3 n3 S2 d ((g1.trans g2).trans g3) A3 r3 q3
variable {c : DC} {ka kz : KA}
theorem de_kw (F : FnG X.prog X.w X.K X.mg X.base CX0 k f fd ps (spD X.K c)) (st : Stand X j) (hm : X.mg x = some (.ref f)) (hk : PySem.W.keepIn X.K (.ref f) = true) (hb : KwB X.K fd ps n ks perm) (h : DA X (e :: es) t ka) (hz : DK X kws tk kz) (hj : k ≤ j := by decide)
    (hp : FnG X.prog X.w X.K X.mg X.base CX0 k f fd ps (spD X.K c) → Room k X.A → X.A.guards = some [] → X.mg x = some (.ref f) → PySem.W.keepIn X.K (.ref f) = true → KwB X.K fd ps n ks perm → PA X (e :: es) t → PK X kws tk → PE X (.Call (.Name x p) (e :: es) kws pos) (tKw (spD X.K c) perm n ks.length E0 t tk) := by
      intro a b c d e f g h; exact pe_kw a b c (by exact rfl) d e f pass0 g h) :
    DE X (.Call (.Name x p) (e :: es) kws pos) (tKw (spD X.K c) perm n ks.length E0 t tk) (kFnK c perm n ks.length ka kz) := ⟨hp F (st.room.mono hj) st.gd hm hk hb h.pe hz.pe, kw_ok h.ok hz.ok⟩
theorem de_kw0 (F : FnG X.prog X.w X.K X.mg X.base CX0 k f fd ps (spD X.K c)) (st : Stand X j) (hm : X.mg x = some (.ref f)) (hk : PySem.W.keepIn X.K (.ref f) = true) (hb : KwB X.K fd ps 0 ks perm) (hz : DK X kws tk kz) (hj : k ≤ j := by decide)
    (hp : FnG X.prog X.w X.K X.mg X.base CX0 k f fd ps (spD X.K c) → Room k X.A → X.A.guards = some [] → X.mg x = some (.ref f) → PySem.W.keepIn X.K (.ref f) = true → KwB X.K fd ps 0 ks perm → PK X kws tk → PE X (.Call (.Name x p) [] kws pos) (tKw (spD X.K c) perm 0 ks.length E0 tNil tk) := by
      intro a b c d e f g; exact pe_kw0 a b c (by exact rfl) d e f pass0 g) :
    DE X (.Call (.Name x p) [] kws pos) (tKw (spD X.K c) perm 0 ks.length E0 tNil tk) (kFnK c perm 0 ks.length kNil kz) := ⟨hp F (st.room.mono hj) st.gd hm hk hb hz.pe, kw_ok (da_nil (X := X)).ok hz.ok⟩
theorem Stand.blk {s : Shared} {H : Hp} {scope : Scope} {fe : Env} {fp : List Addr} (st : Stand X j) : Stand (X.blk s H scope fe fp) j := ⟨st.room, st.gd⟩
theorem Stand.u64 (st : Stand X j) : X.A.units + 64 < cLine := st.room.units
theorem Stand.u65 (st : Stand X j) : X.A.units + 65 < cLine := by have := st.room.un; omega
end
end DL
namespace DL
open PySem PySem.Spec PyProof.Rows L2
/-! ### the pen's making; the law's body behind it -/
abbrev rToInt : List V → Hp → VK → Prop := fun xs H Q => (∃ i, xs = [.int i] ∧ Q (.int i) H) ∨ ∃ k, xs = [.bl k] ∧ Q (.int (if k then 1 else 0)) H
def tPenT (K : PySem.W.Frag) : TS := tRet (tLst (tCons (tLc (iSeq K (tSl (rSlL K) (tVar 0) tNoPart (tPart (tC (.int 63))))) (gName 1) tYes (tCB rToInt (tCons (tVar 1) tNil)) [1]) (tCons (tC (.int 0)) (tCons (tC (.int 0)) tNil))))
theorem cut_ints (ns : List Int) (lo hi : Option Int) : ∃ cs : List Int, cutV (ns.map V.int) lo hi = cs.map V.int ∧ cs.length ≤ ns.length := by
  refine ⟨(ns.drop (HT.sIx ns.length 0 lo)).take (HT.sIx ns.length ns.length hi - HT.sIx ns.length 0 lo), ?_, ?_⟩
  · unfold cutV
    rw [List.length_map, List.map_take, List.map_drop]
  · rw [List.length_take, List.length_drop]; omega
theorem pen_read {K : PySem.W.Frag} {a : Addr} {ns : List Int} {H : Hp} {Q : VK} (h : SqL K H a (ns.map V.int)) (hl : ns.length ≤ 63)
    (q : ∀ (H' : Hp) (p ca : Addr) (cs : List Int), Same H H' → p ≠ ca → H p = none → H ca = none → H' p = some (.lst [.ref ca, .int 0, .int 0]) → H' ca = some (.lst (cs.map V.int)) → Q (.ref p) H') {E : Ends} (hE : E.rt = Q) :
    tPenT K E [some (.ref a), none] H := by
  show tLst _ _ H E.rt
  rw [hE]
  refine ⟨.ref a, rfl, 63, rfl, a, _, rfl, h, fun c hc => ?_⟩
  obtain ⟨cs, ec, lc⟩ := cut_ints ns none (some 63)
  rw [ec]
  have s1 : Same H (upd H c (.lst (cs.map V.int))) := same_new hc
  refine ⟨c, rfl, .inl ⟨⟨_, SqL.of upd_same⟩, fun D0 hD => ?_⟩⟩
  have nDc : D0 ≠ c := fun e => by rw [e, upd_same] at hD; cases hD
  have hD0 : H D0 = none := by rw [upd_ne nDc] at hD; exact hD
  refine lc_list (xs := cs.map V.int) (fun i H2 => Same (upd H c (.lst (cs.map V.int))) H2 ∧ H2 D0 = some (.lst ((cs.take i).map V.int))) ⟨same_new hD, by rw [upd_same]; rfl⟩ (fun i H2 _ p => SqL.of (p.1 _ _ upd_same)) (fun i x H2 hx p => ?_) (fun H2 p => ?_)
  · rw [List.getElem?_map] at hx
    obtain ⟨z, hz, rfl⟩ := Option.map_eq_some_iff.mp hx
    refine ⟨rfl, ?_⟩
    simp only [tYes, if_true]
    refine ⟨.int z, rfl, .inl ⟨z, rfl, _, p.2, ?_, ?_, ?_⟩⟩
    · rw [List.length_map, List.length_take]
      exact big_lt (by omega)
    · intro b o hb
      have nb : b ≠ D0 := fun e => by rw [e, hD] at hb; cases hb
      rw [upd_ne nb]
      exact p.1 b o hb
    · rw [upd_same, ← List.map_singleton, ← List.map_append]
      rw [List.take_add_one, hz]
      rfl
  · refine ⟨big_ok (by show 3 ≤ 1000000; decide), fun p0 hp0 => ?_⟩
    have np : p0 ≠ D0 := fun e => by rw [e, p.2] at hp0; cases hp0
    have hp : H p0 = none := by
      cases e : H p0 with
      | none => rfl
      | some o => rw [p.1 _ _ (s1 _ _ e)] at hp0; cases hp0
    refine q _ p0 D0 cs (s1.trans (p.1.trans (same_new hp0))) np hp hD0 upd_same ?_
    rw [upd_ne (Ne.symm np), p.2, List.length_map, List.take_length]
section
variable {P : Program} {w : World} {K : PySem.W.Frag} {mg : Str → Option Value} {base : Heap} {k : Nat} {f : Addr} {fd : FuncData} {N : List Str} {x qual : Str} {st : Stmt}
theorem pen_ok (F : Fun K x qual st f fd) (S : FnScope N ["script"] (defScope st)) (hN : N.length = 2)
    (walk : ∀ (cdv : Value) (A : Around) (outer : List Env) (s : Shared) (H : Hp) (E : XK), Stand (cxOf CX0 P w K mg base N qual (defScope st) f cdv A outer s H E).nox 0 → PSs (cxOf CX0 P w K mg base N qual (defScope st) f cdv A outer s H E).nox (defBody st) (tPenT K)) :
    FnG P w K mg base CX0 1 f fd ["script"] (spPen K) := by
  obtain ⟨oc, od, kV, doc, pm, an, cdv, ct, osl, rfl, lk, hcd⟩ := F.ex
  refine FnG.mk' lk hcd S (fun vs H Q E q => ?_) fun A outer s H vs Q E hr hg q => ?_
  · obtain ⟨a, ns, rfl, _⟩ := q; rfl
  · obtain ⟨a, ns, rfl, h1, h2, h3⟩ := q
    refine ⟨_, (walk cdv A outer s H E (Stand.of hr hg _ rfl)).nox, ?_⟩
    have e : L2.start N [V.ref a] = [some (.ref a), none] := by
      unfold L2.start
      rw [hN]
      rfl
    rw [e]
    exact pen_read h1 h2 h3 rfl
/-- the law: the pen first, then its body -/
theorem law_ok (F : Fun K x qual st f fd) (S : FnScope N ["script"] (defScope st)) (m : Nat) (hN : N.length = m + 2)
    (walk : ∀ (cdv : Value) (A : Around) (outer : List Env) (s : Shared) (H : Hp) (E : XK), Stand (cxOf CX0 P w K mg base N qual (defScope st) f cdv A outer s H E).nox k →
      ∃ sts t kb, (PSs (cxOf CX0 P w K mg base N qual (defScope st) f cdv A outer s H E).nox sts t → PSs (cxOf CX0 P w K mg base N qual (defScope st) f cdv A outer s H E).nox (defBody st) (tSeq (tAsg (tCall (spPen K) [] E0 (tCons (tVar 0) tNil)) (gName 1)) t)) ∧
        DSs (cxOf CX0 P w K mg base N qual (defScope st) f cdv A outer s H E).nox sts t kb ∧ ∀ cs, kb ⟨fun _ _ => False, fun d _ => d = .bl true, fun _ _ => False, fun _ _ => False⟩ (.no :: .val (.pen cs) :: List.replicate m .no) 0) :
    FnG P w K mg base CX0 (k + 1) f fd ["script"] (spLaw K) := by
  obtain ⟨oc, od, kV, doc, pm, an, cdv, ct, osl, rfl, lk, hcd⟩ := F.ex
  refine FnG.mk' lk hcd S (fun vs H Q E q => ?_) fun A outer s H vs Q E hr hg q => ?_
  · obtain ⟨a, ns, rfl, _⟩ := q; rfl
  · obtain ⟨a, ns, rfl, h1, h2, h3⟩ := q
    obtain ⟨sts, t, kb, w1, w2, w3⟩ := walk cdv A outer s H E (Stand.of hr hg _ rfl)
    refine ⟨_, (w1 w2.pe).nox, ?_⟩
    have e : L2.start N [V.ref a] = some (.ref a) :: none :: List.replicate m none := by
      unfold L2.start
      rw [hN]
      rfl
    rw [e]
    refine ⟨.ref a, rfl, a, ns, rfl, h1, h2, fun H' p ca cs s1 np _ _ hp hc => ?_⟩
    have z := law_body (a := a) (R := ⟨fun _ H' => Q .non H', Q, fun _ _ => False, fun _ _ => False⟩) w2 np hp hc (w3 cs) h3
    exact z
end
end DL
namespace DL
open PySem PySem.Spec PyProof.Rows L2
section
variable {X : Cx} {st : Stmt} {ts : TA} {ks : KA}
/-- x, y, z = a, b, c (locals) -/
def kPar3 (i j l : Nat) (ks : KA) : KS := fun E S n => ks S n fun ds S1 n1 => match ds with
  | [d, f, g] => E.nx (((S1.set i (.val d)).set j (.val f)).set l (.val g)) n1
  | _ => False
theorem ds_par3 {i j l : Nat} {es : List Expr} (h : DA X es ts ks) (hp : PA X es ts → PS X st (tPar3 i j l ts)) : DS X st (tPar3 i j l ts) (kPar3 i j l ks) := by
  refine ⟨hp h.pe, fun W F n S σ H E R hK A q fin => ?_⟩
  refine h.ok W F n S σ H _ _ hK A q fun vs H1 F1 n1 S1 ds g1 A1 r q1 => ?_
  match ds, r, q1 with
  | [d, f, g], .cons r1 (.cons r2 (.cons r3 .nil)), q1 => exact ⟨_, _, _, rfl, fin.nx F1 n1 _ _ H1 g1.f (((A1.set r1 i).set r2 j).set r3 l) q1⟩
/-- x, y = [..], e: the list is one of the def's own -/
def kParO (i j : Nat) (ka : KA) (ke : KE) : KS := fun E S n => ka S n fun ds S1 n1 => ke S1 n1 fun d S2 n2 => E.nx ((S2.set i (.own ds)).set j (.val d)) n2
theorem ds_parO {i j : Nat} {e1 e2 : Expr} {t1 t2 : TE} {ka : KA} {ke : KE} (h1 : DOw X e1 t1 ka) (h2 : DE X e2 t2 ke) (hs1 : starEach [e1, e2] X.env = (false, eval e1 X.env) :: starEach [e2] X.env := by rfl) (hs2 : starEach [e2] X.env = (false, eval e2 X.env) :: starEach [] X.env := by rfl)
    (hp : PA X [e1, e2] (tCons t1 (tCons t2 tNil)) → PS X st (tPar i j (tCons t1 (tCons t2 tNil)))) : DS X st (tPar i j (tCons t1 (tCons t2 tNil))) (kParO i j ka ke) := by
  refine ⟨hp (pa_cons h1.pe (pa_cons h2.pe pa_nil hs2) hs1), fun W F n S σ H E R hK A q fin => ?_⟩
  refine h1.ok W F n S σ H _ _ hK A q fun D0 us acc H1 F1 n1 S1 g1 A1 f0 h0 p0 hD r no hn q1 => ?_
  refine h2.ok W F1 n1 S1 σ H1 _ _ hK A1 q1 fun v H2 F2 n2 S2 d g2 A2 r2 q2 => ?_
  have hD2 : H2 D0 = some (.lst us) := g2.h _ _ hD p0
  have f2 : F2 D0 = none := by
    cases e : F2 D0 with
    | none => rfl
    | some o =>
      rcases g2.nf _ _ e with y | y | y
      · rw [f0] at y; cases y
      · rw [hD] at y; cases y
      · exact absurd y no
  have no2 : ¬ OwnA S2 σ D0 := fun y => no (g2.os _ y)
  refine ⟨_, _, rfl, fin.nx F2 n2 _ _ H2 (g1.f.trans g2.f) ((A2.setOwn i f2 h0 p0 hD2 (Reps.mono g2.f r) no2).set r2 j) q2⟩
end
/-- a promise that asks too much -/
theorem FnG.never {P : Program} {w : World} {K : PySem.W.Frag} {mg : Str → Option Value} {base : Heap} {k : Nat} {f : Addr} {fd : FuncData} {ps : List Str} {c : DC} (h : ∀ ds n Q, c ds n Q → False) : FnG P w K mg base CX0 k f fd ps (spD K c) := by
  refine ⟨fun vs H Q E q => ?_, fun A outer s H args us vs Q E _ _ _ _ _ q => ?_⟩
  · obtain ⟨pa, F, n, ds, Qd, _, _, q1, _⟩ := q
    exact (h ds n Qd q1).elim
  · obtain ⟨pa, F, n, ds, Qd, _, _, q1, _⟩ := q
    exact (h ds n Qd q1).elim
end DL
namespace L78
open PySem L2 DL
/-! ### what each def answers -/
def bD (b : Bool) : D := .int (if b then 1 else 0)
def rowD (r : List Bool) : D := .tup (r.map bD)
def hot (r : List Bool) : Bool := r.any id
/-- where a word is hot, from k on -/
def posn : Int → List Bool → List Int
  | _, [] => []
  | k, b :: bs => if b = true then k :: posn (k + 1) bs else posn (k + 1) bs
def pairD (p : Int × Int) : D := .tup [.int p.1, .int p.2]
def resD : Option (List (Int × Int)) → D
  | none => .non
  | some ps => .tup (ps.map pairD)
/-- what the law parts off -/
def part1 (g : Int) (x : Int) : List (Int × Int) → List (Int × Int)
  | [] => [(x, x)]
  | [p] => if x - p.2 - 1 < g then [(p.1, x)] else [p, (x, x)]
  | p :: q :: ps => p :: part1 g x (q :: ps)
def parted (g : Int) : List (Int × Int) → List Int → List (Int × Int)
  | acc, [] => acc
  | acc, x :: xs => parted g (part1 g x acc) xs
def bursts (b g : Int) (W : List Int) : Option (List (Int × Int)) := if (parted g [] W).any (fun p => decide (b ≤ p.2 - p.1)) then none else some (parted g [] W)
def mild (b g : Int) (W : List Int) : Bool := !((parted g [] W).any fun p => decide (b ≤ p.2 - p.1))
def ageL (b g a : Nat) : List (Int × Int) := (List.range' 0 (if a = b ∨ g < a then g else a)).map fun c : Nat => ((a : Int), (c : Int))
def phasesL (b g : Nat) : List (Int × Int) := if 0 < g then (0, 0) :: (List.range' 1 b).flatMap (ageL b g) else [(0, 0)]
def after (b g : Int) (p : Int × Int) (w : Bool) : Option (Int × Int) :=
  if g = 0 then some (0, 0) else if w = true then (if p.1 < b then some (p.1 + 1, 0) else none)
  else if p.1 = 0 ∨ p.2 + 1 = g then some (0, 0) else some (if p.1 < b then p.1 + 1 else b, p.2 + 1)
def phD : Option (Int × Int) → D
  | none => .non
  | some p => pairD p
def walkP (b g : Int) (found : List (Int × Int)) (turn : Nat) : List (Int × Int) := match found[turn]? with
  | none => found
  | some p => found ++ ([after b g p false, after b g p true].filterMap id).filter fun q => !(decide (q ∈ found))
def reachP (b g : Int) : Nat → List (Int × Int)
  | 0 => [(0, 0)]
  | k + 1 => walkP b g (reachP b g k) k
def lawPhases (b g : Nat) : List (Int × Int) := (List.range' 0 (b + 1)).flatMap fun a : Nat => ((List.range' 0 (g + 1)).map fun c : Nat => ((a : Int), (c : Int))).filter fun q => decide (q ∈ reachP b g 400)
def canP (b g : Int) : Nat → List Int → Bool
  | 0, W => W.isEmpty
  | N + 1, W => W.isEmpty || (List.range' 0 W.length).any fun i => decide (W.getD i 0 - W.getD 0 0 < b) && (decide (i + 1 = W.length) || decide (g < W.getD (i + 1) 0 - W.getD i 0)) && canP b g N (W.drop (i + 1))
/-- the rows are kept in a list or a tuple -/
def rowsIs (rs : List (List Bool)) (d : D) : Prop := (d = .lst (rs.map rowD) ∨ d = .tup (rs.map rowD)) ∧ rs.length ≤ 1000 ∧ ∀ r ∈ rs, r.length ≤ 1000
def wrongs (rs : List (List Bool)) : List Int := posn 0 (rs.map hot)
def c_is_bit : DC := fun ds n Q => ∃ b, ds = [bD b] ∧ Q (.bl true) n
def c_is_bits : DC := fun ds n Q => ∃ r : List Bool, ds = [rowD r, .int (r.length : Nat)] ∧ r.length ≤ 1000 ∧ Q (.bl true) n
def c_is_between : DC := fun ds n Q => ∃ v lo hi, ds = [.int v, .int lo, .int hi] ∧ Q (.bl (decide (lo ≤ v) && decide (v ≤ hi))) n
def c_need_bursts : DC := fun ds n Q => ∃ b g : Int, ds = [.int b, .int g] ∧ (1 ≤ b ∧ b ≤ 8 ∧ 0 ≤ g ∧ g ≤ 24) ∧ Q .non n
def c_need_steps : DC := fun ds n Q => ∃ rs d, ds = [d] ∧ rowsIs rs d ∧ Q .non n
def c_wrong_steps : DC := fun ds n Q => ∃ rs d, ds = [d] ∧ rowsIs rs d ∧ Q (.lst ((wrongs rs).map D.int)) n
def c_phases : DC := fun ds n Q => ∃ b g : Nat, ds = [.int b, .int g] ∧ (1 ≤ b ∧ b ≤ 8 ∧ g ≤ 24) ∧ Q (.tup ((phasesL b g).map pairD)) n
def c_bursts_of : DC := fun ds n Q => ∃ rs d b g, ds = [d, .int b, .int g] ∧ rowsIs rs d ∧ (1 ≤ b ∧ b ≤ 8 ∧ 0 ≤ g ∧ g ≤ 24) ∧ Q (resD (bursts b g (wrongs rs))) n
def c_law_draw : DC := fun ds n Q => ∃ (cs : List Int) (m : Int), ds = [.pen cs, .int m] ∧ (0 < m ∧ m < 1073741824) ∧ n ≤ 100000 ∧ ∀ d : Int, 0 ≤ d → d < m → ∀ n', n' ≤ n + 1 → Q (.int d) n'
def c_law_pick : DC := fun ds n Q => ∃ cs xs, ds = [.pen cs, .lst xs] ∧ xs ≠ [] ∧ xs.length ≤ 1000 ∧ n ≤ 100000 ∧ ∀ d ∈ xs, ∀ n', n' ≤ n + 1 → Q d n'
def allRows : Nat → List (List Bool)
  | 0 => [[]]
  | k + 1 => (allRows k).flatMap fun r => [r ++ [false], r ++ [true]]
def c_law_all : DC := fun ds n Q => ∃ k : Nat, ds = [.int k] ∧ k ≤ 3 ∧ Q (.lst ((allRows k).map rowD)) n
def c_law_parted : DC := fun ds n Q => ∃ rs g, ds = [.lst (rs.map rowD), .int g] ∧ rs.length ≤ 1000 ∧ Q (.lst ((parted g [] (wrongs rs)).map pairD)) n
def c_law_is_mild : DC := fun ds n Q => ∃ rs b g, ds = [.lst (rs.map rowD), .int b, .int g] ∧ rs.length ≤ 1000 ∧ Q (.bl (mild b g (wrongs rs))) n
def c_law_after : DC := fun ds n Q => ∃ p w b g, ds = [pairD p, .bl w, .int b, .int g] ∧ Q (phD (after b g p w)) n
def c_law_phases : DC := fun ds n Q => ∃ b g : Nat, ds = [.int b, .int g] ∧ (1 ≤ b ∧ b ≤ 8 ∧ g ≤ 24) ∧ Q (.lst ((lawPhases b g).map pairD)) n
def c_law_can_part : Nat → DC
  | 0 => fun _ _ _ => False
  | N + 1 => fun ds n Q => ∃ (W : List Int) (b g : Int), ds = [.lst (W.map D.int), .int b, .int g] ∧ W.length ≤ N ∧ N ≤ 1000 ∧ Q (.bl (canP b g N W)) n
def c_law_steps : DC := fun ds n Q => ∃ (cs : List Int) (k : Nat), ds = [.pen cs, .int k] ∧ k ≤ 30 ∧ n ≤ 20000 ∧ ∀ (rs : List (List Bool)) (n' : Nat), rs.length = k → (∀ r ∈ rs, r.length ≤ 3) → n' ≤ n + 100 → Q (.lst (rs.map rowD)) n'
def c_law_one_right : DC := fun ds n Q => ∃ cs, ds = [.pen cs] ∧ n ≤ 10000 ∧ ∀ n', n' ≤ n + 200 → Q (.bl true) n'
theorem l_is_bit : ∀ ds n Q, c_is_bit ds n Q → ds.length = 1 := by rintro ds n Q ⟨_, rfl, _⟩; rfl
theorem l_is_bits : ∀ ds n Q, c_is_bits ds n Q → ds.length = 2 := by rintro ds n Q ⟨_, rfl, _⟩; rfl
theorem l_is_between : ∀ ds n Q, c_is_between ds n Q → ds.length = 3 := by rintro ds n Q ⟨_, _, _, rfl, _⟩; rfl
theorem l_need_bursts : ∀ ds n Q, c_need_bursts ds n Q → ds.length = 2 := by rintro ds n Q ⟨_, _, rfl, _⟩; rfl
theorem l_need_steps : ∀ ds n Q, c_need_steps ds n Q → ds.length = 1 := by rintro ds n Q ⟨_, _, rfl, _⟩; rfl
theorem l_wrong_steps : ∀ ds n Q, c_wrong_steps ds n Q → ds.length = 1 := by rintro ds n Q ⟨_, _, rfl, _⟩; rfl
theorem l_phases : ∀ ds n Q, c_phases ds n Q → ds.length = 2 := by rintro ds n Q ⟨_, _, rfl, _⟩; rfl
theorem l_bursts_of : ∀ ds n Q, c_bursts_of ds n Q → ds.length = 3 := by rintro ds n Q ⟨_, _, _, _, rfl, _⟩; rfl
theorem l_law_draw : ∀ ds n Q, c_law_draw ds n Q → ds.length = 2 := by rintro ds n Q ⟨_, _, rfl, _⟩; rfl
theorem l_law_pick : ∀ ds n Q, c_law_pick ds n Q → ds.length = 2 := by rintro ds n Q ⟨_, _, rfl, _⟩; rfl
theorem l_law_all : ∀ ds n Q, c_law_all ds n Q → ds.length = 1 := by rintro ds n Q ⟨_, rfl, _⟩; rfl
theorem l_law_parted : ∀ ds n Q, c_law_parted ds n Q → ds.length = 2 := by rintro ds n Q ⟨_, _, rfl, _⟩; rfl
theorem l_law_is_mild : ∀ ds n Q, c_law_is_mild ds n Q → ds.length = 3 := by rintro ds n Q ⟨_, _, _, rfl, _⟩; rfl
theorem l_law_after : ∀ ds n Q, c_law_after ds n Q → ds.length = 4 := by rintro ds n Q ⟨_, _, _, _, rfl, _⟩; rfl
theorem l_law_phases : ∀ ds n Q, c_law_phases ds n Q → ds.length = 2 := by rintro ds n Q ⟨_, _, rfl, _⟩; rfl
theorem l_law_can_part : ∀ N ds n Q, c_law_can_part N ds n Q → ds.length = 3 := by
  intro N ds n Q h
  cases N with
  | zero => exact h.elim
  | succ N => obtain ⟨_, _, _, rfl, _⟩ := h; rfl
theorem l_law_steps : ∀ ds n Q, c_law_steps ds n Q → ds.length = 2 := by rintro ds n Q ⟨_, _, rfl, _⟩; rfl
theorem l_law_one_right : ∀ ds n Q, c_law_one_right ds n Q → ds.length = 1 := by rintro ds n Q ⟨_, rfl, _⟩; rfl
end L78
namespace L78
open PySem L2 DL
/-- is_bit: 0 value -/
def kb_is_bit : KS := (kRet (kAndV (kCall bIsi (kCons (kB 0) (kCons (kC (.ty "int")) kNil))) (kAndV (kNotV (kCall bIsi (kCons (kB 0) (kCons (kC (.ty "bool")) kNil)))) (kBin dIn (kB 0) (kTup (kCons (kC (.int 0)) (kCons (kC (.int 1)) kNil)))))))
def kg_is_bits_1 : KG := (gN 2)
def ke_is_bits_2 : KE := (kFn c_is_bit (kCons (kV 2) kNil))
/-- is_bits: 0 value, 1 many, 2 part -/
def kb_is_bits : KS := (kRet (kAndV (kCall bIsi (kCons (kB 0) (kCons (kC (.ty "tuple")) kNil))) (kAndV (kBin dEq (kCall bLen (kCons (kB 0) kNil)) (kB 1)) (kCall bAll (kCons (kOut (kCompO (kIter (kV 0)) kg_is_bits_1 kYes ke_is_bits_2 [2])) kNil)))))
/-- is_between: 0 value, 1 low, 2 high -/
def kb_is_between : KS := (kRet (kAndV (kCall bIsi (kCons (kB 0) (kCons (kC (.ty "int")) kNil))) (kAndV (kNotV (kCall bIsi (kCons (kB 0) (kCons (kC (.ty "bool")) kNil)))) (kChain dLe dLe (kB 1) (kB 0) (kB 2)))))
/-- need_bursts: 0 burst, 1 guard -/
def kb_need_bursts : KS := (kSeq (kIfS (kNotT (kTest (kFn c_is_between (kCons (kV 0) (kCons (kC (.int 1)) (kCons (kC (.int 8)) kNil))))))
    kNever
    kNext)
    (kIfS (kNotT (kTest (kFn c_is_between (kCons (kV 1) (kCons (kC (.int 0)) (kCons (kC (.int 24)) kNil))))))
    kNever
    kNext))
def kg_phases_1 : KG := (gN 5)
def ke_phases_2 : KE := (kTup (kCons (kV 3) (kCons (kV 5) kNil)))
def kg_phases_3 : KG := (gN 3)
def kb_phases_4 : KS := (kSeq (kAsg (kIf (kOrT (kTest (kBin dEq (kB 3) (kB 0))) (kTest (kBin dGt (kB 3) (kB 1)))) (kV 1) (kV 3)) (gN 4))
    (kExt 2 (kOut (kCompO (kRng1 (kCons (kV 4) kNil)) kg_phases_1 kYes ke_phases_2 [5]))))
/-- phases: 0 burst, 1 guard, 2 found, 3 age, 4 most, 5 clean -/
def kb_phases : KS := (kSeq (kDrop (kFn c_need_bursts (kCons (kV 0) (kCons (kV 1) kNil))))
    (kSeq (kOwnS 2 (kLstO (kCons (kC (.tup [.int 0, .int 0])) kNil)))
    (kSeq (kFor (kRng2 (kCons (kC (.int 1)) (kCons (kBin dAdd (kB 0) (kC (.int 1))) kNil))) kg_phases_3
    kb_phases_4)
    (kRet (kIf (kTest (kBin dGt (kB 1) (kC (.int 0)))) (kCall bTuple (kCons (kB 2) kNil)) (kTup (kCons (kC (.tup [.int 0, .int 0])) kNil)))))))
def kg_need_steps_1 : KG := (gTupD 2 (gsCons (gN 1) (gsCons (gN 2) gsNil)))
def kb_need_steps_2 : KS := (kIfS (kOrT (kNotT (kTest (kCall bIsi (kCons (kB 2) (kCons (kC (.ty "tuple")) kNil))))) (kNotT (kTest (kFn c_is_bits (kCons (kV 2) (kCons (kCall bLen (kCons (kB 2) kNil)) kNil))))))
    kNever
    kNext)
/-- need_steps: 0 rows, 1 at, 2 row -/
def kb_need_steps : KS := (kSeq (kIfS (kNotT (kTest (kIsi2 (kB 0) "list" "tuple")))
    kNever
    kNext)
    (kFor (kEnum (kCons (kV 0) kNil)) kg_need_steps_1
    kb_need_steps_2))
def kt_wrong_steps_1 : KT := (kTest (kBin dIn (kC (.int 1)) (kB 2)))
def kg_wrong_steps_2 : KG := (gTupD 2 (gsCons (gN 1) (gsCons (gN 2) gsNil)))
def ke_wrong_steps_3 : KE := (kV 1)
/-- wrong_steps: 0 rows, 1 at, 2 row -/
def kb_wrong_steps : KS := (kRet (kOut (kCompO (kEnum (kCons (kV 0) kNil)) kg_wrong_steps_2 kt_wrong_steps_1 ke_wrong_steps_3 [1, 2])))
def kg_bursts_of_1 : KG := (gN 4)
def kb_bursts_of_2 : KS := (kIfS (kAndT (kTest (kBin dNe (kB 3) (kLst kNil))) (kTest (kBin dLe (kBin dSub (kB 4) (kBin dIx (kBin dIx (kB 3) (kUn dNeg (kC (.int 1)))) (kC (.int 1)))) (kB 2))))
    (kSub 3 (kTup (kCons (kBin dIx (kBin dIx (kB 3) (kUn dNeg (kC (.int 1)))) (kC (.int 0))) (kCons (kV 4) kNil))) (kUn dNeg (kC (.int 1))))
    (kApp 3 (kTup (kCons (kV 4) (kCons (kV 4) kNil)))))
def kg_bursts_of_3 : KG := (gTupD 2 (gsCons (gN 5) (gsCons (gN 6) gsNil)))
def ke_bursts_of_4 : KE := (kBin dGe (kBin dSub (kB 6) (kB 5)) (kB 1))
/-- bursts_of: 0 rows, 1 burst, 2 guard, 3 found, 4 at, 5 first, 6 last -/
def kb_bursts_of : KS := (kSeq (kDrop (kFn c_need_bursts (kCons (kV 1) (kCons (kV 2) kNil))))
    (kSeq (kDrop (kFn c_need_steps (kCons (kV 0) kNil)))
    (kSeq (kOwnS 3 (kLstO kNil))
    (kSeq (kFor (kIter (kFn c_wrong_steps (kCons (kV 0) kNil))) kg_bursts_of_1
    kb_bursts_of_2)
    (kRet (kIf (kTest (kCall bAny (kCons (kOut (kCompO (kIter (kV 3)) kg_bursts_of_3 kYes ke_bursts_of_4 [5, 6])) kNil))) (kC .non) (kCall bTuple (kCons (kB 3) kNil))))))))
def kr_law_draw_1 : KS := (kRet (kBin dMod (kCall bInt (kCons (kBin dDiv (kB 5) (kC (.int 64))) kNil)) (kB 1)))
def kr_law_draw_2 : KS := (kSeq (kAsg (kBin dMod (kCall bInt (kCons (kBin dPow (kBin dAdd (kBin dAdd (kBin dMul (kB 5) (kBin dAdd (kBin dMul (kC (.int 2)) (kB 3)) (kC (.int 5525)))) (kBin dMul (kBin dMul (kC (.int 30069)) (kB 3)) (kB 3))) (kC (.int 62079))) (kC (.int 3))) kNil)) (kC (.int 2147483587))) (gN 5))
    kr_law_draw_1)
def kr_law_draw_3 : KS := (kSeq (kAsg (kBin dMod (kCall bInt (kCons (kBin dPow (kBin dAdd (kBin dAdd (kBin dMod (kCall bInt (kCons (kB 4) kNil)) (kC (.int 2147483549))) (kBin dMul (kC (.int 62079)) (kB 3))) (kC (.int 8147))) (kC (.int 5))) kNil)) (kC (.int 2147483629))) (gN 5))
    kr_law_draw_2)
def kr_law_draw_4 : KS := (kSeq (kIfS (kAndT (kTest (kBin dLt (kB 3) (kCall bLen (kCons (kPen0 0) kNil)))) (kTest (kBin dGe (kCall bAbs (kCons (kB 4) kNil)) (kBin dPow (kC (.int 10)) (kC (.int 18))))))
    (kSeq (kAsg (kBin dAdd (kBin dMul (kC (.int 2)) (kBin dSub (kCall bAbs (kCons (kB 4) kNil)) (kBin dPow (kC (.int 10)) (kC (.int 18))))) (kCall bInt (kCons (kBin dLt (kB 4) (kC (.int 0))) kNil))) (gN 2))
    (kSeq (kInk2 0 (kBin dDiv (kCall bInt (kCons (kB 2) kNil)) (kB 1)))
    (kRet (kBin dMod (kCall bInt (kCons (kB 2) kNil)) (kB 1)))))
    kNext)
    kr_law_draw_3)
def kr_law_draw_5 : KS := (kSeq (kIfS (kTest (kBin dNe (kPen0 0) (kLst kNil)))
    (kAsg (kBin dIx (kPen0 0) (kBin dMod (kCall bInt (kCons (kB 3) kNil)) (kCall bLen (kCons (kPen0 0) kNil)))) (gN 4))
    kNext)
    kr_law_draw_4)
def kr_law_draw_6 : KS := (kSeq (kAsg (kBin dAdd (kBin dMul (kC (.int 62079)) (kB 3)) (kC (.int 8147))) (gN 4))
    kr_law_draw_5)
def kr_law_draw_7 : KS := (kSeq (kInk1 0 (kBin dAdd (kB 3) (kC (.int 1))))
    kr_law_draw_6)
def kr_law_draw_8 : KS := (kSeq (kAsg (kPen1 0) (gN 3))
    kr_law_draw_7)
/-- law_draw: 0 pen, 1 many, 2 rest, 3 turn, 4 cell, 5 mixed -/
def kb_law_draw : KS := (kSeq (kIfS (kTest (kBin dGt (kPen2 0) (kC (.int 0))))
    (kSeq (kAsg (kCall bInt (kCons (kPen2 0) kNil)) (gN 2))
    (kSeq (kInk2 0 (kBin dDiv (kB 2) (kB 1)))
    (kRet (kBin dMod (kCall bInt (kCons (kB 2) kNil)) (kB 1)))))
    kNext)
    kr_law_draw_8)
/-- law_pick: 0 pen, 1 some -/
def kb_law_pick : KS := (kRet (kBin dIx (kB 1) (kFn c_law_draw (kCons (kV 0) (kCons (kCall bLen (kCons (kB 1) kNil)) kNil)))))
def kg_law_all_1 : KG := (gN 4)
def kb_law_all_2 : KS := (kAsg (kBin dAdd (kB 3) (kLst (kCons (kBin dAdd (kB 4) (kTup (kCons (kC (.int 0)) kNil))) (kCons (kBin dAdd (kB 4) (kTup (kCons (kC (.int 1)) kNil))) kNil)))) (gN 3))
def kg_law_all_3 : KG := (gN 2)
def kb_law_all_4 : KS := (kSeq (kAsg (kLst kNil) (gN 3))
    (kSeq (kFor (kIter (kV 1)) kg_law_all_1
    kb_law_all_2)
    (kAsg (kV 3) (gN 1))))
/-- law_all: 0 many, 1 found, 2 turn, 3 longer, 4 bits -/
def kb_law_all : KS := (kSeq (kAsg (kLst (kCons (kTup kNil) kNil)) (gN 1))
    (kSeq (kFor (kRng1 (kCons (kV 0) kNil)) kg_law_all_3
    kb_law_all_4)
    (kRet (kV 1))))
def kg_law_parted_1 : KG := (gTupD 2 (gsCons (gN 3) (gsCons (gN 4) gsNil)))
def kb_law_parted_2 : KS := (kIfS (kTest (kBin dIn (kC (.int 1)) (kB 4)))
    (kIfS (kAndT (kTest (kBin dNe (kB 2) (kLst kNil))) (kTest (kBin dLt (kBin dSub (kBin dSub (kB 3) (kBin dIx (kBin dIx (kB 2) (kUn dNeg (kC (.int 1)))) (kC (.int 1)))) (kC (.int 1))) (kB 1))))
    (kSub 2 (kTup (kCons (kBin dIx (kBin dIx (kB 2) (kUn dNeg (kC (.int 1)))) (kC (.int 0))) (kCons (kV 3) kNil))) (kUn dNeg (kC (.int 1))))
    (kApp 2 (kTup (kCons (kV 3) (kCons (kV 3) kNil)))))
    kNext)
/-- law_parted: 0 rows, 1 guard, 2 found, 3 at, 4 row -/
def kb_law_parted : KS := (kSeq (kOwnS 2 (kLstO kNil))
    (kSeq (kFor (kEnum (kCons (kV 0) kNil)) kg_law_parted_1
    kb_law_parted_2)
    (kRet (kV 2))))
def kt_law_is_mild_1 : KT := (kTest (kBin dGe (kBin dSub (kB 4) (kB 3)) (kB 1)))
def kg_law_is_mild_2 : KG := (gTupD 2 (gsCons (gN 3) (gsCons (gN 4) gsNil)))
def ke_law_is_mild_3 : KE := (kC (.int 1))
/-- law_is_mild: 0 rows, 1 burst, 2 guard, 3 first, 4 last -/
def kb_law_is_mild : KS := (kRet (kBin dEq (kOut (kCompO (kIter (kFn c_law_parted (kCons (kV 0) (kCons (kV 2) kNil)))) kg_law_is_mild_2 kt_law_is_mild_1 ke_law_is_mild_3 [3, 4])) (kLst kNil)))
/-- law_after: 0 phase, 1 is_wrong, 2 burst, 3 guard, 4 age, 5 clean -/
def kb_law_after : KS := (kSeq (kAsg (kV 0) (gTupD 2 (gsCons (gN 4) (gsCons (gN 5) gsNil))))
    (kSeq (kIfS (kTest (kBin dEq (kB 3) (kC (.int 0))))
    (kRet (kTup (kCons (kC (.int 0)) (kCons (kC (.int 0)) kNil))))
    kNext)
    (kSeq (kIfS (kTest (kV 1))
    (kRet (kIf (kTest (kBin dLt (kB 4) (kB 2))) (kTup (kCons (kBin dAdd (kB 4) (kC (.int 1))) (kCons (kC (.int 0)) kNil))) (kC .non)))
    kNext)
    (kSeq (kIfS (kOrT (kTest (kBin dEq (kB 4) (kC (.int 0)))) (kTest (kBin dEq (kBin dAdd (kB 5) (kC (.int 1))) (kB 3))))
    (kRet (kTup (kCons (kC (.int 0)) (kCons (kC (.int 0)) kNil))))
    kNext)
    (kRet (kTup (kCons (kIf (kTest (kBin dLt (kB 4) (kB 2))) (kBin dAdd (kB 4) (kC (.int 1))) (kV 2)) (kCons (kBin dAdd (kB 5) (kC (.int 1))) kNil))))))))
def kg_law_phases_1 : KG := (gN 7)
def ke_law_phases_2 : KE := (kFn c_law_after (kCons (kBin dIx (kB 2) (kB 3)) (kCons (kV 7) (kCons (kV 0) (kCons (kV 1) kNil)))))
def kt_law_phases_3 : KT := (kAndT (kTest (kBin dNotN (kB 8) (kC .non))) (kTest (kBin dNotIn (kB 8) (kB 2))))
def kg_law_phases_4 : KG := (gN 8)
def ke_law_phases_5 : KE := (kV 8)
def kg_law_phases_6 : KG := (gN 3)
def kb_law_phases_7 : KS := (kIfS (kTest (kBin dLt (kB 3) (kCall bLen (kCons (kB 2) kNil))))
    (kSeq (kAsg (kOut (kCompO (kIter (kTup (kCons (kC (.bl false)) (kCons (kC (.bl true)) kNil)))) kg_law_phases_1 kYes ke_law_phases_2 [7])) (gN 4))
    (kAsg (kBin dAdd (kB 2) (kOut (kCompO (kIter (kV 4)) kg_law_phases_4 kt_law_phases_3 ke_law_phases_5 [8]))) (gN 2)))
    kNext)
def kt_law_phases_8 : KT := (kTest (kBin dIn (kTup (kCons (kV 6) (kCons (kV 9) kNil))) (kB 2)))
def kg_law_phases_9 : KG := (gN 9)
def ke_law_phases_10 : KE := (kTup (kCons (kV 6) (kCons (kV 9) kNil)))
def kg_law_phases_11 : KG := (gN 6)
def kb_law_phases_12 : KS := (kExt 5 (kOut (kCompO (kRng1 (kCons (kBin dAdd (kB 1) (kC (.int 1))) kNil)) kg_law_phases_9 kt_law_phases_8 ke_law_phases_10 [9])))
/-- law_phases: 0 burst, 1 guard, 2 found, 3 turn, 4 some, 5 told, 6 age, 7 is_wrong, 8 phase, 9 clean -/
def kb_law_phases : KS := (kSeq (kAsg (kLst (kCons (kTup (kCons (kC (.int 0)) (kCons (kC (.int 0)) kNil))) kNil)) (gN 2))
    (kSeq (kFor (kRng1 (kCons (kC (.int 400)) kNil)) kg_law_phases_6
    kb_law_phases_7)
    (kSeq (kOwnS 5 (kLstO kNil))
    (kSeq (kFor (kRng1 (kCons (kBin dAdd (kB 0) (kC (.int 1))) kNil)) kg_law_phases_11
    kb_law_phases_12)
    (kRet (kV 5))))))
def kg_law_can_part_1 (N : Nat) : KG := (gN 3)
def kb_law_can_part_2 (N : Nat) : KS := (kSeq (kAsg (kOrV (kBin dEq (kB 3) (kCall bLen (kCons (kB 0) kNil))) (kBin dGt (kBin dSub (kBin dIx (kB 0) (kB 3)) (kBin dIx (kB 0) (kBin dSub (kB 3) (kC (.int 1))))) (kB 2))) (gN 4))
    (kIfS (kAndT (kTest (kBin dLt (kBin dSub (kBin dIx (kB 0) (kBin dSub (kB 3) (kC (.int 1)))) (kBin dIx (kB 0) (kC (.int 0)))) (kB 1))) (kAndT (kTest (kV 4)) (kTest (kFn (c_law_can_part N) (kCons (kSl (kB 0) (kPart (kV 3)) kNoPart) (kCons (kV 1) (kCons (kV 2) kNil)))))))
    (kRet (kC (.bl true)))
    kNext))
/-- law_can_part: 0 wrong, 1 burst, 2 guard, 3 many, 4 is_far -/
def kb_law_can_part (N : Nat) : KS := (kSeq (kIfS (kTest (kBin dEq (kB 0) (kLst kNil)))
    (kRet (kC (.bl true)))
    kNext)
    (kSeq (kFor (kRng2 (kCons (kC (.int 1)) (kCons (kBin dAdd (kCall bLen (kCons (kB 0) kNil)) (kC (.int 1))) kNil))) (kg_law_can_part_1 N)
    (kb_law_can_part_2 N))
    (kRet (kC (.bl false)))))
def kg_law_steps_1 : KG := (gN 4)
def kb_law_steps_2 : KS := (kSeq (kAsg (kFn c_law_pick (kCons (kV 0) (kCons (kLst (kCons (kC (.int 1)) (kCons (kC (.int 2)) (kCons (kC (.int 2)) (kCons (kC (.int 3)) (kCons (kC (.int 0)) kNil)))))) kNil))) (gN 5))
    (kApp 2 (kIf (kTest (kBin dEq (kFn c_law_draw (kCons (kV 0) (kCons (kV 3) kNil))) (kC (.int 0)))) (kFn c_law_pick (kCons (kV 0) (kCons (kFn c_law_all (kCons (kV 5) kNil)) kNil))) (kBin dMul (kTup (kCons (kC (.int 0)) kNil)) (kB 5)))))
/-- law_steps: 0 pen, 1 many, 2 found, 3 often, 4 turn, 5 width -/
def kb_law_steps : KS := (kSeq (kParO 2 3 (kLstO kNil) (kBin dAdd (kC (.int 2)) (kFn c_law_draw (kCons (kV 0) (kCons (kC (.int 4)) kNil)))))
    (kSeq (kFor (kRng1 (kCons (kV 1) kNil)) kg_law_steps_1
    kb_law_steps_2)
    (kRet (kV 2))))
def kt_law_one_right_1 : KT := (kTest (kBin dIn (kC (.int 1)) (kB 10)))
def kg_law_one_right_2 : KG := (gTupD 2 (gsCons (gN 8) (gsCons (gN 10) gsNil)))
def ke_law_one_right_3 : KE := (kV 8)
def kg_law_one_right_4 : KG := (gN 10)
def kb_law_one_right_5 : KS := (kSeq (kAsg (kIf (kTest (kBin dNotN (kB 9) (kC .non))) (kFn c_law_after (kCons (kV 9) (kCons (kBin dIn (kC (.int 1)) (kB 10)) (kCons (kV 2) (kCons (kV 3) kNil))))) (kC .non)) (gN 9))
    (kIfS (kAndT (kTest (kBin dNotN (kB 9) (kC .non))) (kTest (kBin dNotIn (kB 9) (kFn c_phases (kCons (kV 2) (kCons (kV 3) kNil))))))
    (kRet (kC (.bl false)))
    kNext))
def kr_law_one_right_6 : KS := (kRet (kBin dEq (kCall bRepr (kCons (kFnK c_phases [1, 0] 0 2 kNil (kCons (kV 3) (kCons (kV 2) kNil))) kNil)) (kCall bRepr (kCons (kCall bTuple (kCons (kFn c_law_phases (kCons (kV 2) (kCons (kV 3) kNil))) kNil)) kNil))))
def kr_law_one_right_7 : KS := (kSeq (kIfS (kTest (kBin dNe (kBin dNotN (kB 9) (kC .non)) (kB 5)))
    (kRet (kC (.bl false)))
    kNext)
    kr_law_one_right_6)
def kr_law_one_right_8 : KS := (kSeq (kFor (kIter (kV 1)) kg_law_one_right_4
    kb_law_one_right_5)
    kr_law_one_right_7)
def kr_law_one_right_9 : KS := (kSeq (kAsg (kTup (kCons (kC (.int 0)) (kCons (kC (.int 0)) kNil))) (gN 9))
    kr_law_one_right_8)
def kr_law_one_right_10 : KS := (kSeq (kIfS (kAndT (kTest (kBin dNe (kB 6) (kLst kNil))) (kTest (kV 5)))
    (kSeq (kAsg (kFn c_law_pick (kCons (kV 0) (kCons (kV 6) kNil))) (gN 8))
    (kIfS (kTest (kBin dIsN (kFn c_bursts_of (kCons (kBin dAdd (kBin dAdd (kSl (kB 1) kNoPart (kPart (kV 8))) (kLst (kCons (kBin dMul (kTup (kCons (kC (.int 0)) kNil)) (kCall bLen (kCons (kBin dIx (kB 1) (kB 8)) kNil))) kNil))) (kSl (kB 1) (kPart (kBin dAdd (kB 8) (kC (.int 1)))) kNoPart)) (kCons (kV 2) (kCons (kV 3) kNil)))) (kC .non)))
    (kRet (kC (.bl false)))
    kNext))
    kNext)
    kr_law_one_right_9)
def kr_law_one_right_11 : KS := (kSeq (kIfS (kAndT (kTest (kBin dLt (kCall bLen (kCons (kB 6) kNil)) (kC (.int 10)))) (kTest (kBin dNe (kFn (c_law_can_part 11) (kCons (kV 6) (kCons (kV 2) (kCons (kV 3) kNil)))) (kB 5))))
    (kRet (kC (.bl false)))
    kNext)
    kr_law_one_right_10)
def kr_law_one_right_12 : KS := (kSeq (kIfS (kOrT (kTest (kBin dNe (kCall bRepr (kCons (kB 7) kNil)) (kCall bRepr (kCons (kIf (kTest (kV 5)) (kCall bTuple (kCons (kB 4) kNil)) (kC .non)) kNil)))) (kTest (kBin dNe (kFnK c_bursts_of [2, 1, 0] 0 3 kNil (kCons (kV 3) (kCons (kV 2) (kCons (kCall bTuple (kCons (kB 1) kNil)) kNil)))) (kB 7))))
    (kRet (kC (.bl false)))
    kNext)
    kr_law_one_right_11)
def kr_law_one_right_13 : KS := (kSeq (kAsg (kFn c_bursts_of (kCons (kV 1) (kCons (kV 2) (kCons (kV 3) kNil)))) (gN 7))
    kr_law_one_right_12)
def kr_law_one_right_14 : KS := (kSeq (kPar3 4 5 6 (kCons (kFn c_law_parted (kCons (kV 1) (kCons (kV 3) kNil))) (kCons (kFn c_law_is_mild (kCons (kV 1) (kCons (kV 2) (kCons (kV 3) kNil)))) (kCons (kOut (kCompO (kEnum (kCons (kV 1) kNil)) kg_law_one_right_2 kt_law_one_right_1 ke_law_one_right_3 [8, 10])) kNil))))
    kr_law_one_right_13)
def kr_law_one_right_15 : KS := (kSeq (kAsg (kFn c_law_pick (kCons (kV 0) (kCons (kLst (kCons (kC (.int 0)) (kCons (kC (.int 1)) (kCons (kC (.int 2)) (kCons (kC (.int 3)) (kCons (kC (.int 5)) (kCons (kC (.int 24)) (kCons (kFn c_law_draw (kCons (kV 0) (kCons (kC (.int 25)) kNil))) kNil)))))))) kNil))) (gN 3))
    kr_law_one_right_14)
/-- law_one_right: 0 pen, 1 rows, 2 burst, 3 guard, 4 due, 5 is_mild, 6 wrong, 7 told, 8 at, 9 phase, 10 row -/
def kb_law_one_right : KS := (kSeq (kPar 1 2 (kCons (kFn c_law_steps (kCons (kV 0) (kCons (kFn c_law_pick (kCons (kV 0) (kCons (kLst (kCons (kC (.int 0)) (kCons (kC (.int 1)) (kCons (kC (.int 2)) (kCons (kC (.int 5)) (kCons (kC (.int 9)) (kCons (kC (.int 14)) (kCons (kC (.int 30)) kNil)))))))) kNil))) kNil))) (kCons (kBin dAdd (kC (.int 1)) (kFn c_law_draw (kCons (kV 0) (kCons (kC (.int 8)) kNil)))) kNil)))
    kr_law_one_right_15)
def kg_law_1 : KG := (gN 2)
def kb_law_2 : KS := (kIfS (kNotT (kTest (kFn c_law_one_right (kCons (kV 1) kNil))))
    (kRet (kC (.bl false)))
    kNext)
/-- law: 0 script, 1 pen, 2 lap, 3 row -/
def kb_law : KS := (kSeq (kFor (kRng1 (kCons (kC (.int 6)) kNil)) kg_law_1
    kb_law_2)
    (kSeq (kAsg (kLst (kCons (kTup (kCons (kC (.int 1)) kNil)) (kCons (kTup (kCons (kC (.int 0)) kNil)) (kCons (kTup (kCons (kC (.int 1)) kNil)) (kCons (kTup (kCons (kC (.int 1)) kNil)) (kCons (kTup (kCons (kC (.int 0)) kNil)) (kCons (kTup (kCons (kC (.int 0)) kNil)) (kCons (kTup (kCons (kC (.int 1)) kNil)) kNil)))))))) (gN 3))
    (kSeq (kIfS (kTest (kBin dNe (kLst (kCons (kFn c_bursts_of (kCons (kV 3) (kCons (kC (.int 4)) (kCons (kC (.int 2)) kNil)))) (kCons (kFn c_bursts_of (kCons (kV 3) (kCons (kC (.int 3)) (kCons (kC (.int 2)) kNil)))) (kCons (kFn c_bursts_of (kCons (kV 3) (kCons (kC (.int 3)) (kCons (kC (.int 1)) kNil)))) kNil)))) (kLst (kCons (kTup (kCons (kTup (kCons (kC (.int 0)) (kCons (kC (.int 3)) kNil))) (kCons (kTup (kCons (kC (.int 6)) (kCons (kC (.int 6)) kNil))) kNil))) (kCons (kC .non) (kCons (kTup (kCons (kTup (kCons (kC (.int 0)) (kCons (kC (.int 0)) kNil))) (kCons (kTup (kCons (kC (.int 2)) (kCons (kC (.int 3)) kNil))) (kCons (kTup (kCons (kC (.int 6)) (kCons (kC (.int 6)) kNil))) kNil)))) kNil))))))
    (kRet (kC (.bl false)))
    kNext)
    (kRet (kAndV (kBin dEq (kFn c_phases (kCons (kC (.int 2)) (kCons (kC (.int 2)) kNil))) (kTup (kCons (kTup (kCons (kC (.int 0)) (kCons (kC (.int 0)) kNil))) (kCons (kTup (kCons (kC (.int 1)) (kCons (kC (.int 0)) kNil))) (kCons (kTup (kCons (kC (.int 2)) (kCons (kC (.int 0)) kNil))) (kCons (kTup (kCons (kC (.int 2)) (kCons (kC (.int 1)) kNil))) kNil)))))) (kAndV (kBin dEq (kFn c_phases (kCons (kC (.int 8)) (kCons (kC (.int 0)) kNil))) (kTup (kCons (kTup (kCons (kC (.int 0)) (kCons (kC (.int 0)) kNil))) kNil))) (kBin dEq (kFn c_bursts_of (kCons (kLst kNil) (kCons (kC (.int 1)) (kCons (kC (.int 24)) kNil)))) (kTup kNil))))))))
end L78
namespace L78
open PySem PySem.Spec PyProof.Rows L2 DL
theorem kit_ii : kitB "int" "int" = some true := by decide +kernel
theorem kit_ib : kitB "int" "bool" = some false := by decide +kernel
theorem kit_tt : kitB "tuple" "tuple" = some true := by decide +kernel
theorem kit_ll : kitB "list" "list" = some true := by decide +kernel
theorem kit_lt : kitB "list" "tuple" = some false := by decide +kernel
theorem kit_tl : kitB "tuple" "list" = some false := by decide +kernel
/-- by what a bool says -/
def condV (d : D) (A B : Prop) : Prop := match d with
  | .bl c => if c = true then A else B
  | _ => False
theorem kAndV_e (k1 k2 : KE) : kAndV k1 k2 = fun S n Q => k1 S n fun d S1 n1 => condV d (k2 S1 n1 Q) (Q (.bl false) S1 n1) := by
  funext S n Q
  unfold kAndV
  congr 1
  funext d S1 n1
  cases d <;> try rfl
  case bl c => cases c <;> simp [condV]
theorem kOrV_e (k1 k2 : KE) : kOrV k1 k2 = fun S n Q => k1 S n fun d S1 n1 => condV d (Q (.bl true) S1 n1) (k2 S1 n1 Q) := by
  funext S n Q
  unfold kOrV
  congr 1
  funext d S1 n1
  cases d <;> try rfl
  case bl c => cases c <;> simp [condV]
def isB (d : D) (A : Bool → Prop) : Prop := match d with
  | .bl c => A c
  | _ => False
theorem isB_bl (c : Bool) (A : Bool → Prop) : isB (.bl c) A = A c := rfl
theorem kTest_e (k : KE) : kTest k = fun S n Q => k S n fun d S1 n1 => isB d fun c => Q c S1 n1 := by
  funext S n Q
  unfold kTest
  congr 1
theorem kChain_e (op op' : D2) (ka kb kc : KE) : kChain op op' ka kb kc = fun S n Q => ka S n fun x S1 n1 => kb S1 n1 fun y S2 n2 => op x y fun d => condV d (kc S2 n2 fun z S3 n3 => op' y z fun d' => Q d' S3 n3) (Q (.bl false) S2 n2) := by
  funext S n Q
  unfold kChain
  congr 1
  funext x S1 n1
  congr 1
  funext y S2 n2
  congr 1
  funext d
  cases d <;> try rfl
  case bl c => cases c <;> simp [condV]
theorem pl_non (k : Nat) : D.pl k .non = True := by cases k <;> rfl
theorem pl_bl (k : Nat) (b : Bool) : D.pl k (.bl b) = True := by cases k <;> rfl
theorem pl_int (k : Nat) (i : Int) : D.pl k (.int i) = True := by cases k <;> rfl
theorem pl_tup (k : Nat) (ds : List D) : D.pl (k + 1) (.tup ds) = ∀ d ∈ ds, D.pl k d := rfl
theorem pl_lst (k : Nat) (ds : List D) : D.pl (k + 1) (.lst ds) = ∀ d ∈ ds, D.pl k d := rfl
theorem eqb_int (a b : Int) : D.eqb (.int a) (.int b) = (a == b) := rfl
theorem eqb_nil (xs : List D) : D.eqb (.lst xs) (.lst []) = xs.isEmpty := by cases xs <;> rfl
theorem eqb_non : D.eqb .non .non = true := rfl
/-- a comprehension that draws nothing -/
theorem comps_fm {kg : KG} {kt : KT} {ke : KE} {vs : List Nat} {Sc : List Sl} {n : Nat} {Q : List D → Nat → Prop} (f : D → Option D) : ∀ (ds acc : List D)
    (h : ∀ d ∈ ds, ∀ R : Option D → Nat → Prop, R (f d) n → kg d Sc fun S2 => wipeD S2 vs = Sc ∧ kt S2 n fun b S3 n3 => S3 = S2 ∧ if b = true then ke S2 n3 fun y S4 n4 => S4 = S2 ∧ R (some y) n4 else R none n3)
    (q : Q (acc ++ ds.filterMap f) n), kComps kg kt ke vs Sc ds acc n Q
  | [], acc, h, q => by simpa [kComps] using q
  | d :: ds, acc, h, q => by
    refine h d (List.mem_cons_self ..) (fun o n' => match o with | some y => kComps kg kt ke vs Sc ds (acc ++ [y]) n' Q | none => kComps kg kt ke vs Sc ds acc n' Q) ?_
    cases e : f d with
    | none =>
      refine comps_fm f ds acc (fun d' hd => h d' (List.mem_cons_of_mem _ hd)) ?_
      rw [List.filterMap_cons_none e] at q
      exact q
    | some y =>
      refine comps_fm f ds (acc ++ [y]) (fun d' hd => h d' (List.mem_cons_of_mem _ hd)) ?_
      rw [List.filterMap_cons_some e] at q
      rw [List.append_assoc]
      exact q
theorem hot_in (r : List Bool) : inV (.int 1) ((r.map bD).map D.v) = hot r := by
  unfold inV hot
  induction r with
  | nil => rfl
  | cons b r ih =>
    rw [List.map_cons, List.map_cons, List.any_cons, ih, List.any_cons]
    cases b <;> rfl
theorem flat_row (r : List Bool) : (r.map bD).all D.flat = true := by
  rw [List.all_eq_true]
  intro d hd
  obtain ⟨b, _, rfl⟩ := List.mem_map.mp hd
  rfl
theorem tyn_int (i : Int) : (D.int i).tyn = "int" := rfl
theorem tyn_bl (i : Bool) : (D.bl i).tyn = "bool" := rfl
theorem tyn_non : D.non.tyn = "NoneType" := rfl
theorem tyn_tup (i : List D) : (D.tup i).tyn = "tuple" := rfl
theorem tyn_lst (i : List D) : (D.lst i).tyn = "list" := rfl
theorem flat_int (i : Int) : (D.int i).flat = true := rfl
theorem v_int (i : Int) : (D.int i).v = .int i := rfl
theorem fors_cons {kg : KG} {kb : KS} {E : DEnds} {d : D} {ds : List D} {S : List Sl} {n : Nat} : kFors kg kb E (d :: ds) S n = kg d S fun S1 => kb { E with nx := kFors kg kb E ds, ct := kFors kg kb E ds, bk := E.nx } S1 n := rfl
theorem fors_nil {kg : KG} {kb : KS} {E : DEnds} {S : List Sl} {n : Nat} : kFors kg kb E [] S n = E.nx S n := rfl
theorem enum_cons (k : Nat) (d : D) (ds : List D) : enumD k (d :: ds) = .tup [.int (k : Nat), d] :: enumD (k + 1) ds := rfl
theorem pl_bD (k : Nat) (b : Bool) : D.pl k (bD b) = True := pl_int k _
theorem pl_row (k : Nat) (r : List Bool) : D.pl (k + 1) (rowD r) = True := by
  refine eq_true ?_
  show ∀ d ∈ r.map bD, D.pl k d
  intro d hd
  obtain ⟨b, _, rfl⟩ := List.mem_map.mp hd
  rw [pl_bD]; trivial
theorem pl_pair (k : Nat) (p : Int × Int) : D.pl (k + 1) (pairD p) = True := by
  refine eq_true ?_
  show ∀ d ∈ [D.int p.1, D.int p.2], D.pl k d
  intro d hd
  rcases List.mem_cons.mp hd with rfl | hd
  · rw [pl_int]; trivial
  · rcases List.mem_cons.mp hd with rfl | hd
    · rw [pl_int]; trivial
    · cases hd
theorem pl_maps {α : Type} {f : α → D} {k : Nat} (h : ∀ a, D.pl k (f a) = True) (xs : List α) : ∀ d ∈ xs.map f, D.pl k d := by
  intro d hd
  obtain ⟨a, _, rfl⟩ := List.mem_map.mp hd
  rw [h]; trivial
end L78
namespace L78
open PySem PySem.Spec PyProof.Rows L2 DL
theorem m_is_bit : ∀ ds n Q, c_is_bit ds n Q → kb_is_bit ⟨fun _ n' => Q .non n', Q, fun _ _ => False, fun _ _ => False⟩ (startD ["value"] ds) n := by
  rintro ds n Q ⟨b, rfl, q⟩
  cases b <;> simp only [kb_is_bit, kSeq, kAsg, kRet, kIfS, kDrop, kNext, kNever, kOwnS, kApp, kSub, kPar, kAndV_e, kOrV_e, kNotV, kAndT, kOrT, kNotT, kTest_e, isB_bl, kBin, kUn, kChain_e, condV, kCall, kCons, kNil, kTup, kLst, kLstO, kOut, kCompO, kIter, kEnum, kZip, kRng1, DL.kV, kB, kC, kIf, kStar, kSl, kPart, kNoPart, kFn, kFnK, kIsi2, kFor, gN, gTupD, gsCons, gsNil, kYes, dNeg, dAdd, dSub, dMod, dDiv, dMul, dPow, dCmp, dInt, dEq, dNe, dIn, dNotIn, dIx, dIsN, bLen, bInt, bAbs, bTuple, bList, bAny, bAll, bIsi, startD, okW, wipeD, List.map_cons, List.map_nil, List.cons_append, List.nil_append, List.getElem?_cons_zero, List.getElem?_cons_succ, List.set_cons_zero, List.set_cons_succ, List.length_cons, List.length_nil, List.replicate_succ, List.replicate_zero, List.all_cons, List.all_nil, Bool.and_true, Bool.true_and, tyn_int, tyn_bl, tyn_non, tyn_tup, tyn_lst, kit_ii, kit_ib, kit_tt, kit_ll, kit_lt, kit_tl, flat_int, v_int, flat_row, pl_non, pl_bl, pl_int, pl_tup, pl_lst, eqb_int, eqb_nil, eqb_non, D.isN, ne_eq, not_false_eq_true, true_and, and_true, if_true, if_false, Bool.false_eq_true, reduceCtorEq, String.reduceEq, Bool.not_true, Bool.not_false, Bool.or_false, Bool.false_or, Bool.or_true, Bool.true_or, Nat.zero_add, Nat.reduceAdd, Nat.reduceLeDiff, Nat.reduceSub, Nat.reduceEqDiff, bD] <;> exact q
theorem m_is_bits : ∀ ds n Q, c_is_bits ds n Q → kb_is_bits ⟨fun _ n' => Q .non n', Q, fun _ _ => False, fun _ _ => False⟩ (startD ["value", "many", "part"] ds) n := by
  rintro ds n Q ⟨r, rfl, h, q⟩
  simp only [kb_is_bits, kSeq, kAsg, kRet, kIfS, kDrop, kNext, kNever, kOwnS, kApp, kSub, kPar, kAndV_e, kOrV_e, kNotV, kAndT, kOrT, kNotT, kTest_e, isB_bl, kBin, kUn, kChain_e, condV, kCall, kCons, kNil, kTup, kLst, kLstO, kOut, kCompO, kIter, kEnum, kZip, kRng1, DL.kV, kB, kC, kIf, kStar, kSl, kPart, kNoPart, kFn, kFnK, kIsi2, kFor, gN, gTupD, gsCons, gsNil, kYes, dNeg, dAdd, dSub, dMod, dDiv, dMul, dPow, dCmp, dInt, dEq, dNe, dIn, dNotIn, dIx, dIsN, bLen, bInt, bAbs, bTuple, bList, bAny, bAll, bIsi, startD, okW, wipeD, List.map_cons, List.map_nil, List.cons_append, List.nil_append, List.getElem?_cons_zero, List.getElem?_cons_succ, List.set_cons_zero, List.set_cons_succ, List.length_cons, List.length_nil, List.replicate_succ, List.replicate_zero, List.all_cons, List.all_nil, Bool.and_true, Bool.true_and, tyn_int, tyn_bl, tyn_non, tyn_tup, tyn_lst, kit_ii, kit_ib, kit_tt, kit_ll, kit_lt, kit_tl, flat_int, v_int, flat_row, pl_non, pl_bl, pl_int, pl_tup, pl_lst, eqb_int, eqb_nil, eqb_non, D.isN, ne_eq, not_false_eq_true, true_and, and_true, if_true, if_false, Bool.false_eq_true, reduceCtorEq, String.reduceEq, Bool.not_true, Bool.not_false, Bool.or_false, Bool.false_or, Bool.or_true, Bool.true_or, Nat.zero_add, Nat.reduceAdd, Nat.reduceLeDiff, Nat.reduceSub, Nat.reduceEqDiff, rowD]
  rw [show (List.map bD r).length = r.length from List.length_map .., show (((r.length : Nat) : Int) == ((r.length : Nat) : Int)) = true from beq_self_eq_true _]
  refine ⟨by omega, ?_⟩
  refine comps_fm (fun _ => some (.bl true)) _ _ (fun d hd R hR => ?_) ?_
  · obtain ⟨b, hb, rfl⟩ := List.mem_map.mp hd
    simp only [kg_is_bits_1, ke_is_bits_2, kSeq, kAsg, kRet, kIfS, kDrop, kNext, kNever, kOwnS, kApp, kSub, kPar, kAndV_e, kOrV_e, kNotV, kAndT, kOrT, kNotT, kTest_e, isB_bl, kBin, kUn, kChain_e, condV, kCall, kCons, kNil, kTup, kLst, kLstO, kOut, kCompO, kIter, kEnum, kZip, kRng1, DL.kV, kB, kC, kIf, kStar, kSl, kPart, kNoPart, kFn, kFnK, kIsi2, kFor, gN, gTupD, gsCons, gsNil, kYes, dNeg, dAdd, dSub, dMod, dDiv, dMul, dPow, dCmp, dInt, dEq, dNe, dIn, dNotIn, dIx, dIsN, bLen, bInt, bAbs, bTuple, bList, bAny, bAll, bIsi, startD, okW, wipeD, List.map_cons, List.map_nil, List.cons_append, List.nil_append, List.getElem?_cons_zero, List.getElem?_cons_succ, List.set_cons_zero, List.set_cons_succ, List.length_cons, List.length_nil, List.replicate_succ, List.replicate_zero, List.all_cons, List.all_nil, Bool.and_true, Bool.true_and, tyn_int, tyn_bl, tyn_non, tyn_tup, tyn_lst, kit_ii, kit_ib, kit_tt, kit_ll, kit_lt, kit_tl, flat_int, v_int, flat_row, pl_non, pl_bl, pl_int, pl_tup, pl_lst, eqb_int, eqb_nil, eqb_non, D.isN, ne_eq, not_false_eq_true, true_and, and_true, if_true, if_false, Bool.false_eq_true, reduceCtorEq, String.reduceEq, Bool.not_true, Bool.not_false, Bool.or_false, Bool.false_or, Bool.or_true, Bool.true_or, Nat.zero_add, Nat.reduceAdd, Nat.reduceLeDiff, Nat.reduceSub, Nat.reduceEqDiff]
    exact ⟨b, rfl, hR⟩
  · rw [List.nil_append]
    have e : ∀ bs : List D, D.bls (bs.filterMap fun _ => some (D.bl true)) = some (bs.map fun _ => true) := by
      intro bs
      induction bs with
      | nil => rfl
      | cons b bs ih =>
        show D.bls (.bl true :: bs.filterMap fun _ => some (D.bl true)) = _
        unfold D.bls; rw [ih]; rfl
    rw [e]
    have e2 : ((List.map bD r).map fun _ => true).all id = true := by simp
    show Q (.bl (((List.map bD r).map fun _ => true).all id)) n
    rw [e2]
    exact q
theorem m_is_between : ∀ ds n Q, c_is_between ds n Q → kb_is_between ⟨fun _ n' => Q .non n', Q, fun _ _ => False, fun _ _ => False⟩ (startD ["value", "low", "high"] ds) n := by
  rintro ds n Q ⟨v, lo, hi, rfl, q⟩
  simp only [kb_is_between, kSeq, kAsg, kRet, kIfS, kDrop, kNext, kNever, kOwnS, kApp, kSub, kPar, kAndV_e, kOrV_e, kNotV, kAndT, kOrT, kNotT, kTest_e, isB_bl, kBin, kUn, kChain_e, condV, kCall, kCons, kNil, kTup, kLst, kLstO, kOut, kCompO, kIter, kEnum, kZip, kRng1, DL.kV, kB, kC, kIf, kStar, kSl, kPart, kNoPart, kFn, kFnK, kIsi2, kFor, gN, gTupD, gsCons, gsNil, kYes, dNeg, dAdd, dSub, dMod, dDiv, dMul, dPow, dCmp, dInt, dEq, dNe, dIn, dNotIn, dIx, dIsN, bLen, bInt, bAbs, bTuple, bList, bAny, bAll, bIsi, startD, okW, wipeD, List.map_cons, List.map_nil, List.cons_append, List.nil_append, List.getElem?_cons_zero, List.getElem?_cons_succ, List.set_cons_zero, List.set_cons_succ, List.length_cons, List.length_nil, List.replicate_succ, List.replicate_zero, List.all_cons, List.all_nil, Bool.and_true, Bool.true_and, tyn_int, tyn_bl, tyn_non, tyn_tup, tyn_lst, kit_ii, kit_ib, kit_tt, kit_ll, kit_lt, kit_tl, flat_int, v_int, flat_row, pl_non, pl_bl, pl_int, pl_tup, pl_lst, eqb_int, eqb_nil, eqb_non, D.isN, ne_eq, not_false_eq_true, true_and, and_true, if_true, if_false, Bool.false_eq_true, reduceCtorEq, String.reduceEq, Bool.not_true, Bool.not_false, Bool.or_false, Bool.false_or, Bool.or_true, Bool.true_or, Nat.zero_add, Nat.reduceAdd, Nat.reduceLeDiff, Nat.reduceSub, Nat.reduceEqDiff]
  by_cases h : lo ≤ v
  · rw [if_pos (decide_eq_true h)]
    rw [decide_eq_true h, Bool.true_and] at q
    exact q
  · rw [if_neg (by rw [decide_eq_false h]; exact Bool.false_ne_true)]
    rw [decide_eq_false h, Bool.false_and] at q
    exact q
theorem m_need_bursts : ∀ ds n Q, c_need_bursts ds n Q → kb_need_bursts ⟨fun _ n' => Q .non n', Q, fun _ _ => False, fun _ _ => False⟩ (startD ["burst", "guard"] ds) n := by
  rintro ds n Q ⟨b, g, rfl, h, q⟩
  have y1 : (decide (1 ≤ b) && decide (b ≤ 8)) = true := by rw [decide_eq_true h.1, decide_eq_true h.2.1]; rfl
  have y2 : (decide (0 ≤ g) && decide (g ≤ 24)) = true := by rw [decide_eq_true h.2.2.1, decide_eq_true h.2.2.2]; rfl
  simp only [kb_need_bursts, kSeq, kAsg, kRet, kIfS, kDrop, kNext, kNever, kOwnS, kApp, kSub, kPar, kAndV_e, kOrV_e, kNotV, kAndT, kOrT, kNotT, kTest_e, isB_bl, kBin, kUn, kChain_e, condV, kCall, kCons, kNil, kTup, kLst, kLstO, kOut, kCompO, kIter, kEnum, kZip, kRng1, DL.kV, kB, kC, kIf, kStar, kSl, kPart, kNoPart, kFn, kFnK, kIsi2, kFor, gN, gTupD, gsCons, gsNil, kYes, dNeg, dAdd, dSub, dMod, dDiv, dMul, dPow, dCmp, dInt, dEq, dNe, dIn, dNotIn, dIx, dIsN, bLen, bInt, bAbs, bTuple, bList, bAny, bAll, bIsi, startD, okW, wipeD, List.map_cons, List.map_nil, List.cons_append, List.nil_append, List.getElem?_cons_zero, List.getElem?_cons_succ, List.set_cons_zero, List.set_cons_succ, List.length_cons, List.length_nil, List.replicate_succ, List.replicate_zero, List.all_cons, List.all_nil, Bool.and_true, Bool.true_and, tyn_int, tyn_bl, tyn_non, tyn_tup, tyn_lst, kit_ii, kit_ib, kit_tt, kit_ll, kit_lt, kit_tl, flat_int, v_int, flat_row, pl_non, pl_bl, pl_int, pl_tup, pl_lst, eqb_int, eqb_nil, eqb_non, D.isN, ne_eq, not_false_eq_true, true_and, and_true, if_true, if_false, Bool.false_eq_true, reduceCtorEq, String.reduceEq, Bool.not_true, Bool.not_false, Bool.or_false, Bool.false_or, Bool.or_true, Bool.true_or, Nat.zero_add, Nat.reduceAdd, Nat.reduceLeDiff, Nat.reduceSub, Nat.reduceEqDiff, c_is_between]
  refine ⟨b, 1, 8, rfl, ?_⟩
  simp only [y1, kSeq, kAsg, kRet, kIfS, kDrop, kNext, kNever, kOwnS, kApp, kSub, kPar, kAndV_e, kOrV_e, kNotV, kAndT, kOrT, kNotT, kTest_e, isB_bl, kBin, kUn, kChain_e, condV, kCall, kCons, kNil, kTup, kLst, kLstO, kOut, kCompO, kIter, kEnum, kZip, kRng1, DL.kV, kB, kC, kIf, kStar, kSl, kPart, kNoPart, kFn, kFnK, kIsi2, kFor, gN, gTupD, gsCons, gsNil, kYes, dNeg, dAdd, dSub, dMod, dDiv, dMul, dPow, dCmp, dInt, dEq, dNe, dIn, dNotIn, dIx, dIsN, bLen, bInt, bAbs, bTuple, bList, bAny, bAll, bIsi, startD, okW, wipeD, List.map_cons, List.map_nil, List.cons_append, List.nil_append, List.getElem?_cons_zero, List.getElem?_cons_succ, List.set_cons_zero, List.set_cons_succ, List.length_cons, List.length_nil, List.replicate_succ, List.replicate_zero, List.all_cons, List.all_nil, Bool.and_true, Bool.true_and, tyn_int, tyn_bl, tyn_non, tyn_tup, tyn_lst, kit_ii, kit_ib, kit_tt, kit_ll, kit_lt, kit_tl, flat_int, v_int, flat_row, pl_non, pl_bl, pl_int, pl_tup, pl_lst, eqb_int, eqb_nil, eqb_non, D.isN, ne_eq, not_false_eq_true, true_and, and_true, if_true, if_false, Bool.false_eq_true, reduceCtorEq, String.reduceEq, Bool.not_true, Bool.not_false, Bool.or_false, Bool.false_or, Bool.or_true, Bool.true_or, Nat.zero_add, Nat.reduceAdd, Nat.reduceLeDiff, Nat.reduceSub, Nat.reduceEqDiff]
  refine ⟨g, 0, 24, rfl, ?_⟩
  simp only [y2, kSeq, kAsg, kRet, kIfS, kDrop, kNext, kNever, kOwnS, kApp, kSub, kPar, kAndV_e, kOrV_e, kNotV, kAndT, kOrT, kNotT, kTest_e, isB_bl, kBin, kUn, kChain_e, condV, kCall, kCons, kNil, kTup, kLst, kLstO, kOut, kCompO, kIter, kEnum, kZip, kRng1, DL.kV, kB, kC, kIf, kStar, kSl, kPart, kNoPart, kFn, kFnK, kIsi2, kFor, gN, gTupD, gsCons, gsNil, kYes, dNeg, dAdd, dSub, dMod, dDiv, dMul, dPow, dCmp, dInt, dEq, dNe, dIn, dNotIn, dIx, dIsN, bLen, bInt, bAbs, bTuple, bList, bAny, bAll, bIsi, startD, okW, wipeD, List.map_cons, List.map_nil, List.cons_append, List.nil_append, List.getElem?_cons_zero, List.getElem?_cons_succ, List.set_cons_zero, List.set_cons_succ, List.length_cons, List.length_nil, List.replicate_succ, List.replicate_zero, List.all_cons, List.all_nil, Bool.and_true, Bool.true_and, tyn_int, tyn_bl, tyn_non, tyn_tup, tyn_lst, kit_ii, kit_ib, kit_tt, kit_ll, kit_lt, kit_tl, flat_int, v_int, flat_row, pl_non, pl_bl, pl_int, pl_tup, pl_lst, eqb_int, eqb_nil, eqb_non, D.isN, ne_eq, not_false_eq_true, true_and, and_true, if_true, if_false, Bool.false_eq_true, reduceCtorEq, String.reduceEq, Bool.not_true, Bool.not_false, Bool.or_false, Bool.false_or, Bool.or_true, Bool.true_or, Nat.zero_add, Nat.reduceAdd, Nat.reduceLeDiff, Nat.reduceSub, Nat.reduceEqDiff]
  exact q
theorem ns_loop (E : DEnds) (n : Nat) (d : D) : ∀ (rs : List (List Bool)) (k : Nat) (a b : Sl), (∀ r ∈ rs, r.length ≤ 1000) → (∀ a b, E.nx [.val d, a, b] n) → kFors kg_need_steps_1 kb_need_steps_2 E (enumD k (rs.map rowD)) [.val d, a, b] n
  | [], k, a, b, h, q => q a b
  | r :: rs, k, a, b, h, q => by
    have hr := h r (List.mem_cons_self ..)
    have ih := ns_loop E n d rs (k + 1) (.val (.int k)) (.val (rowD r)) (fun r' hr => h r' (List.mem_cons_of_mem _ hr)) q
    rw [List.map_cons, enum_cons, fors_cons]
    generalize kFors kg_need_steps_1 kb_need_steps_2 E (enumD (k + 1) (rs.map rowD)) = X at ih ⊢
    simp only [kg_need_steps_1, kb_need_steps_2, kSeq, kAsg, kRet, kIfS, kDrop, kNext, kNever, kOwnS, kApp, kSub, kPar, kAndV_e, kOrV_e, kNotV, kAndT, kOrT, kNotT, kTest_e, isB_bl, kBin, kUn, kChain_e, condV, kCall, kCons, kNil, kTup, kLst, kLstO, kOut, kCompO, kIter, kEnum, kZip, kRng1, DL.kV, kB, kC, kIf, kStar, kSl, kPart, kNoPart, kFn, kFnK, kIsi2, kFor, gN, gTupD, gsCons, gsNil, kYes, dNeg, dAdd, dSub, dMod, dDiv, dMul, dPow, dCmp, dInt, dEq, dNe, dIn, dNotIn, dIx, dIsN, bLen, bInt, bAbs, bTuple, bList, bAny, bAll, bIsi, startD, okW, wipeD, List.map_cons, List.map_nil, List.cons_append, List.nil_append, List.getElem?_cons_zero, List.getElem?_cons_succ, List.set_cons_zero, List.set_cons_succ, List.length_cons, List.length_nil, List.replicate_succ, List.replicate_zero, List.all_cons, List.all_nil, Bool.and_true, Bool.true_and, tyn_int, tyn_bl, tyn_non, tyn_tup, tyn_lst, kit_ii, kit_ib, kit_tt, kit_ll, kit_lt, kit_tl, flat_int, v_int, flat_row, pl_non, pl_bl, pl_int, pl_tup, pl_lst, eqb_int, eqb_nil, eqb_non, D.isN, ne_eq, not_false_eq_true, true_and, and_true, if_true, if_false, Bool.false_eq_true, reduceCtorEq, String.reduceEq, Bool.not_true, Bool.not_false, Bool.or_false, Bool.false_or, Bool.or_true, Bool.true_or, Nat.zero_add, Nat.reduceAdd, Nat.reduceLeDiff, Nat.reduceSub, Nat.reduceEqDiff, rowD, c_is_bits]
    exact ⟨r, by rw [List.length_map], hr, ih⟩
theorem m_need_steps : ∀ ds n Q, c_need_steps ds n Q → kb_need_steps ⟨fun _ n' => Q .non n', Q, fun _ _ => False, fun _ _ => False⟩ (startD ["rows", "at", "row"] ds) n := by
  rintro ds n Q ⟨rs, d, rfl, ⟨hd, h1, h2⟩, q⟩
  rcases hd with rfl | rfl
  · simp only [kb_need_steps, kSeq, kAsg, kRet, kIfS, kDrop, kNext, kNever, kOwnS, kApp, kSub, kPar, kAndV_e, kOrV_e, kNotV, kAndT, kOrT, kNotT, kTest_e, isB_bl, kBin, kUn, kChain_e, condV, kCall, kCons, kNil, kTup, kLst, kLstO, kOut, kCompO, kIter, kEnum, kZip, kRng1, DL.kV, kB, kC, kIf, kStar, kSl, kPart, kNoPart, kFn, kFnK, kIsi2, kFor, gN, gTupD, gsCons, gsNil, kYes, dNeg, dAdd, dSub, dMod, dDiv, dMul, dPow, dCmp, dInt, dEq, dNe, dIn, dNotIn, dIx, dIsN, bLen, bInt, bAbs, bTuple, bList, bAny, bAll, bIsi, startD, okW, wipeD, List.map_cons, List.map_nil, List.cons_append, List.nil_append, List.getElem?_cons_zero, List.getElem?_cons_succ, List.set_cons_zero, List.set_cons_succ, List.length_cons, List.length_nil, List.replicate_succ, List.replicate_zero, List.all_cons, List.all_nil, Bool.and_true, Bool.true_and, tyn_int, tyn_bl, tyn_non, tyn_tup, tyn_lst, kit_ii, kit_ib, kit_tt, kit_ll, kit_lt, kit_tl, flat_int, v_int, flat_row, pl_non, pl_bl, pl_int, pl_tup, pl_lst, eqb_int, eqb_nil, eqb_non, D.isN, ne_eq, not_false_eq_true, true_and, and_true, if_true, if_false, Bool.false_eq_true, reduceCtorEq, String.reduceEq, Bool.not_true, Bool.not_false, Bool.or_false, Bool.false_or, Bool.or_true, Bool.true_or, Nat.zero_add, Nat.reduceAdd, Nat.reduceLeDiff, Nat.reduceSub, Nat.reduceEqDiff]
    exact ns_loop _ n _ rs 0 _ _ h2 fun _ _ => q
  · simp only [kb_need_steps, kSeq, kAsg, kRet, kIfS, kDrop, kNext, kNever, kOwnS, kApp, kSub, kPar, kAndV_e, kOrV_e, kNotV, kAndT, kOrT, kNotT, kTest_e, isB_bl, kBin, kUn, kChain_e, condV, kCall, kCons, kNil, kTup, kLst, kLstO, kOut, kCompO, kIter, kEnum, kZip, kRng1, DL.kV, kB, kC, kIf, kStar, kSl, kPart, kNoPart, kFn, kFnK, kIsi2, kFor, gN, gTupD, gsCons, gsNil, kYes, dNeg, dAdd, dSub, dMod, dDiv, dMul, dPow, dCmp, dInt, dEq, dNe, dIn, dNotIn, dIx, dIsN, bLen, bInt, bAbs, bTuple, bList, bAny, bAll, bIsi, startD, okW, wipeD, List.map_cons, List.map_nil, List.cons_append, List.nil_append, List.getElem?_cons_zero, List.getElem?_cons_succ, List.set_cons_zero, List.set_cons_succ, List.length_cons, List.length_nil, List.replicate_succ, List.replicate_zero, List.all_cons, List.all_nil, Bool.and_true, Bool.true_and, tyn_int, tyn_bl, tyn_non, tyn_tup, tyn_lst, kit_ii, kit_ib, kit_tt, kit_ll, kit_lt, kit_tl, flat_int, v_int, flat_row, pl_non, pl_bl, pl_int, pl_tup, pl_lst, eqb_int, eqb_nil, eqb_non, D.isN, ne_eq, not_false_eq_true, true_and, and_true, if_true, if_false, Bool.false_eq_true, reduceCtorEq, String.reduceEq, Bool.not_true, Bool.not_false, Bool.or_false, Bool.false_or, Bool.or_true, Bool.true_or, Nat.zero_add, Nat.reduceAdd, Nat.reduceLeDiff, Nat.reduceSub, Nat.reduceEqDiff]
    exact ns_loop _ n _ rs 0 _ _ h2 fun _ _ => q
def fWrong : D → Option D := fun d => match d with
  | .tup [k, .tup bs] => if inV (.int 1) (bs.map D.v) = true then some k else none
  | _ => none
theorem fWrong_posn : ∀ (rs : List (List Bool)) (k : Nat), (enumD k (rs.map rowD)).filterMap fWrong = (posn k (rs.map hot)).map D.int
  | [], k => rfl
  | r :: rs, k => by
    have ih := fWrong_posn rs (k + 1)
    have e : ((k + 1 : Nat) : Int) = (k : Int) + 1 := rfl
    rw [e] at ih
    rw [List.map_cons, List.map_cons]
    show List.filterMap fWrong (.tup [.int (k : Nat), rowD r] :: enumD (k + 1) (rs.map rowD)) = _
    unfold posn
    have f : fWrong (.tup [.int (k : Nat), rowD r]) = if hot r = true then some (.int k) else none := by
      show (if inV (.int 1) ((r.map bD).map D.v) = true then some (D.int k) else none) = _
      rw [hot_in]
    by_cases hr : hot r = true
    · rw [if_pos hr, List.filterMap_cons_some (by rw [f, if_pos hr]), ih]; rfl
    · rw [if_neg hr, List.filterMap_cons_none (by rw [f, if_neg hr]), ih]
theorem mem_enum : ∀ (ds : List D) (k : Nat) (d : D), d ∈ enumD k ds → ∃ (j : Nat) (e : D), d = .tup [.int j, e] ∧ e ∈ ds
  | [], _, _, h => by cases h
  | d :: ds, k, x, h => by
    unfold enumD at h
    rcases List.mem_cons.mp h with rfl | h
    · exact ⟨k, d, rfl, List.mem_cons_self ..⟩
    · obtain ⟨j, e, h1, h2⟩ := mem_enum ds (k + 1) x h
      exact ⟨j, e, h1, List.mem_cons_of_mem _ h2⟩
theorem m_wrong_steps : ∀ ds n Q, c_wrong_steps ds n Q → kb_wrong_steps ⟨fun _ n' => Q .non n', Q, fun _ _ => False, fun _ _ => False⟩ (startD ["rows", "at", "row"] ds) n := by
  rintro ds n Q ⟨rs, d, rfl, ⟨hd, h1, h2⟩, q⟩
  have go : ∀ d : D, kComps kg_wrong_steps_2 kt_wrong_steps_1 ke_wrong_steps_3 [1, 2] [Sl.val d, Sl.no, Sl.no] (enumD 0 (rs.map rowD)) [] n fun acc n2 => Q (.lst acc) n2 := by
    intro d
    refine comps_fm fWrong _ _ (fun x hx R hR => ?_) ?_
    · obtain ⟨j, e, rfl, he⟩ := mem_enum _ _ _ hx
      obtain ⟨r, hr, rfl⟩ := List.mem_map.mp he
      have f : fWrong (.tup [.int j, rowD r]) = if hot r = true then some (.int j) else none := by
        show (if inV (.int 1) ((r.map bD).map D.v) = true then some (D.int j) else none) = _
        rw [hot_in]
      rw [f] at hR
      simp only [kg_wrong_steps_2, kt_wrong_steps_1, ke_wrong_steps_3, kSeq, kAsg, kRet, kIfS, kDrop, kNext, kNever, kOwnS, kApp, kSub, kPar, kAndV_e, kOrV_e, kNotV, kAndT, kOrT, kNotT, kTest_e, isB_bl, kBin, kUn, kChain_e, condV, kCall, kCons, kNil, kTup, kLst, kLstO, kOut, kCompO, kIter, kEnum, kZip, kRng1, DL.kV, kB, kC, kIf, kStar, kSl, kPart, kNoPart, kFn, kFnK, kIsi2, kFor, gN, gTupD, gsCons, gsNil, kYes, dNeg, dAdd, dSub, dMod, dDiv, dMul, dPow, dCmp, dInt, dEq, dNe, dIn, dNotIn, dIx, dIsN, bLen, bInt, bAbs, bTuple, bList, bAny, bAll, bIsi, startD, okW, wipeD, List.map_cons, List.map_nil, List.cons_append, List.nil_append, List.getElem?_cons_zero, List.getElem?_cons_succ, List.set_cons_zero, List.set_cons_succ, List.length_cons, List.length_nil, List.replicate_succ, List.replicate_zero, List.all_cons, List.all_nil, Bool.and_true, Bool.true_and, tyn_int, tyn_bl, tyn_non, tyn_tup, tyn_lst, kit_ii, kit_ib, kit_tt, kit_ll, kit_lt, kit_tl, flat_int, v_int, flat_row, pl_non, pl_bl, pl_int, pl_tup, pl_lst, eqb_int, eqb_nil, eqb_non, D.isN, ne_eq, not_false_eq_true, true_and, and_true, if_true, if_false, Bool.false_eq_true, reduceCtorEq, String.reduceEq, Bool.not_true, Bool.not_false, Bool.or_false, Bool.false_or, Bool.or_true, Bool.true_or, Nat.zero_add, Nat.reduceAdd, Nat.reduceLeDiff, Nat.reduceSub, Nat.reduceEqDiff, rowD, hot_in]
      by_cases hh : hot r = true
      · rw [if_pos hh] at hR ⊢
        exact hR
      · rw [if_neg hh] at hR ⊢
        exact hR
    · rw [fWrong_posn]
      exact q
  have len : (enumD 0 (rs.map rowD)).length ≤ 1000000 := by rw [enumD_len, List.length_map]; omega
  rcases hd with rfl | rfl
  · simp only [kb_wrong_steps, kSeq, kAsg, kRet, kIfS, kDrop, kNext, kNever, kOwnS, kApp, kSub, kPar, kAndV_e, kOrV_e, kNotV, kAndT, kOrT, kNotT, kTest_e, isB_bl, kBin, kUn, kChain_e, condV, kCall, kCons, kNil, kTup, kLst, kLstO, kOut, kCompO, kIter, kEnum, kZip, kRng1, DL.kV, kB, kC, kIf, kStar, kSl, kPart, kNoPart, kFn, kFnK, kIsi2, kFor, gN, gTupD, gsCons, gsNil, kYes, dNeg, dAdd, dSub, dMod, dDiv, dMul, dPow, dCmp, dInt, dEq, dNe, dIn, dNotIn, dIx, dIsN, bLen, bInt, bAbs, bTuple, bList, bAny, bAll, bIsi, startD, okW, wipeD, List.map_cons, List.map_nil, List.cons_append, List.nil_append, List.getElem?_cons_zero, List.getElem?_cons_succ, List.set_cons_zero, List.set_cons_succ, List.length_cons, List.length_nil, List.replicate_succ, List.replicate_zero, List.all_cons, List.all_nil, Bool.and_true, Bool.true_and, tyn_int, tyn_bl, tyn_non, tyn_tup, tyn_lst, kit_ii, kit_ib, kit_tt, kit_ll, kit_lt, kit_tl, flat_int, v_int, flat_row, pl_non, pl_bl, pl_int, pl_tup, pl_lst, eqb_int, eqb_nil, eqb_non, D.isN, ne_eq, not_false_eq_true, true_and, and_true, if_true, if_false, Bool.false_eq_true, reduceCtorEq, String.reduceEq, Bool.not_true, Bool.not_false, Bool.or_false, Bool.false_or, Bool.or_true, Bool.true_or, Nat.zero_add, Nat.reduceAdd, Nat.reduceLeDiff, Nat.reduceSub, Nat.reduceEqDiff]
    exact ⟨len, go _⟩
  · simp only [kb_wrong_steps, kSeq, kAsg, kRet, kIfS, kDrop, kNext, kNever, kOwnS, kApp, kSub, kPar, kAndV_e, kOrV_e, kNotV, kAndT, kOrT, kNotT, kTest_e, isB_bl, kBin, kUn, kChain_e, condV, kCall, kCons, kNil, kTup, kLst, kLstO, kOut, kCompO, kIter, kEnum, kZip, kRng1, DL.kV, kB, kC, kIf, kStar, kSl, kPart, kNoPart, kFn, kFnK, kIsi2, kFor, gN, gTupD, gsCons, gsNil, kYes, dNeg, dAdd, dSub, dMod, dDiv, dMul, dPow, dCmp, dInt, dEq, dNe, dIn, dNotIn, dIx, dIsN, bLen, bInt, bAbs, bTuple, bList, bAny, bAll, bIsi, startD, okW, wipeD, List.map_cons, List.map_nil, List.cons_append, List.nil_append, List.getElem?_cons_zero, List.getElem?_cons_succ, List.set_cons_zero, List.set_cons_succ, List.length_cons, List.length_nil, List.replicate_succ, List.replicate_zero, List.all_cons, List.all_nil, Bool.and_true, Bool.true_and, tyn_int, tyn_bl, tyn_non, tyn_tup, tyn_lst, kit_ii, kit_ib, kit_tt, kit_ll, kit_lt, kit_tl, flat_int, v_int, flat_row, pl_non, pl_bl, pl_int, pl_tup, pl_lst, eqb_int, eqb_nil, eqb_non, D.isN, ne_eq, not_false_eq_true, true_and, and_true, if_true, if_false, Bool.false_eq_true, reduceCtorEq, String.reduceEq, Bool.not_true, Bool.not_false, Bool.or_false, Bool.false_or, Bool.or_true, Bool.true_or, Nat.zero_add, Nat.reduceAdd, Nat.reduceLeDiff, Nat.reduceSub, Nat.reduceEqDiff]
    exact ⟨len, go _⟩
end L78
namespace L78
open PySem PySem.Spec PyProof.Rows L2 DL
theorem dr1 (E : DEnds) (p s2 s3 s4 : Sl) (m x : Int) (n : Nat) (hm : 0 < m) (q : ∀ d : Int, 0 ≤ d → d < m → E.rt (.int d) n) : kr_law_draw_1 E [p, .val (.int m), s2, s3, s4, .val (.int x)] n := by
  simp only [kr_law_draw_1, kSeq, kAsg, kRet, kIfS, kDrop, kNext, kNever, kOwnS, kApp, kSub, kPar, kAndV_e, kOrV_e, kNotV, kAndT, kOrT, kNotT, kTest_e, isB_bl, kBin, kUn, kChain_e, condV, kCall, kCons, kNil, kTup, kLst, kLstO, kOut, kCompO, kIter, kEnum, kZip, kRng1, DL.kV, kB, kC, kIf, kStar, kSl, kPart, kNoPart, kFn, kFnK, kIsi2, kFor, gN, gTupD, gsCons, gsNil, kYes, dNeg, dAdd, dSub, dMod, dDiv, dMul, dPow, dCmp, dInt, dEq, dNe, dIn, dNotIn, dIx, dIsN, bLen, bInt, bAbs, bTuple, bList, bAny, bAll, bIsi, startD, okW, wipeD, List.map_cons, List.map_nil, List.cons_append, List.nil_append, List.getElem?_cons_zero, List.getElem?_cons_succ, List.set_cons_zero, List.set_cons_succ, List.length_cons, List.length_nil, List.replicate_succ, List.replicate_zero, List.all_cons, List.all_nil, Bool.and_true, Bool.true_and, tyn_int, tyn_bl, tyn_non, tyn_tup, tyn_lst, kit_ii, kit_ib, kit_tt, kit_ll, kit_lt, kit_tl, flat_int, v_int, flat_row, pl_non, pl_bl, pl_int, pl_tup, pl_lst, eqb_int, eqb_nil, eqb_non, D.isN, ne_eq, not_false_eq_true, true_and, and_true, if_true, if_false, Bool.false_eq_true, reduceCtorEq, String.reduceEq, Bool.not_true, Bool.not_false, Bool.or_false, Bool.false_or, Bool.or_true, Bool.true_or, Nat.zero_add, Nat.reduceAdd, Nat.reduceLeDiff, Nat.reduceSub, Nat.reduceEqDiff, kPen0, kPen1, kPen2, kInk1, kInk2, asInt]
  exact ⟨⟨by decide, by decide⟩, hm, q _ (Int.emod_nonneg _ (by omega)) (Int.emod_lt_of_pos _ hm)⟩
theorem cmul_l {i j : Int} (h : -(2 ^ 64) < i ∧ i < 2 ^ 64) : CMul i j := .inl h
theorem dr2 (E : DEnds) (p s2 s4 : Sl) (m x t : Int) (n : Nat) (hm : 0 < m) (ht : 0 ≤ t ∧ t ≤ 100000) (hx : 0 ≤ x ∧ x < 2147483629) (q : ∀ d : Int, 0 ≤ d → d < m → E.rt (.int d) n) : kr_law_draw_2 E [p, .val (.int m), s2, .val (.int t), s4, .val (.int x)] n := by
  simp only [kr_law_draw_2, kSeq, kAsg, kRet, kIfS, kDrop, kNext, kNever, kOwnS, kApp, kSub, kPar, kAndV_e, kOrV_e, kNotV, kAndT, kOrT, kNotT, kTest_e, isB_bl, kBin, kUn, kChain_e, condV, kCall, kCons, kNil, kTup, kLst, kLstO, kOut, kCompO, kIter, kEnum, kZip, kRng1, DL.kV, kB, kC, kIf, kStar, kSl, kPart, kNoPart, kFn, kFnK, kIsi2, kFor, gN, gTupD, gsCons, gsNil, kYes, dNeg, dAdd, dSub, dMod, dDiv, dMul, dPow, dCmp, dInt, dEq, dNe, dIn, dNotIn, dIx, dIsN, bLen, bInt, bAbs, bTuple, bList, bAny, bAll, bIsi, startD, okW, wipeD, List.map_cons, List.map_nil, List.cons_append, List.nil_append, List.getElem?_cons_zero, List.getElem?_cons_succ, List.set_cons_zero, List.set_cons_succ, List.length_cons, List.length_nil, List.replicate_succ, List.replicate_zero, List.all_cons, List.all_nil, Bool.and_true, Bool.true_and, tyn_int, tyn_bl, tyn_non, tyn_tup, tyn_lst, kit_ii, kit_ib, kit_tt, kit_ll, kit_lt, kit_tl, flat_int, v_int, flat_row, pl_non, pl_bl, pl_int, pl_tup, pl_lst, eqb_int, eqb_nil, eqb_non, D.isN, ne_eq, not_false_eq_true, true_and, and_true, if_true, if_false, Bool.false_eq_true, reduceCtorEq, String.reduceEq, Bool.not_true, Bool.not_false, Bool.or_false, Bool.false_or, Bool.or_true, Bool.true_or, Nat.zero_add, Nat.reduceAdd, Nat.reduceLeDiff, Nat.reduceSub, Nat.reduceEqDiff, kPen0, kPen1, kPen2, kInk1, kInk2, asInt]
  have a1 : x * (2 * t + 5525) ≤ 2147483629 * 205525 := Int.mul_le_mul (by omega) (by omega) (by omega) (by omega)
  have a2 : 0 ≤ x * (2 * t + 5525) := Int.mul_nonneg (by omega) (by omega)
  have a3 : (30069 * t) * t ≤ (30069 * 100000) * 100000 := Int.mul_le_mul (by omega) (by omega) (by omega) (by omega)
  have a4 : 0 ≤ (30069 * t) * t := Int.mul_nonneg (by omega) (by omega)
  generalize x * (2 * t + 5525) = y at *
  generalize 30069 * t * t = z at *
  exact ⟨cmul_l (by omega), cmul_l (by omega), cmul_l (by omega), cmul_l (by omega), ⟨by decide, by decide, by omega⟩, by decide, dr1 E _ _ _ _ _ _ _ hm q⟩
theorem dr3 (E : DEnds) (p s2 s5 : Sl) (m c t : Int) (n : Nat) (hm : 0 < m) (ht : 0 ≤ t ∧ t ≤ 100000) (q : ∀ d : Int, 0 ≤ d → d < m → E.rt (.int d) n) : kr_law_draw_3 E [p, .val (.int m), s2, .val (.int t), .val (.int c), s5] n := by
  simp only [kr_law_draw_3, kSeq, kAsg, kRet, kIfS, kDrop, kNext, kNever, kOwnS, kApp, kSub, kPar, kAndV_e, kOrV_e, kNotV, kAndT, kOrT, kNotT, kTest_e, isB_bl, kBin, kUn, kChain_e, condV, kCall, kCons, kNil, kTup, kLst, kLstO, kOut, kCompO, kIter, kEnum, kZip, kRng1, DL.kV, kB, kC, kIf, kStar, kSl, kPart, kNoPart, kFn, kFnK, kIsi2, kFor, gN, gTupD, gsCons, gsNil, kYes, dNeg, dAdd, dSub, dMod, dDiv, dMul, dPow, dCmp, dInt, dEq, dNe, dIn, dNotIn, dIx, dIsN, bLen, bInt, bAbs, bTuple, bList, bAny, bAll, bIsi, startD, okW, wipeD, List.map_cons, List.map_nil, List.cons_append, List.nil_append, List.getElem?_cons_zero, List.getElem?_cons_succ, List.set_cons_zero, List.set_cons_succ, List.length_cons, List.length_nil, List.replicate_succ, List.replicate_zero, List.all_cons, List.all_nil, Bool.and_true, Bool.true_and, tyn_int, tyn_bl, tyn_non, tyn_tup, tyn_lst, kit_ii, kit_ib, kit_tt, kit_ll, kit_lt, kit_tl, flat_int, v_int, flat_row, pl_non, pl_bl, pl_int, pl_tup, pl_lst, eqb_int, eqb_nil, eqb_non, D.isN, ne_eq, not_false_eq_true, true_and, and_true, if_true, if_false, Bool.false_eq_true, reduceCtorEq, String.reduceEq, Bool.not_true, Bool.not_false, Bool.or_false, Bool.false_or, Bool.or_true, Bool.true_or, Nat.zero_add, Nat.reduceAdd, Nat.reduceLeDiff, Nat.reduceSub, Nat.reduceEqDiff, kPen0, kPen1, kPen2, kInk1, kInk2, asInt]
  have b1 : 0 ≤ c % 2147483549 := Int.emod_nonneg _ (by decide)
  have b2 : c % 2147483549 < 2147483549 := Int.emod_lt_of_pos _ (by decide)
  exact ⟨by decide, cmul_l (by omega), ⟨by decide, by decide, by omega⟩, by decide, dr2 E _ _ _ _ _ _ _ hm ht ⟨Int.emod_nonneg _ (by decide), Int.emod_lt_of_pos _ (by decide)⟩ q⟩
theorem dr4 (E : DEnds) (s2 s5 : Sl) (cs : List Int) (m c t : Int) (n : Nat) (hm : 0 < m ∧ m < 1073741824) (ht : 0 ≤ t ∧ t ≤ 100000) (q : ∀ d : Int, 0 ≤ d → d < m → E.rt (.int d) n) : kr_law_draw_4 E [.val (.pen cs), .val (.int m), s2, .val (.int t), .val (.int c), s5] n := by
  simp only [kr_law_draw_4, kSeq, kAsg, kRet, kIfS, kDrop, kNext, kNever, kOwnS, kApp, kSub, kPar, kAndV_e, kOrV_e, kNotV, kAndT, kOrT, kNotT, kTest_e, isB_bl, kBin, kUn, kChain_e, condV, kCall, kCons, kNil, kTup, kLst, kLstO, kOut, kCompO, kIter, kEnum, kZip, kRng1, DL.kV, kB, kC, kIf, kStar, kSl, kPart, kNoPart, kFn, kFnK, kIsi2, kFor, gN, gTupD, gsCons, gsNil, kYes, dNeg, dAdd, dSub, dMod, dDiv, dMul, dPow, dCmp, dInt, dEq, dNe, dIn, dNotIn, dIx, dIsN, bLen, bInt, bAbs, bTuple, bList, bAny, bAll, bIsi, startD, okW, wipeD, List.map_cons, List.map_nil, List.cons_append, List.nil_append, List.getElem?_cons_zero, List.getElem?_cons_succ, List.set_cons_zero, List.set_cons_succ, List.length_cons, List.length_nil, List.replicate_succ, List.replicate_zero, List.all_cons, List.all_nil, Bool.and_true, Bool.true_and, tyn_int, tyn_bl, tyn_non, tyn_tup, tyn_lst, kit_ii, kit_ib, kit_tt, kit_ll, kit_lt, kit_tl, flat_int, v_int, flat_row, pl_non, pl_bl, pl_int, pl_tup, pl_lst, eqb_int, eqb_nil, eqb_non, D.isN, ne_eq, not_false_eq_true, true_and, and_true, if_true, if_false, Bool.false_eq_true, reduceCtorEq, String.reduceEq, Bool.not_true, Bool.not_false, Bool.or_false, Bool.false_or, Bool.or_true, Bool.true_or, Nat.zero_add, Nat.reduceAdd, Nat.reduceLeDiff, Nat.reduceSub, Nat.reduceEqDiff, kPen0, kPen1, kPen2, kInk1, kInk2, asInt]
  have e18 : (10 : Int) ^ Int.toNat 18 = 1000000000000000000 := by decide
  rw [e18]
  have cp : CPow 10 18 := ⟨by decide, by decide, by decide⟩
  have r3 := dr3 E (.val (.pen cs)) s2 s5 m c t n hm.1 ht q
  generalize (if c < 0 then -c else c) = w
  split
  · refine ⟨cp, ?_⟩
    split
    · rename_i h
      have h := of_decide_eq_true h
      have nn : 0 ≤ 2 * (w - 1000000000000000000) + if decide (c < 0) = true then 1 else 0 := by
        have h2 : (0 : Int) ≤ if decide (c < 0) = true then 1 else 0 := by split <;> decide
        omega
      exact ⟨cp, cmul_l (by decide), ⟨hm.1, hm.2⟩, Int.ediv_nonneg nn (by omega), hm.1, q _ (Int.emod_nonneg _ (by omega)) (Int.emod_lt_of_pos _ hm.1)⟩
    · exact r3
  · exact r3
theorem dr5 (E : DEnds) (s2 s5 : Sl) (cs : List Int) (m c t : Int) (n : Nat) (hm : 0 < m ∧ m < 1073741824) (ht : 0 ≤ t ∧ t ≤ 100000) (q : ∀ d : Int, 0 ≤ d → d < m → E.rt (.int d) n) : kr_law_draw_5 E [.val (.pen cs), .val (.int m), s2, .val (.int t), .val (.int c), s5] n := by
  simp only [kr_law_draw_5, kSeq, kAsg, kRet, kIfS, kDrop, kNext, kNever, kOwnS, kApp, kSub, kPar, kAndV_e, kOrV_e, kNotV, kAndT, kOrT, kNotT, kTest_e, isB_bl, kBin, kUn, kChain_e, condV, kCall, kCons, kNil, kTup, kLst, kLstO, kOut, kCompO, kIter, kEnum, kZip, kRng1, DL.kV, kB, kC, kIf, kStar, kSl, kPart, kNoPart, kFn, kFnK, kIsi2, kFor, gN, gTupD, gsCons, gsNil, kYes, dNeg, dAdd, dSub, dMod, dDiv, dMul, dPow, dCmp, dInt, dEq, dNe, dIn, dNotIn, dIx, dIsN, bLen, bInt, bAbs, bTuple, bList, bAny, bAll, bIsi, startD, okW, wipeD, List.map_cons, List.map_nil, List.cons_append, List.nil_append, List.getElem?_cons_zero, List.getElem?_cons_succ, List.set_cons_zero, List.set_cons_succ, List.length_cons, List.length_nil, List.replicate_succ, List.replicate_zero, List.all_cons, List.all_nil, Bool.and_true, Bool.true_and, tyn_int, tyn_bl, tyn_non, tyn_tup, tyn_lst, kit_ii, kit_ib, kit_tt, kit_ll, kit_lt, kit_tl, flat_int, v_int, flat_row, pl_non, pl_bl, pl_int, pl_tup, pl_lst, eqb_int, eqb_nil, eqb_non, D.isN, ne_eq, not_false_eq_true, true_and, and_true, if_true, if_false, Bool.false_eq_true, reduceCtorEq, String.reduceEq, Bool.not_true, Bool.not_false, Bool.or_false, Bool.false_or, Bool.or_true, Bool.true_or, Nat.zero_add, Nat.reduceAdd, Nat.reduceLeDiff, Nat.reduceSub, Nat.reduceEqDiff, kPen0, kPen1, kPen2, kInk1, kInk2, asInt]
  refine ⟨pl_maps (fun i => pl_int 7 i) cs, (fun d hd => by cases hd), ?_⟩
  split
  · rename_i h
    have hl : 0 < cs.length := by
      cases cs with
      | nil => simp at h
      | cons a b => simp
    rw [List.length_map]
    have h1 : 0 ≤ t % (cs.length : Int) := Int.emod_nonneg _ (by omega)
    have h2 : t % (cs.length : Int) < cs.length := Int.emod_lt_of_pos _ (by omega)
    refine ⟨by omega, ?_⟩
    have e : atI (cs.map D.int) (t % (cs.length : Int)) = some (D.int (cs[(t % (cs.length : Int)).toNat]'(by omega))) := by
      unfold atI ixN
      rw [List.length_map, if_pos h1, if_pos h2]
      show (cs.map D.int)[(t % (cs.length : Int)).toNat]? = _
      rw [List.getElem?_map, List.getElem?_eq_getElem (by omega)]
      rfl
    rw [e]
    exact dr4 E s2 s5 cs m _ t n hm ht q
  · exact dr4 E s2 s5 cs m c t n hm ht q
theorem dr8 (E : DEnds) (s2 s3 s4 s5 : Sl) (cs : List Int) (m : Int) (n : Nat) (hm : 0 < m ∧ m < 1073741824) (hn : n ≤ 100000) (q : ∀ d : Int, 0 ≤ d → d < m → ∀ n', n' ≤ n + 1 → E.rt (.int d) n') : kr_law_draw_8 E [.val (.pen cs), .val (.int m), s2, s3, s4, s5] n := by
  simp only [kr_law_draw_8, kr_law_draw_7, kr_law_draw_6, kSeq, kAsg, kRet, kIfS, kDrop, kNext, kNever, kOwnS, kApp, kSub, kPar, kAndV_e, kOrV_e, kNotV, kAndT, kOrT, kNotT, kTest_e, isB_bl, kBin, kUn, kChain_e, condV, kCall, kCons, kNil, kTup, kLst, kLstO, kOut, kCompO, kIter, kEnum, kZip, kRng1, DL.kV, kB, kC, kIf, kStar, kSl, kPart, kNoPart, kFn, kFnK, kIsi2, kFor, gN, gTupD, gsCons, gsNil, kYes, dNeg, dAdd, dSub, dMod, dDiv, dMul, dPow, dCmp, dInt, dEq, dNe, dIn, dNotIn, dIx, dIsN, bLen, bInt, bAbs, bTuple, bList, bAny, bAll, bIsi, startD, okW, wipeD, List.map_cons, List.map_nil, List.cons_append, List.nil_append, List.getElem?_cons_zero, List.getElem?_cons_succ, List.set_cons_zero, List.set_cons_succ, List.length_cons, List.length_nil, List.replicate_succ, List.replicate_zero, List.all_cons, List.all_nil, Bool.and_true, Bool.true_and, tyn_int, tyn_bl, tyn_non, tyn_tup, tyn_lst, kit_ii, kit_ib, kit_tt, kit_ll, kit_lt, kit_tl, flat_int, v_int, flat_row, pl_non, pl_bl, pl_int, pl_tup, pl_lst, eqb_int, eqb_nil, eqb_non, D.isN, ne_eq, not_false_eq_true, true_and, and_true, if_true, if_false, Bool.false_eq_true, reduceCtorEq, String.reduceEq, Bool.not_true, Bool.not_false, Bool.or_false, Bool.false_or, Bool.or_true, Bool.true_or, Nat.zero_add, Nat.reduceAdd, Nat.reduceLeDiff, Nat.reduceSub, Nat.reduceEqDiff, kPen0, kPen1, kPen2, kInk1, kInk2, asInt]
  intro t h1 h2
  exact ⟨⟨by omega, by omega⟩, cmul_l (by omega), dr5 E _ _ _ _ _ _ _ hm ⟨h1, by omega⟩ fun d a b => q d a b _ (Nat.le_refl _)⟩
theorem m_law_draw : ∀ ds n Q, c_law_draw ds n Q → kb_law_draw ⟨fun _ n' => Q .non n', Q, fun _ _ => False, fun _ _ => False⟩ (startD ["pen", "many", "rest", "turn", "cell", "mixed"] ds) n := by
  rintro ds n Q ⟨cs, m, rfl, hm, hn, q⟩
  simp only [kb_law_draw, kSeq, kAsg, kRet, kIfS, kDrop, kNext, kNever, kOwnS, kApp, kSub, kPar, kAndV_e, kOrV_e, kNotV, kAndT, kOrT, kNotT, kTest_e, isB_bl, kBin, kUn, kChain_e, condV, kCall, kCons, kNil, kTup, kLst, kLstO, kOut, kCompO, kIter, kEnum, kZip, kRng1, DL.kV, kB, kC, kIf, kStar, kSl, kPart, kNoPart, kFn, kFnK, kIsi2, kFor, gN, gTupD, gsCons, gsNil, kYes, dNeg, dAdd, dSub, dMod, dDiv, dMul, dPow, dCmp, dInt, dEq, dNe, dIn, dNotIn, dIx, dIsN, bLen, bInt, bAbs, bTuple, bList, bAny, bAll, bIsi, startD, okW, wipeD, List.map_cons, List.map_nil, List.cons_append, List.nil_append, List.getElem?_cons_zero, List.getElem?_cons_succ, List.set_cons_zero, List.set_cons_succ, List.length_cons, List.length_nil, List.replicate_succ, List.replicate_zero, List.all_cons, List.all_nil, Bool.and_true, Bool.true_and, tyn_int, tyn_bl, tyn_non, tyn_tup, tyn_lst, kit_ii, kit_ib, kit_tt, kit_ll, kit_lt, kit_tl, flat_int, v_int, flat_row, pl_non, pl_bl, pl_int, pl_tup, pl_lst, eqb_int, eqb_nil, eqb_non, D.isN, ne_eq, not_false_eq_true, true_and, and_true, if_true, if_false, Bool.false_eq_true, reduceCtorEq, String.reduceEq, Bool.not_true, Bool.not_false, Bool.or_false, Bool.false_or, Bool.or_true, Bool.true_or, Nat.zero_add, Nat.reduceAdd, Nat.reduceLeDiff, Nat.reduceSub, Nat.reduceEqDiff, kPen0, kPen1, kPen2, kInk1, kInk2, asInt]
  intro t ht
  split
  · intro r hr
    exact ⟨⟨hm.1, hm.2⟩, Int.ediv_nonneg hr (by omega), hm.1, q _ (Int.emod_nonneg _ (by omega)) (Int.emod_lt_of_pos _ hm.1) n (by omega)⟩
  · exact dr8 _ _ _ _ _ _ _ _ hm hn q
theorem m_law_pick : ∀ ds n Q, c_law_pick ds n Q → kb_law_pick ⟨fun _ n' => Q .non n', Q, fun _ _ => False, fun _ _ => False⟩ (startD ["pen", "some"] ds) n := by
  rintro ds n Q ⟨cs, xs, rfl, h1, h2, h3, q⟩
  have hl : 0 < xs.length := List.length_pos_iff.mpr h1
  simp only [kb_law_pick, kSeq, kAsg, kRet, kIfS, kDrop, kNext, kNever, kOwnS, kApp, kSub, kPar, kAndV_e, kOrV_e, kNotV, kAndT, kOrT, kNotT, kTest_e, isB_bl, kBin, kUn, kChain_e, condV, kCall, kCons, kNil, kTup, kLst, kLstO, kOut, kCompO, kIter, kEnum, kZip, kRng1, DL.kV, kB, kC, kIf, kStar, kSl, kPart, kNoPart, kFn, kFnK, kIsi2, kFor, gN, gTupD, gsCons, gsNil, kYes, dNeg, dAdd, dSub, dMod, dDiv, dMul, dPow, dCmp, dInt, dEq, dNe, dIn, dNotIn, dIx, dIsN, bLen, bInt, bAbs, bTuple, bList, bAny, bAll, bIsi, startD, okW, wipeD, List.map_cons, List.map_nil, List.cons_append, List.nil_append, List.getElem?_cons_zero, List.getElem?_cons_succ, List.set_cons_zero, List.set_cons_succ, List.length_cons, List.length_nil, List.replicate_succ, List.replicate_zero, List.all_cons, List.all_nil, Bool.and_true, Bool.true_and, tyn_int, tyn_bl, tyn_non, tyn_tup, tyn_lst, kit_ii, kit_ib, kit_tt, kit_ll, kit_lt, kit_tl, flat_int, v_int, flat_row, pl_non, pl_bl, pl_int, pl_tup, pl_lst, eqb_int, eqb_nil, eqb_non, D.isN, ne_eq, not_false_eq_true, true_and, and_true, if_true, if_false, Bool.false_eq_true, reduceCtorEq, String.reduceEq, Bool.not_true, Bool.not_false, Bool.or_false, Bool.false_or, Bool.or_true, Bool.true_or, Nat.zero_add, Nat.reduceAdd, Nat.reduceLeDiff, Nat.reduceSub, Nat.reduceEqDiff, kPen0, kPen1, kPen2, kInk1, kInk2, asInt, c_law_draw]
  refine ⟨cs, xs.length, rfl, ⟨by omega, by omega⟩, h3, fun d a b n' hn' => ?_⟩
  have hi : d.toNat < xs.length := by omega
  have e : atI xs d = some (xs[d.toNat]'hi) := by
    unfold atI ixN
    rw [if_pos a, if_pos b]
    exact List.getElem?_eq_getElem hi
  rw [e]
  exact q _ (List.getElem_mem hi) n' hn'
theorem m_law_all : ∀ ds n Q, c_law_all ds n Q → kb_law_all ⟨fun _ n' => Q .non n', Q, fun _ _ => False, fun _ _ => False⟩ (startD ["many", "found", "turn", "longer", "bits"] ds) n := by
  rintro ds n Q ⟨k, rfl, h, q⟩
  rcases (show k = 0 ∨ k = 1 ∨ k = 2 ∨ k = 3 by omega) with rfl | rfl | rfl | rfl
  · simp only [kb_law_all, kSeq, kAsg, kRet, kIfS, kDrop, kNext, kNever, kOwnS, kApp, kSub, kPar, kAndV_e, kOrV_e, kNotV, kAndT, kOrT, kNotT, kTest_e, isB_bl, kBin, kUn, kChain_e, condV, kCall, kCons, kNil, kTup, kLst, kLstO, kOut, kCompO, kIter, kEnum, kZip, kRng1, DL.kV, kB, kC, kIf, kStar, kSl, kPart, kNoPart, kFn, kFnK, kIsi2, kFor, gN, gTupD, gsCons, gsNil, kYes, dNeg, dAdd, dSub, dMod, dDiv, dMul, dPow, dCmp, dInt, dEq, dNe, dIn, dNotIn, dIx, dIsN, bLen, bInt, bAbs, bTuple, bList, bAny, bAll, bIsi, startD, okW, wipeD, List.map_cons, List.map_nil, List.cons_append, List.nil_append, List.getElem?_cons_zero, List.getElem?_cons_succ, List.set_cons_zero, List.set_cons_succ, List.length_cons, List.length_nil, List.replicate_succ, List.replicate_zero, List.all_cons, List.all_nil, Bool.and_true, Bool.true_and, tyn_int, tyn_bl, tyn_non, tyn_tup, tyn_lst, kit_ii, kit_ib, kit_tt, kit_ll, kit_lt, kit_tl, flat_int, v_int, flat_row, pl_non, pl_bl, pl_int, pl_tup, pl_lst, eqb_int, eqb_nil, eqb_non, D.isN, ne_eq, not_false_eq_true, true_and, and_true, if_true, if_false, Bool.false_eq_true, reduceCtorEq, String.reduceEq, Bool.not_true, Bool.not_false, Bool.or_false, Bool.false_or, Bool.or_true, Bool.true_or, Nat.zero_add, Nat.reduceAdd, Nat.reduceLeDiff, Nat.reduceSub, Nat.reduceEqDiff, kPen0, kPen1, kPen2, kInk1, kInk2, asInt]
    refine ⟨by decide, ?_⟩
    show kFors kg_law_all_3 kb_law_all_4 _ [] _ _
    simp only [fors_nil, kSeq, kAsg, kRet, kIfS, kDrop, kNext, kNever, kOwnS, kApp, kSub, kPar, kAndV_e, kOrV_e, kNotV, kAndT, kOrT, kNotT, kTest_e, isB_bl, kBin, kUn, kChain_e, condV, kCall, kCons, kNil, kTup, kLst, kLstO, kOut, kCompO, kIter, kEnum, kZip, kRng1, DL.kV, kB, kC, kIf, kStar, kSl, kPart, kNoPart, kFn, kFnK, kIsi2, kFor, gN, gTupD, gsCons, gsNil, kYes, dNeg, dAdd, dSub, dMod, dDiv, dMul, dPow, dCmp, dInt, dEq, dNe, dIn, dNotIn, dIx, dIsN, bLen, bInt, bAbs, bTuple, bList, bAny, bAll, bIsi, startD, okW, wipeD, List.map_cons, List.map_nil, List.cons_append, List.nil_append, List.getElem?_cons_zero, List.getElem?_cons_succ, List.set_cons_zero, List.set_cons_succ, List.length_cons, List.length_nil, List.replicate_succ, List.replicate_zero, List.all_cons, List.all_nil, Bool.and_true, Bool.true_and, tyn_int, tyn_bl, tyn_non, tyn_tup, tyn_lst, kit_ii, kit_ib, kit_tt, kit_ll, kit_lt, kit_tl, flat_int, v_int, flat_row, pl_non, pl_bl, pl_int, pl_tup, pl_lst, eqb_int, eqb_nil, eqb_non, D.isN, ne_eq, not_false_eq_true, true_and, and_true, if_true, if_false, Bool.false_eq_true, reduceCtorEq, String.reduceEq, Bool.not_true, Bool.not_false, Bool.or_false, Bool.false_or, Bool.or_true, Bool.true_or, Nat.zero_add, Nat.reduceAdd, Nat.reduceLeDiff, Nat.reduceSub, Nat.reduceEqDiff, kPen0, kPen1, kPen2, kInk1, kInk2, asInt]
    exact q
  · simp only [kb_law_all, kSeq, kAsg, kRet, kIfS, kDrop, kNext, kNever, kOwnS, kApp, kSub, kPar, kAndV_e, kOrV_e, kNotV, kAndT, kOrT, kNotT, kTest_e, isB_bl, kBin, kUn, kChain_e, condV, kCall, kCons, kNil, kTup, kLst, kLstO, kOut, kCompO, kIter, kEnum, kZip, kRng1, DL.kV, kB, kC, kIf, kStar, kSl, kPart, kNoPart, kFn, kFnK, kIsi2, kFor, gN, gTupD, gsCons, gsNil, kYes, dNeg, dAdd, dSub, dMod, dDiv, dMul, dPow, dCmp, dInt, dEq, dNe, dIn, dNotIn, dIx, dIsN, bLen, bInt, bAbs, bTuple, bList, bAny, bAll, bIsi, startD, okW, wipeD, List.map_cons, List.map_nil, List.cons_append, List.nil_append, List.getElem?_cons_zero, List.getElem?_cons_succ, List.set_cons_zero, List.set_cons_succ, List.length_cons, List.length_nil, List.replicate_succ, List.replicate_zero, List.all_cons, List.all_nil, Bool.and_true, Bool.true_and, tyn_int, tyn_bl, tyn_non, tyn_tup, tyn_lst, kit_ii, kit_ib, kit_tt, kit_ll, kit_lt, kit_tl, flat_int, v_int, flat_row, pl_non, pl_bl, pl_int, pl_tup, pl_lst, eqb_int, eqb_nil, eqb_non, D.isN, ne_eq, not_false_eq_true, true_and, and_true, if_true, if_false, Bool.false_eq_true, reduceCtorEq, String.reduceEq, Bool.not_true, Bool.not_false, Bool.or_false, Bool.false_or, Bool.or_true, Bool.true_or, Nat.zero_add, Nat.reduceAdd, Nat.reduceLeDiff, Nat.reduceSub, Nat.reduceEqDiff, kPen0, kPen1, kPen2, kInk1, kInk2, asInt]
    refine ⟨by decide, ?_⟩
    show kFors kg_law_all_3 kb_law_all_4 _ [.int 0] _ _
    simp only [fors_nil, fors_cons, kg_law_all_3, kb_law_all_4, kg_law_all_1, kb_law_all_2, kSeq, kAsg, kRet, kIfS, kDrop, kNext, kNever, kOwnS, kApp, kSub, kPar, kAndV_e, kOrV_e, kNotV, kAndT, kOrT, kNotT, kTest_e, isB_bl, kBin, kUn, kChain_e, condV, kCall, kCons, kNil, kTup, kLst, kLstO, kOut, kCompO, kIter, kEnum, kZip, kRng1, DL.kV, kB, kC, kIf, kStar, kSl, kPart, kNoPart, kFn, kFnK, kIsi2, kFor, gN, gTupD, gsCons, gsNil, kYes, dNeg, dAdd, dSub, dMod, dDiv, dMul, dPow, dCmp, dInt, dEq, dNe, dIn, dNotIn, dIx, dIsN, bLen, bInt, bAbs, bTuple, bList, bAny, bAll, bIsi, startD, okW, wipeD, List.map_cons, List.map_nil, List.cons_append, List.nil_append, List.getElem?_cons_zero, List.getElem?_cons_succ, List.set_cons_zero, List.set_cons_succ, List.length_cons, List.length_nil, List.replicate_succ, List.replicate_zero, List.all_cons, List.all_nil, Bool.and_true, Bool.true_and, tyn_int, tyn_bl, tyn_non, tyn_tup, tyn_lst, kit_ii, kit_ib, kit_tt, kit_ll, kit_lt, kit_tl, flat_int, v_int, flat_row, pl_non, pl_bl, pl_int, pl_tup, pl_lst, eqb_int, eqb_nil, eqb_non, D.isN, ne_eq, not_false_eq_true, true_and, and_true, if_true, if_false, Bool.false_eq_true, reduceCtorEq, String.reduceEq, Bool.not_true, Bool.not_false, Bool.or_false, Bool.false_or, Bool.or_true, Bool.true_or, Nat.zero_add, Nat.reduceAdd, Nat.reduceLeDiff, Nat.reduceSub, Nat.reduceEqDiff, kPen0, kPen1, kPen2, kInk1, kInk2, asInt]
    exact q
  · simp only [kb_law_all, kSeq, kAsg, kRet, kIfS, kDrop, kNext, kNever, kOwnS, kApp, kSub, kPar, kAndV_e, kOrV_e, kNotV, kAndT, kOrT, kNotT, kTest_e, isB_bl, kBin, kUn, kChain_e, condV, kCall, kCons, kNil, kTup, kLst, kLstO, kOut, kCompO, kIter, kEnum, kZip, kRng1, DL.kV, kB, kC, kIf, kStar, kSl, kPart, kNoPart, kFn, kFnK, kIsi2, kFor, gN, gTupD, gsCons, gsNil, kYes, dNeg, dAdd, dSub, dMod, dDiv, dMul, dPow, dCmp, dInt, dEq, dNe, dIn, dNotIn, dIx, dIsN, bLen, bInt, bAbs, bTuple, bList, bAny, bAll, bIsi, startD, okW, wipeD, List.map_cons, List.map_nil, List.cons_append, List.nil_append, List.getElem?_cons_zero, List.getElem?_cons_succ, List.set_cons_zero, List.set_cons_succ, List.length_cons, List.length_nil, List.replicate_succ, List.replicate_zero, List.all_cons, List.all_nil, Bool.and_true, Bool.true_and, tyn_int, tyn_bl, tyn_non, tyn_tup, tyn_lst, kit_ii, kit_ib, kit_tt, kit_ll, kit_lt, kit_tl, flat_int, v_int, flat_row, pl_non, pl_bl, pl_int, pl_tup, pl_lst, eqb_int, eqb_nil, eqb_non, D.isN, ne_eq, not_false_eq_true, true_and, and_true, if_true, if_false, Bool.false_eq_true, reduceCtorEq, String.reduceEq, Bool.not_true, Bool.not_false, Bool.or_false, Bool.false_or, Bool.or_true, Bool.true_or, Nat.zero_add, Nat.reduceAdd, Nat.reduceLeDiff, Nat.reduceSub, Nat.reduceEqDiff, kPen0, kPen1, kPen2, kInk1, kInk2, asInt]
    refine ⟨by decide, ?_⟩
    show kFors kg_law_all_3 kb_law_all_4 _ [.int 0, .int 1] _ _
    simp only [fors_nil, fors_cons, kg_law_all_3, kb_law_all_4, kg_law_all_1, kb_law_all_2, kSeq, kAsg, kRet, kIfS, kDrop, kNext, kNever, kOwnS, kApp, kSub, kPar, kAndV_e, kOrV_e, kNotV, kAndT, kOrT, kNotT, kTest_e, isB_bl, kBin, kUn, kChain_e, condV, kCall, kCons, kNil, kTup, kLst, kLstO, kOut, kCompO, kIter, kEnum, kZip, kRng1, DL.kV, kB, kC, kIf, kStar, kSl, kPart, kNoPart, kFn, kFnK, kIsi2, kFor, gN, gTupD, gsCons, gsNil, kYes, dNeg, dAdd, dSub, dMod, dDiv, dMul, dPow, dCmp, dInt, dEq, dNe, dIn, dNotIn, dIx, dIsN, bLen, bInt, bAbs, bTuple, bList, bAny, bAll, bIsi, startD, okW, wipeD, List.map_cons, List.map_nil, List.cons_append, List.nil_append, List.getElem?_cons_zero, List.getElem?_cons_succ, List.set_cons_zero, List.set_cons_succ, List.length_cons, List.length_nil, List.replicate_succ, List.replicate_zero, List.all_cons, List.all_nil, Bool.and_true, Bool.true_and, tyn_int, tyn_bl, tyn_non, tyn_tup, tyn_lst, kit_ii, kit_ib, kit_tt, kit_ll, kit_lt, kit_tl, flat_int, v_int, flat_row, pl_non, pl_bl, pl_int, pl_tup, pl_lst, eqb_int, eqb_nil, eqb_non, D.isN, ne_eq, not_false_eq_true, true_and, and_true, if_true, if_false, Bool.false_eq_true, reduceCtorEq, String.reduceEq, Bool.not_true, Bool.not_false, Bool.or_false, Bool.false_or, Bool.or_true, Bool.true_or, Nat.zero_add, Nat.reduceAdd, Nat.reduceLeDiff, Nat.reduceSub, Nat.reduceEqDiff, kPen0, kPen1, kPen2, kInk1, kInk2, asInt]
    exact q
  · simp only [kb_law_all, kSeq, kAsg, kRet, kIfS, kDrop, kNext, kNever, kOwnS, kApp, kSub, kPar, kAndV_e, kOrV_e, kNotV, kAndT, kOrT, kNotT, kTest_e, isB_bl, kBin, kUn, kChain_e, condV, kCall, kCons, kNil, kTup, kLst, kLstO, kOut, kCompO, kIter, kEnum, kZip, kRng1, DL.kV, kB, kC, kIf, kStar, kSl, kPart, kNoPart, kFn, kFnK, kIsi2, kFor, gN, gTupD, gsCons, gsNil, kYes, dNeg, dAdd, dSub, dMod, dDiv, dMul, dPow, dCmp, dInt, dEq, dNe, dIn, dNotIn, dIx, dIsN, bLen, bInt, bAbs, bTuple, bList, bAny, bAll, bIsi, startD, okW, wipeD, List.map_cons, List.map_nil, List.cons_append, List.nil_append, List.getElem?_cons_zero, List.getElem?_cons_succ, List.set_cons_zero, List.set_cons_succ, List.length_cons, List.length_nil, List.replicate_succ, List.replicate_zero, List.all_cons, List.all_nil, Bool.and_true, Bool.true_and, tyn_int, tyn_bl, tyn_non, tyn_tup, tyn_lst, kit_ii, kit_ib, kit_tt, kit_ll, kit_lt, kit_tl, flat_int, v_int, flat_row, pl_non, pl_bl, pl_int, pl_tup, pl_lst, eqb_int, eqb_nil, eqb_non, D.isN, ne_eq, not_false_eq_true, true_and, and_true, if_true, if_false, Bool.false_eq_true, reduceCtorEq, String.reduceEq, Bool.not_true, Bool.not_false, Bool.or_false, Bool.false_or, Bool.or_true, Bool.true_or, Nat.zero_add, Nat.reduceAdd, Nat.reduceLeDiff, Nat.reduceSub, Nat.reduceEqDiff, kPen0, kPen1, kPen2, kInk1, kInk2, asInt]
    refine ⟨by decide, ?_⟩
    show kFors kg_law_all_3 kb_law_all_4 _ [.int 0, .int 1, .int 2] _ _
    simp only [fors_nil, fors_cons, kg_law_all_3, kb_law_all_4, kg_law_all_1, kb_law_all_2, kSeq, kAsg, kRet, kIfS, kDrop, kNext, kNever, kOwnS, kApp, kSub, kPar, kAndV_e, kOrV_e, kNotV, kAndT, kOrT, kNotT, kTest_e, isB_bl, kBin, kUn, kChain_e, condV, kCall, kCons, kNil, kTup, kLst, kLstO, kOut, kCompO, kIter, kEnum, kZip, kRng1, DL.kV, kB, kC, kIf, kStar, kSl, kPart, kNoPart, kFn, kFnK, kIsi2, kFor, gN, gTupD, gsCons, gsNil, kYes, dNeg, dAdd, dSub, dMod, dDiv, dMul, dPow, dCmp, dInt, dEq, dNe, dIn, dNotIn, dIx, dIsN, bLen, bInt, bAbs, bTuple, bList, bAny, bAll, bIsi, startD, okW, wipeD, List.map_cons, List.map_nil, List.cons_append, List.nil_append, List.getElem?_cons_zero, List.getElem?_cons_succ, List.set_cons_zero, List.set_cons_succ, List.length_cons, List.length_nil, List.replicate_succ, List.replicate_zero, List.all_cons, List.all_nil, Bool.and_true, Bool.true_and, tyn_int, tyn_bl, tyn_non, tyn_tup, tyn_lst, kit_ii, kit_ib, kit_tt, kit_ll, kit_lt, kit_tl, flat_int, v_int, flat_row, pl_non, pl_bl, pl_int, pl_tup, pl_lst, eqb_int, eqb_nil, eqb_non, D.isN, ne_eq, not_false_eq_true, true_and, and_true, if_true, if_false, Bool.false_eq_true, reduceCtorEq, String.reduceEq, Bool.not_true, Bool.not_false, Bool.or_false, Bool.false_or, Bool.or_true, Bool.true_or, Nat.zero_add, Nat.reduceAdd, Nat.reduceLeDiff, Nat.reduceSub, Nat.reduceEqDiff, kPen0, kPen1, kPen2, kInk1, kInk2, asInt]
    exact q
end L78
namespace L78
open PySem PySem.Spec PyProof.Rows L2 DL
theorem posn_cons (k : Int) (b : Bool) (bs : List Bool) : posn k (b :: bs) = if b = true then k :: posn (k + 1) bs else posn (k + 1) bs := rfl
theorem part1_end (g x : Int) (p : Int × Int) : ∀ acc : List (Int × Int), part1 g x (acc ++ [p]) = if x - p.2 - 1 < g then acc ++ [(p.1, x)] else acc ++ [p, (x, x)]
  | [] => by
    show (if x - p.2 - 1 < g then [(p.1, x)] else [p, (x, x)]) = _
    split <;> rfl
  | [q] => by
    show q :: (if x - p.2 - 1 < g then [(p.1, x)] else [p, (x, x)]) = _
    split <;> rfl
  | q :: q2 :: acc => by
    have ih := part1_end g x p (q2 :: acc)
    show q :: part1 g x (q2 :: acc ++ [p]) = _
    rw [ih]
    split <;> rfl
theorem part1_len (g x : Int) : ∀ acc : List (Int × Int), (part1 g x acc).length ≤ acc.length + 1
  | [] => by simp [part1]
  | [p] => by unfold part1; split <;> simp
  | p :: q :: ps => by
    have := part1_len g x (q :: ps)
    unfold part1
    simp only [List.length_cons] at this ⊢
    omega
theorem parted_len (g : Int) : ∀ (xs : List Int) (acc : List (Int × Int)), (parted g acc xs).length ≤ acc.length + xs.length
  | [], acc => Nat.le_refl _
  | x :: xs, acc => by
    have h1 := parted_len g xs (part1 g x acc)
    have h2 := part1_len g x acc
    show (parted g (part1 g x acc) xs).length ≤ _
    rw [List.length_cons]
    omega
theorem posn_len : ∀ (bs : List Bool) (k : Int), (posn k bs).length ≤ bs.length
  | [], k => Nat.le_refl _
  | b :: bs, k => by
    have := posn_len bs (k + 1)
    rw [posn_cons]
    split
    · rw [List.length_cons, List.length_cons]; omega
    · rw [List.length_cons]; omega
theorem at01 (p : Int × Int) : atI [D.int p.1, D.int p.2] 1 = some (D.int p.2) := rfl
theorem at00 (p : Int × Int) : atI [D.int p.1, D.int p.2] 0 = some (D.int p.1) := rfl
theorem ixN_last {n : Nat} : ixN (n + 1) (-1) = some n := by
  unfold ixN
  rw [if_neg (by omega), if_pos (by omega)]
  congr 1
  omega
theorem at_end (acc : List D) (d : D) : atI (acc ++ [d]) (-1) = some d := by
  unfold atI
  rw [List.length_append, List.length_singleton, ixN_last]
  show (acc ++ [d])[acc.length]? = some d
  rw [List.getElem?_append_right (Nat.le_refl _), Nat.sub_self]
  rfl
theorem lp_loop (E : DEnds) (n : Nat) (d0 : D) (g : Int) : ∀ (rs : List (List Bool)) (k : Nat) (acc : List (Int × Int)) (a b : Sl), acc.length + rs.length ≤ 1000 →
    (∀ a b, E.nx [.val d0, .val (.int g), .own ((parted g acc (posn k (rs.map hot))).map pairD), a, b] n) → kFors kg_law_parted_1 kb_law_parted_2 E (enumD k (rs.map rowD)) [.val d0, .val (.int g), .own (acc.map pairD), a, b] n
  | [], k, acc, a, b, h, q => q a b
  | r :: rs, k, acc, a, b, h, q => by
    rw [List.length_cons] at h
    have ih := fun acc' h' q' => lp_loop E n d0 g rs (k + 1) acc' (.val (.int k)) (.val (rowD r)) h' q'
    have ek : ((k + 1 : Nat) : Int) = (k : Int) + 1 := rfl
    rw [ek] at ih
    rw [List.map_cons, enum_cons, fors_cons]
    generalize kFors kg_law_parted_1 kb_law_parted_2 E (enumD (k + 1) (rs.map rowD)) = X at ih ⊢
    rw [List.map_cons, posn_cons] at q
    by_cases hh : hot r = true
    · rw [if_pos hh] at q
      have pl := pl_maps (pl_pair 6) acc
      rcases List.eq_nil_or_concat acc with rfl | ⟨acc', p, rfl⟩
      · simp only [kg_law_parted_1, kb_law_parted_2, kSeq, kAsg, kRet, kIfS, kDrop, kNext, kNever, kOwnS, kApp, kSub, kPar, kAndV_e, kOrV_e, kNotV, kAndT, kOrT, kNotT, kTest_e, isB_bl, kBin, kUn, kChain_e, condV, kCall, kCons, kNil, kTup, kLst, kLstO, kOut, kCompO, kIter, kEnum, kZip, kRng1, DL.kV, kB, kC, kIf, kStar, kSl, kPart, kNoPart, kFn, kFnK, kIsi2, kFor, gN, gTupD, gsCons, gsNil, kYes, dNeg, dAdd, dSub, dMod, dDiv, dMul, dPow, dCmp, dInt, dEq, dNe, dIn, dNotIn, dIx, dIsN, bLen, bInt, bAbs, bTuple, bList, bAny, bAll, bIsi, startD, okW, wipeD, List.map_cons, List.map_nil, List.cons_append, List.nil_append, List.getElem?_cons_zero, List.getElem?_cons_succ, List.set_cons_zero, List.set_cons_succ, List.length_cons, List.length_nil, List.replicate_succ, List.replicate_zero, List.all_cons, List.all_nil, Bool.and_true, Bool.true_and, tyn_int, tyn_bl, tyn_non, tyn_tup, tyn_lst, kit_ii, kit_ib, kit_tt, kit_ll, kit_lt, kit_tl, flat_int, v_int, flat_row, pl_non, pl_bl, pl_int, pl_tup, pl_lst, eqb_int, eqb_nil, eqb_non, D.isN, ne_eq, not_false_eq_true, true_and, and_true, if_true, if_false, Bool.false_eq_true, reduceCtorEq, String.reduceEq, Bool.not_true, Bool.not_false, Bool.or_false, Bool.false_or, Bool.or_true, Bool.true_or, Nat.zero_add, Nat.reduceAdd, Nat.reduceLeDiff, Nat.reduceSub, Nat.reduceEqDiff, rowD, hot_in]
        rw [if_pos hh]
        simp only [List.isEmpty_nil, kSeq, kAsg, kRet, kIfS, kDrop, kNext, kNever, kOwnS, kApp, kSub, kPar, kAndV_e, kOrV_e, kNotV, kAndT, kOrT, kNotT, kTest_e, isB_bl, kBin, kUn, kChain_e, condV, kCall, kCons, kNil, kTup, kLst, kLstO, kOut, kCompO, kIter, kEnum, kZip, kRng1, DL.kV, kB, kC, kIf, kStar, kSl, kPart, kNoPart, kFn, kFnK, kIsi2, kFor, gN, gTupD, gsCons, gsNil, kYes, dNeg, dAdd, dSub, dMod, dDiv, dMul, dPow, dCmp, dInt, dEq, dNe, dIn, dNotIn, dIx, dIsN, bLen, bInt, bAbs, bTuple, bList, bAny, bAll, bIsi, startD, okW, wipeD, List.map_cons, List.map_nil, List.cons_append, List.nil_append, List.getElem?_cons_zero, List.getElem?_cons_succ, List.set_cons_zero, List.set_cons_succ, List.length_cons, List.length_nil, List.replicate_succ, List.replicate_zero, List.all_cons, List.all_nil, Bool.and_true, Bool.true_and, tyn_int, tyn_bl, tyn_non, tyn_tup, tyn_lst, kit_ii, kit_ib, kit_tt, kit_ll, kit_lt, kit_tl, flat_int, v_int, flat_row, pl_non, pl_bl, pl_int, pl_tup, pl_lst, eqb_int, eqb_nil, eqb_non, D.isN, ne_eq, not_false_eq_true, true_and, and_true, if_true, if_false, Bool.false_eq_true, reduceCtorEq, String.reduceEq, Bool.not_true, Bool.not_false, Bool.or_false, Bool.false_or, Bool.or_true, Bool.true_or, Nat.zero_add, Nat.reduceAdd, Nat.reduceLeDiff, Nat.reduceSub, Nat.reduceEqDiff]
        exact ⟨(fun d hd => by cases hd), (fun d hd => by cases hd), by decide, ih [(k, k)] (by simp only [List.length_cons, List.length_nil] at h ⊢; omega) q⟩
      · rw [List.concat_eq_append] at *
        have ea : (acc' ++ [p]).map pairD = acc'.map pairD ++ [pairD p] := by rw [List.map_append]; rfl
        have ne : (acc'.map pairD ++ [pairD p]).isEmpty = false := by cases acc' <;> rfl
        have q1 : ∀ a b, E.nx [.val d0, .val (.int g), .own ((parted g (part1 g k (acc' ++ [p])) (posn (k + 1) (rs.map hot))).map pairD), a, b] n := q
        rw [part1_end] at q1
        rw [ea] at pl ⊢
        simp only [kg_law_parted_1, kb_law_parted_2, kSeq, kAsg, kRet, kIfS, kDrop, kNext, kNever, kOwnS, kApp, kSub, kPar, kAndV_e, kOrV_e, kNotV, kAndT, kOrT, kNotT, kTest_e, isB_bl, kBin, kUn, kChain_e, condV, kCall, kCons, kNil, kTup, kLst, kLstO, kOut, kCompO, kIter, kEnum, kZip, kRng1, DL.kV, kB, kC, kIf, kStar, kSl, kPart, kNoPart, kFn, kFnK, kIsi2, kFor, gN, gTupD, gsCons, gsNil, kYes, dNeg, dAdd, dSub, dMod, dDiv, dMul, dPow, dCmp, dInt, dEq, dNe, dIn, dNotIn, dIx, dIsN, bLen, bInt, bAbs, bTuple, bList, bAny, bAll, bIsi, startD, okW, wipeD, List.map_cons, List.map_nil, List.cons_append, List.nil_append, List.getElem?_cons_zero, List.getElem?_cons_succ, List.set_cons_zero, List.set_cons_succ, List.length_cons, List.length_nil, List.replicate_succ, List.replicate_zero, List.all_cons, List.all_nil, Bool.and_true, Bool.true_and, tyn_int, tyn_bl, tyn_non, tyn_tup, tyn_lst, kit_ii, kit_ib, kit_tt, kit_ll, kit_lt, kit_tl, flat_int, v_int, flat_row, pl_non, pl_bl, pl_int, pl_tup, pl_lst, eqb_int, eqb_nil, eqb_non, D.isN, ne_eq, not_false_eq_true, true_and, and_true, if_true, if_false, Bool.false_eq_true, reduceCtorEq, String.reduceEq, Bool.not_true, Bool.not_false, Bool.or_false, Bool.false_or, Bool.or_true, Bool.true_or, Nat.zero_add, Nat.reduceAdd, Nat.reduceLeDiff, Nat.reduceSub, Nat.reduceEqDiff, rowD, hot_in]
        rw [if_pos hh]
        simp only [kSeq, kAsg, kRet, kIfS, kDrop, kNext, kNever, kOwnS, kApp, kSub, kPar, kAndV_e, kOrV_e, kNotV, kAndT, kOrT, kNotT, kTest_e, isB_bl, kBin, kUn, kChain_e, condV, kCall, kCons, kNil, kTup, kLst, kLstO, kOut, kCompO, kIter, kEnum, kZip, kRng1, DL.kV, kB, kC, kIf, kStar, kSl, kPart, kNoPart, kFn, kFnK, kIsi2, kFor, gN, gTupD, gsCons, gsNil, kYes, dNeg, dAdd, dSub, dMod, dDiv, dMul, dPow, dCmp, dInt, dEq, dNe, dIn, dNotIn, dIx, dIsN, bLen, bInt, bAbs, bTuple, bList, bAny, bAll, bIsi, startD, okW, wipeD, List.map_cons, List.map_nil, List.cons_append, List.nil_append, List.getElem?_cons_zero, List.getElem?_cons_succ, List.set_cons_zero, List.set_cons_succ, List.length_cons, List.length_nil, List.replicate_succ, List.replicate_zero, List.all_cons, List.all_nil, Bool.and_true, Bool.true_and, tyn_int, tyn_bl, tyn_non, tyn_tup, tyn_lst, kit_ii, kit_ib, kit_tt, kit_ll, kit_lt, kit_tl, flat_int, v_int, flat_row, pl_non, pl_bl, pl_int, pl_tup, pl_lst, eqb_int, eqb_nil, eqb_non, D.isN, ne_eq, not_false_eq_true, true_and, and_true, if_true, if_false, Bool.false_eq_true, reduceCtorEq, String.reduceEq, Bool.not_true, Bool.not_false, Bool.or_false, Bool.false_or, Bool.or_true, Bool.true_or, Nat.zero_add, Nat.reduceAdd, Nat.reduceLeDiff, Nat.reduceSub, Nat.reduceEqDiff, ne, at_end]
        refine ⟨pl, (fun d hd => by cases hd), ?_⟩
        simp only [pairD, at01, at00, kSeq, kAsg, kRet, kIfS, kDrop, kNext, kNever, kOwnS, kApp, kSub, kPar, kAndV_e, kOrV_e, kNotV, kAndT, kOrT, kNotT, kTest_e, isB_bl, kBin, kUn, kChain_e, condV, kCall, kCons, kNil, kTup, kLst, kLstO, kOut, kCompO, kIter, kEnum, kZip, kRng1, DL.kV, kB, kC, kIf, kStar, kSl, kPart, kNoPart, kFn, kFnK, kIsi2, kFor, gN, gTupD, gsCons, gsNil, kYes, dNeg, dAdd, dSub, dMod, dDiv, dMul, dPow, dCmp, dInt, dEq, dNe, dIn, dNotIn, dIx, dIsN, bLen, bInt, bAbs, bTuple, bList, bAny, bAll, bIsi, startD, okW, wipeD, List.map_cons, List.map_nil, List.cons_append, List.nil_append, List.getElem?_cons_zero, List.getElem?_cons_succ, List.set_cons_zero, List.set_cons_succ, List.length_cons, List.length_nil, List.replicate_succ, List.replicate_zero, List.all_cons, List.all_nil, Bool.and_true, Bool.true_and, tyn_int, tyn_bl, tyn_non, tyn_tup, tyn_lst, kit_ii, kit_ib, kit_tt, kit_ll, kit_lt, kit_tl, flat_int, v_int, flat_row, pl_non, pl_bl, pl_int, pl_tup, pl_lst, eqb_int, eqb_nil, eqb_non, D.isN, ne_eq, not_false_eq_true, true_and, and_true, if_true, if_false, Bool.false_eq_true, reduceCtorEq, String.reduceEq, Bool.not_true, Bool.not_false, Bool.or_false, Bool.false_or, Bool.or_true, Bool.true_or, Nat.zero_add, Nat.reduceAdd, Nat.reduceLeDiff, Nat.reduceSub, Nat.reduceEqDiff]
        rw [List.length_append, List.length_singleton, ixN_last]
        by_cases hg : (k : Int) - p.2 - 1 < g
        · rw [if_pos (decide_eq_true hg)]
          rw [if_pos hg] at q1
          have := ih (acc' ++ [(p.1, (k : Int))]) (by rw [List.length_append, List.length_singleton] at h ⊢; omega) q1
          have es : (acc'.map pairD ++ [pairD p]).set (acc'.map pairD).length (pairD (p.1, (k : Int))) = (acc' ++ [(p.1, (k : Int))]).map pairD := by
            rw [List.set_append_right _ _ (Nat.le_refl _), Nat.sub_self, List.map_append]
            rfl
          rw [← es] at this
          exact this
        · rw [if_neg (by rw [decide_eq_false hg]; exact Bool.false_ne_true)]
          rw [if_neg hg] at q1
          have := ih (acc' ++ [p, ((k : Int), (k : Int))]) (by simp only [List.length_append, List.length_cons, List.length_nil] at h ⊢; omega) q1
          have es : (acc'.map pairD ++ [pairD p]) ++ [pairD ((k : Int), (k : Int))] = (acc' ++ [p, ((k : Int), (k : Int))]).map pairD := by
            rw [List.map_append, List.append_assoc]
            rfl
          rw [← es] at this
          refine ⟨?_, this⟩
          rw [List.length_map]
          simp only [List.length_append, List.length_cons, List.length_nil] at h
          omega
    · rw [if_neg hh] at q
      simp only [kg_law_parted_1, kb_law_parted_2, kSeq, kAsg, kRet, kIfS, kDrop, kNext, kNever, kOwnS, kApp, kSub, kPar, kAndV_e, kOrV_e, kNotV, kAndT, kOrT, kNotT, kTest_e, isB_bl, kBin, kUn, kChain_e, condV, kCall, kCons, kNil, kTup, kLst, kLstO, kOut, kCompO, kIter, kEnum, kZip, kRng1, DL.kV, kB, kC, kIf, kStar, kSl, kPart, kNoPart, kFn, kFnK, kIsi2, kFor, gN, gTupD, gsCons, gsNil, kYes, dNeg, dAdd, dSub, dMod, dDiv, dMul, dPow, dCmp, dInt, dEq, dNe, dIn, dNotIn, dIx, dIsN, bLen, bInt, bAbs, bTuple, bList, bAny, bAll, bIsi, startD, okW, wipeD, List.map_cons, List.map_nil, List.cons_append, List.nil_append, List.getElem?_cons_zero, List.getElem?_cons_succ, List.set_cons_zero, List.set_cons_succ, List.length_cons, List.length_nil, List.replicate_succ, List.replicate_zero, List.all_cons, List.all_nil, Bool.and_true, Bool.true_and, tyn_int, tyn_bl, tyn_non, tyn_tup, tyn_lst, kit_ii, kit_ib, kit_tt, kit_ll, kit_lt, kit_tl, flat_int, v_int, flat_row, pl_non, pl_bl, pl_int, pl_tup, pl_lst, eqb_int, eqb_nil, eqb_non, D.isN, ne_eq, not_false_eq_true, true_and, and_true, if_true, if_false, Bool.false_eq_true, reduceCtorEq, String.reduceEq, Bool.not_true, Bool.not_false, Bool.or_false, Bool.false_or, Bool.or_true, Bool.true_or, Nat.zero_add, Nat.reduceAdd, Nat.reduceLeDiff, Nat.reduceSub, Nat.reduceEqDiff, rowD, hot_in]
      rw [if_neg hh]
      exact ih acc (by omega) q
theorem m_law_parted : ∀ ds n Q, c_law_parted ds n Q → kb_law_parted ⟨fun _ n' => Q .non n', Q, fun _ _ => False, fun _ _ => False⟩ (startD ["rows", "guard", "found", "at", "row"] ds) n := by
  rintro ds n Q ⟨rs, g, rfl, h, q⟩
  simp only [kb_law_parted, kSeq, kAsg, kRet, kIfS, kDrop, kNext, kNever, kOwnS, kApp, kSub, kPar, kAndV_e, kOrV_e, kNotV, kAndT, kOrT, kNotT, kTest_e, isB_bl, kBin, kUn, kChain_e, condV, kCall, kCons, kNil, kTup, kLst, kLstO, kOut, kCompO, kIter, kEnum, kZip, kRng1, DL.kV, kB, kC, kIf, kStar, kSl, kPart, kNoPart, kFn, kFnK, kIsi2, kFor, gN, gTupD, gsCons, gsNil, kYes, dNeg, dAdd, dSub, dMod, dDiv, dMul, dPow, dCmp, dInt, dEq, dNe, dIn, dNotIn, dIx, dIsN, bLen, bInt, bAbs, bTuple, bList, bAny, bAll, bIsi, startD, okW, wipeD, List.map_cons, List.map_nil, List.cons_append, List.nil_append, List.getElem?_cons_zero, List.getElem?_cons_succ, List.set_cons_zero, List.set_cons_succ, List.length_cons, List.length_nil, List.replicate_succ, List.replicate_zero, List.all_cons, List.all_nil, Bool.and_true, Bool.true_and, tyn_int, tyn_bl, tyn_non, tyn_tup, tyn_lst, kit_ii, kit_ib, kit_tt, kit_ll, kit_lt, kit_tl, flat_int, v_int, flat_row, pl_non, pl_bl, pl_int, pl_tup, pl_lst, eqb_int, eqb_nil, eqb_non, D.isN, ne_eq, not_false_eq_true, true_and, and_true, if_true, if_false, Bool.false_eq_true, reduceCtorEq, String.reduceEq, Bool.not_true, Bool.not_false, Bool.or_false, Bool.false_or, Bool.or_true, Bool.true_or, Nat.zero_add, Nat.reduceAdd, Nat.reduceLeDiff, Nat.reduceSub, Nat.reduceEqDiff]
  refine lp_loop _ n _ g rs 0 [] _ _ (by simpa using h) fun a b => ?_
  simp only [kSeq, kAsg, kRet, kIfS, kDrop, kNext, kNever, kOwnS, kApp, kSub, kPar, kAndV_e, kOrV_e, kNotV, kAndT, kOrT, kNotT, kTest_e, isB_bl, kBin, kUn, kChain_e, condV, kCall, kCons, kNil, kTup, kLst, kLstO, kOut, kCompO, kIter, kEnum, kZip, kRng1, DL.kV, kB, kC, kIf, kStar, kSl, kPart, kNoPart, kFn, kFnK, kIsi2, kFor, gN, gTupD, gsCons, gsNil, kYes, dNeg, dAdd, dSub, dMod, dDiv, dMul, dPow, dCmp, dInt, dEq, dNe, dIn, dNotIn, dIx, dIsN, bLen, bInt, bAbs, bTuple, bList, bAny, bAll, bIsi, startD, okW, wipeD, List.map_cons, List.map_nil, List.cons_append, List.nil_append, List.getElem?_cons_zero, List.getElem?_cons_succ, List.set_cons_zero, List.set_cons_succ, List.length_cons, List.length_nil, List.replicate_succ, List.replicate_zero, List.all_cons, List.all_nil, Bool.and_true, Bool.true_and, tyn_int, tyn_bl, tyn_non, tyn_tup, tyn_lst, kit_ii, kit_ib, kit_tt, kit_ll, kit_lt, kit_tl, flat_int, v_int, flat_row, pl_non, pl_bl, pl_int, pl_tup, pl_lst, eqb_int, eqb_nil, eqb_non, D.isN, ne_eq, not_false_eq_true, true_and, and_true, if_true, if_false, Bool.false_eq_true, reduceCtorEq, String.reduceEq, Bool.not_true, Bool.not_false, Bool.or_false, Bool.false_or, Bool.or_true, Bool.true_or, Nat.zero_add, Nat.reduceAdd, Nat.reduceLeDiff, Nat.reduceSub, Nat.reduceEqDiff]
  exact q
end L78
namespace L78
open PySem PySem.Spec PyProof.Rows L2 DL
def f1D (b : Int) : D → Option D := fun d => match d with
  | .tup [.int x, .int y] => if decide (b ≤ y - x) = true then some (.int 1) else none
  | _ => none
theorem f1_all (b : Int) : ∀ ps : List (Int × Int), ((ps.map pairD).filterMap (f1D b)).isEmpty = !(ps.any fun p => decide (b ≤ p.2 - p.1))
  | [] => rfl
  | p :: ps => by
    have ih := f1_all b ps
    have f : f1D b (pairD p) = if decide (b ≤ p.2 - p.1) = true then some (.int 1) else none := rfl
    rw [List.map_cons, List.any_cons]
    by_cases z : decide (b ≤ p.2 - p.1) = true
    · rw [List.filterMap_cons_some (by rw [f, if_pos z]), z]; rfl
    · rw [List.filterMap_cons_none (by rw [f, if_neg z]), ih, Bool.eq_false_iff.mpr z]; rfl
theorem f1_int (b : Int) : ∀ (ps : List (Int × Int)), ∀ d ∈ (ps.map pairD).filterMap (f1D b), D.pl 7 d := by
  intro ps d hd
  obtain ⟨e, he, h⟩ := List.mem_filterMap.mp hd
  obtain ⟨p, _, rfl⟩ := List.mem_map.mp he
  have f : f1D b (pairD p) = if decide (b ≤ p.2 - p.1) = true then some (.int 1) else none := rfl
  rw [f] at h
  split at h
  · cases h; rw [pl_int]; trivial
  · cases h
theorem mild_step (b : Int) (p : Int × Int) (s0 s2 : Sl) (n : Nat) (R : Option D → Nat → Prop) (h : R (if decide (b ≤ p.2 - p.1) = true then some (.int 1) else none) n) :
    (kg_law_is_mild_2 (pairD p) [s0, .val (.int b), s2, .no, .no] fun S2 => wipeD S2 [3, 4] = [s0, .val (.int b), s2, .no, .no] ∧ kt_law_is_mild_1 S2 n fun b S3 n3 => S3 = S2 ∧ if b = true then ke_law_is_mild_3 S2 n3 fun y S4 n4 => S4 = S2 ∧ R (some y) n4 else R none n3) := by
  simp only [kg_law_is_mild_2, kt_law_is_mild_1, ke_law_is_mild_3, pairD, kSeq, kAsg, kRet, kIfS, kDrop, kNext, kNever, kOwnS, kApp, kSub, kPar, kAndV_e, kOrV_e, kNotV, kAndT, kOrT, kNotT, kTest_e, isB_bl, kBin, kUn, kChain_e, condV, kCall, kCons, kNil, kTup, kLst, kLstO, kOut, kCompO, kIter, kEnum, kZip, kRng1, DL.kV, kB, kC, kIf, kStar, kSl, kPart, kNoPart, kFn, kFnK, kIsi2, kFor, gN, gTupD, gsCons, gsNil, kYes, dNeg, dAdd, dSub, dMod, dDiv, dMul, dPow, dCmp, dInt, dEq, dNe, dIn, dNotIn, dIx, dIsN, bLen, bInt, bAbs, bTuple, bList, bAny, bAll, bIsi, startD, okW, wipeD, List.map_cons, List.map_nil, List.cons_append, List.nil_append, List.getElem?_cons_zero, List.getElem?_cons_succ, List.set_cons_zero, List.set_cons_succ, List.length_cons, List.length_nil, List.replicate_succ, List.replicate_zero, List.all_cons, List.all_nil, Bool.and_true, Bool.true_and, tyn_int, tyn_bl, tyn_non, tyn_tup, tyn_lst, kit_ii, kit_ib, kit_tt, kit_ll, kit_lt, kit_tl, flat_int, v_int, flat_row, pl_non, pl_bl, pl_int, pl_tup, pl_lst, eqb_int, eqb_nil, eqb_non, D.isN, ne_eq, not_false_eq_true, true_and, and_true, if_true, if_false, Bool.false_eq_true, reduceCtorEq, String.reduceEq, Bool.not_true, Bool.not_false, Bool.or_false, Bool.false_or, Bool.or_true, Bool.true_or, Nat.zero_add, Nat.reduceAdd, Nat.reduceLeDiff, Nat.reduceSub, Nat.reduceEqDiff, kRng2, kExt, List.append_nil]
  split
  · rename_i z; rw [if_pos z] at h; exact h
  · rename_i z; rw [if_neg z] at h; exact h
theorem m_law_is_mild : ∀ ds n Q, c_law_is_mild ds n Q → kb_law_is_mild ⟨fun _ n' => Q .non n', Q, fun _ _ => False, fun _ _ => False⟩ (startD ["rows", "burst", "guard", "first", "last"] ds) n := by
  rintro ds n Q ⟨rs, b, g, rfl, h, q⟩
  have l1 := parted_len g (wrongs rs) []
  have l2 := posn_len (rs.map hot) 0
  have l3 : (parted g [] (wrongs rs)).length ≤ 1000 := by
    refine Nat.le_trans l1 ?_
    rw [List.length_nil, Nat.zero_add]
    refine Nat.le_trans l2 ?_
    rw [List.length_map]; exact h
  simp only [kb_law_is_mild, c_law_parted, kSeq, kAsg, kRet, kIfS, kDrop, kNext, kNever, kOwnS, kApp, kSub, kPar, kAndV_e, kOrV_e, kNotV, kAndT, kOrT, kNotT, kTest_e, isB_bl, kBin, kUn, kChain_e, condV, kCall, kCons, kNil, kTup, kLst, kLstO, kOut, kCompO, kIter, kEnum, kZip, kRng1, DL.kV, kB, kC, kIf, kStar, kSl, kPart, kNoPart, kFn, kFnK, kIsi2, kFor, gN, gTupD, gsCons, gsNil, kYes, dNeg, dAdd, dSub, dMod, dDiv, dMul, dPow, dCmp, dInt, dEq, dNe, dIn, dNotIn, dIx, dIsN, bLen, bInt, bAbs, bTuple, bList, bAny, bAll, bIsi, startD, okW, wipeD, List.map_cons, List.map_nil, List.cons_append, List.nil_append, List.getElem?_cons_zero, List.getElem?_cons_succ, List.set_cons_zero, List.set_cons_succ, List.length_cons, List.length_nil, List.replicate_succ, List.replicate_zero, List.all_cons, List.all_nil, Bool.and_true, Bool.true_and, tyn_int, tyn_bl, tyn_non, tyn_tup, tyn_lst, kit_ii, kit_ib, kit_tt, kit_ll, kit_lt, kit_tl, flat_int, v_int, flat_row, pl_non, pl_bl, pl_int, pl_tup, pl_lst, eqb_int, eqb_nil, eqb_non, D.isN, ne_eq, not_false_eq_true, true_and, and_true, if_true, if_false, Bool.false_eq_true, reduceCtorEq, String.reduceEq, Bool.not_true, Bool.not_false, Bool.or_false, Bool.false_or, Bool.or_true, Bool.true_or, Nat.zero_add, Nat.reduceAdd, Nat.reduceLeDiff, Nat.reduceSub, Nat.reduceEqDiff, kRng2, kExt, List.append_nil]
  refine ⟨rs, g, rfl, h, by rw [List.length_map]; omega, ?_⟩
  refine comps_fm (f1D b) _ _ (fun d hd R hR => ?_) ?_
  · obtain ⟨p, _, rfl⟩ := List.mem_map.mp hd
    exact mild_step b p _ _ n R hR
  · rw [List.nil_append]
    refine ⟨f1_int b _, (fun d hd => by cases hd), ?_⟩
    rw [f1_all]
    exact q
theorem bo_loop (E : DEnds) (n : Nat) (s0 s1 : Sl) (g : Int) : ∀ (W : List Int) (acc : List (Int × Int)) (a : Sl), acc.length + W.length ≤ 5000 →
    (∀ a, E.nx [s0, s1, .val (.int g), .own ((parted g acc W).map pairD), a, .no, .no] n) → kFors kg_bursts_of_1 kb_bursts_of_2 E (W.map D.int) [s0, s1, .val (.int g), .own (acc.map pairD), a, .no, .no] n
  | [], acc, a, h, q => q a
  | x :: W, acc, a, h, q => by
    rw [List.length_cons] at h
    have ih := fun acc' h' q' => bo_loop E n s0 s1 g W acc' (.val (.int x)) h' q'
    rw [List.map_cons, fors_cons]
    generalize kFors kg_bursts_of_1 kb_bursts_of_2 E (W.map D.int) = X at ih ⊢
    have q1 : ∀ a, E.nx [s0, s1, .val (.int g), .own ((parted g (part1 g x acc) W).map pairD), a, .no, .no] n := q
    rcases List.eq_nil_or_concat acc with rfl | ⟨acc', p, rfl⟩
    · simp only [kg_bursts_of_1, kb_bursts_of_2, List.isEmpty_nil, kSeq, kAsg, kRet, kIfS, kDrop, kNext, kNever, kOwnS, kApp, kSub, kPar, kAndV_e, kOrV_e, kNotV, kAndT, kOrT, kNotT, kTest_e, isB_bl, kBin, kUn, kChain_e, condV, kCall, kCons, kNil, kTup, kLst, kLstO, kOut, kCompO, kIter, kEnum, kZip, kRng1, DL.kV, kB, kC, kIf, kStar, kSl, kPart, kNoPart, kFn, kFnK, kIsi2, kFor, gN, gTupD, gsCons, gsNil, kYes, dNeg, dAdd, dSub, dMod, dDiv, dMul, dPow, dCmp, dInt, dEq, dNe, dIn, dNotIn, dIx, dIsN, bLen, bInt, bAbs, bTuple, bList, bAny, bAll, bIsi, startD, okW, wipeD, List.map_cons, List.map_nil, List.cons_append, List.nil_append, List.getElem?_cons_zero, List.getElem?_cons_succ, List.set_cons_zero, List.set_cons_succ, List.length_cons, List.length_nil, List.replicate_succ, List.replicate_zero, List.all_cons, List.all_nil, Bool.and_true, Bool.true_and, tyn_int, tyn_bl, tyn_non, tyn_tup, tyn_lst, kit_ii, kit_ib, kit_tt, kit_ll, kit_lt, kit_tl, flat_int, v_int, flat_row, pl_non, pl_bl, pl_int, pl_tup, pl_lst, eqb_int, eqb_nil, eqb_non, D.isN, ne_eq, not_false_eq_true, true_and, and_true, if_true, if_false, Bool.false_eq_true, reduceCtorEq, String.reduceEq, Bool.not_true, Bool.not_false, Bool.or_false, Bool.false_or, Bool.or_true, Bool.true_or, Nat.zero_add, Nat.reduceAdd, Nat.reduceLeDiff, Nat.reduceSub, Nat.reduceEqDiff, kRng2, kExt, List.append_nil]
      exact ⟨(fun d hd => by cases hd), (fun d hd => by cases hd), by decide, ih [(x, x)] (by simp only [List.length_cons, List.length_nil] at h ⊢; omega) q1⟩
    · rw [List.concat_eq_append] at *
      have pl := pl_maps (pl_pair 6) (acc' ++ [p])
      have ea : (acc' ++ [p]).map pairD = acc'.map pairD ++ [pairD p] := by rw [List.map_append]; rfl
      have ne : (acc'.map pairD ++ [pairD p]).isEmpty = false := by cases acc' <;> rfl
      rw [part1_end] at q1
      rw [ea] at pl ⊢
      simp only [kg_bursts_of_1, kb_bursts_of_2, ne, at_end, kSeq, kAsg, kRet, kIfS, kDrop, kNext, kNever, kOwnS, kApp, kSub, kPar, kAndV_e, kOrV_e, kNotV, kAndT, kOrT, kNotT, kTest_e, isB_bl, kBin, kUn, kChain_e, condV, kCall, kCons, kNil, kTup, kLst, kLstO, kOut, kCompO, kIter, kEnum, kZip, kRng1, DL.kV, kB, kC, kIf, kStar, kSl, kPart, kNoPart, kFn, kFnK, kIsi2, kFor, gN, gTupD, gsCons, gsNil, kYes, dNeg, dAdd, dSub, dMod, dDiv, dMul, dPow, dCmp, dInt, dEq, dNe, dIn, dNotIn, dIx, dIsN, bLen, bInt, bAbs, bTuple, bList, bAny, bAll, bIsi, startD, okW, wipeD, List.map_cons, List.map_nil, List.cons_append, List.nil_append, List.getElem?_cons_zero, List.getElem?_cons_succ, List.set_cons_zero, List.set_cons_succ, List.length_cons, List.length_nil, List.replicate_succ, List.replicate_zero, List.all_cons, List.all_nil, Bool.and_true, Bool.true_and, tyn_int, tyn_bl, tyn_non, tyn_tup, tyn_lst, kit_ii, kit_ib, kit_tt, kit_ll, kit_lt, kit_tl, flat_int, v_int, flat_row, pl_non, pl_bl, pl_int, pl_tup, pl_lst, eqb_int, eqb_nil, eqb_non, D.isN, ne_eq, not_false_eq_true, true_and, and_true, if_true, if_false, Bool.false_eq_true, reduceCtorEq, String.reduceEq, Bool.not_true, Bool.not_false, Bool.or_false, Bool.false_or, Bool.or_true, Bool.true_or, Nat.zero_add, Nat.reduceAdd, Nat.reduceLeDiff, Nat.reduceSub, Nat.reduceEqDiff, kRng2, kExt, List.append_nil]
      refine ⟨pl, (fun d hd => by cases hd), ?_⟩
      simp only [pairD, at01, at00, kSeq, kAsg, kRet, kIfS, kDrop, kNext, kNever, kOwnS, kApp, kSub, kPar, kAndV_e, kOrV_e, kNotV, kAndT, kOrT, kNotT, kTest_e, isB_bl, kBin, kUn, kChain_e, condV, kCall, kCons, kNil, kTup, kLst, kLstO, kOut, kCompO, kIter, kEnum, kZip, kRng1, DL.kV, kB, kC, kIf, kStar, kSl, kPart, kNoPart, kFn, kFnK, kIsi2, kFor, gN, gTupD, gsCons, gsNil, kYes, dNeg, dAdd, dSub, dMod, dDiv, dMul, dPow, dCmp, dInt, dEq, dNe, dIn, dNotIn, dIx, dIsN, bLen, bInt, bAbs, bTuple, bList, bAny, bAll, bIsi, startD, okW, wipeD, List.map_cons, List.map_nil, List.cons_append, List.nil_append, List.getElem?_cons_zero, List.getElem?_cons_succ, List.set_cons_zero, List.set_cons_succ, List.length_cons, List.length_nil, List.replicate_succ, List.replicate_zero, List.all_cons, List.all_nil, Bool.and_true, Bool.true_and, tyn_int, tyn_bl, tyn_non, tyn_tup, tyn_lst, kit_ii, kit_ib, kit_tt, kit_ll, kit_lt, kit_tl, flat_int, v_int, flat_row, pl_non, pl_bl, pl_int, pl_tup, pl_lst, eqb_int, eqb_nil, eqb_non, D.isN, ne_eq, not_false_eq_true, true_and, and_true, if_true, if_false, Bool.false_eq_true, reduceCtorEq, String.reduceEq, Bool.not_true, Bool.not_false, Bool.or_false, Bool.false_or, Bool.or_true, Bool.true_or, Nat.zero_add, Nat.reduceAdd, Nat.reduceLeDiff, Nat.reduceSub, Nat.reduceEqDiff, kRng2, kExt, List.append_nil]
      rw [List.length_append, List.length_singleton, ixN_last]
      by_cases hg : x - p.2 ≤ g
      · rw [if_pos (decide_eq_true hg)]
        rw [if_pos (by omega)] at q1
        have := ih (acc' ++ [(p.1, x)]) (by rw [List.length_append, List.length_singleton] at h ⊢; omega) q1
        have es : (acc'.map pairD ++ [pairD p]).set (acc'.map pairD).length (pairD (p.1, x)) = (acc' ++ [(p.1, x)]).map pairD := by
          rw [List.set_append_right _ _ (Nat.le_refl _), Nat.sub_self, List.map_append]
          rfl
        rw [← es] at this
        exact this
      · rw [if_neg (by rw [decide_eq_false hg]; exact Bool.false_ne_true)]
        rw [if_neg (by omega)] at q1
        have := ih (acc' ++ [p, (x, x)]) (by simp only [List.length_append, List.length_cons, List.length_nil] at h ⊢; omega) q1
        have es : (acc'.map pairD ++ [pairD p]) ++ [pairD (x, x)] = (acc' ++ [p, (x, x)]).map pairD := by
          rw [List.map_append, List.append_assoc]
          rfl
        rw [← es] at this
        refine ⟨?_, this⟩
        rw [List.length_map]
        simp only [List.length_append, List.length_cons, List.length_nil] at h
        omega
def geD (b : Int) : D → Option D := fun d => match d with
  | .tup [.int x, .int y] => some (.bl (decide (b ≤ y - x)))
  | _ => none
theorem ge_all (b : Int) : ∀ ps : List (Int × Int), (ps.map pairD).filterMap (geD b) = ps.map fun p => .bl (decide (b ≤ p.2 - p.1))
  | [] => rfl
  | p :: ps => by
    rw [List.map_cons, List.filterMap_cons_some (show geD b (pairD p) = some (.bl (decide (b ≤ p.2 - p.1))) from rfl), ge_all b ps]
    rfl
theorem bls_all (f : Int × Int → Bool) : ∀ ps : List (Int × Int), D.bls (ps.map fun p => .bl (f p)) = some (ps.map f)
  | [] => rfl
  | p :: ps => by
    rw [List.map_cons]
    unfold D.bls
    rw [bls_all f ps]
    rfl
theorem bo_end (E : DEnds) (n : Nat) (s0 s2 : Sl) (b g : Int) (W : List Int) (a : Sl) (hl : W.length ≤ 2000) (q : E.rt (resD (bursts b g W)) n) :
    (kRet (kIf (kTest (kCall bAny (kCons (kOut (kCompO (kIter (kV 3)) kg_bursts_of_3 kYes ke_bursts_of_4 [5, 6])) kNil))) (kC .non) (kCall bTuple (kCons (kB 3) kNil)))) E [s0, .val (.int b), s2, .own ((parted g [] W).map pairD), a, .no, .no] n := by
  have l1 := parted_len g W []
  rw [List.length_nil, Nat.zero_add] at l1
  unfold bursts at q
  generalize parted g [] W = ps at *
  simp only [kSeq, kAsg, kRet, kIfS, kDrop, kNext, kNever, kOwnS, kApp, kSub, kPar, kAndV_e, kOrV_e, kNotV, kAndT, kOrT, kNotT, kTest_e, isB_bl, kBin, kUn, kChain_e, condV, kCall, kCons, kNil, kTup, kLst, kLstO, kOut, kCompO, kIter, kEnum, kZip, kRng1, DL.kV, kB, kC, kIf, kStar, kSl, kPart, kNoPart, kFn, kFnK, kIsi2, kFor, gN, gTupD, gsCons, gsNil, kYes, dNeg, dAdd, dSub, dMod, dDiv, dMul, dPow, dCmp, dInt, dEq, dNe, dIn, dNotIn, dIx, dIsN, bLen, bInt, bAbs, bTuple, bList, bAny, bAll, bIsi, startD, okW, wipeD, List.map_cons, List.map_nil, List.cons_append, List.nil_append, List.getElem?_cons_zero, List.getElem?_cons_succ, List.set_cons_zero, List.set_cons_succ, List.length_cons, List.length_nil, List.replicate_succ, List.replicate_zero, List.all_cons, List.all_nil, Bool.and_true, Bool.true_and, tyn_int, tyn_bl, tyn_non, tyn_tup, tyn_lst, kit_ii, kit_ib, kit_tt, kit_ll, kit_lt, kit_tl, flat_int, v_int, flat_row, pl_non, pl_bl, pl_int, pl_tup, pl_lst, eqb_int, eqb_nil, eqb_non, D.isN, ne_eq, not_false_eq_true, true_and, and_true, if_true, if_false, Bool.false_eq_true, reduceCtorEq, String.reduceEq, Bool.not_true, Bool.not_false, Bool.or_false, Bool.false_or, Bool.or_true, Bool.true_or, Nat.zero_add, Nat.reduceAdd, Nat.reduceLeDiff, Nat.reduceSub, Nat.reduceEqDiff, kRng2, kExt, List.append_nil]
  refine ⟨by rw [List.length_map]; omega, ?_⟩
  refine comps_fm (geD b) _ _ (fun d hd R hR => ?_) ?_
  · obtain ⟨p, _, rfl⟩ := List.mem_map.mp hd
    have hR : R (some (.bl (decide (b ≤ p.2 - p.1)))) n := hR
    simp only [kg_bursts_of_3, ke_bursts_of_4, pairD, kSeq, kAsg, kRet, kIfS, kDrop, kNext, kNever, kOwnS, kApp, kSub, kPar, kAndV_e, kOrV_e, kNotV, kAndT, kOrT, kNotT, kTest_e, isB_bl, kBin, kUn, kChain_e, condV, kCall, kCons, kNil, kTup, kLst, kLstO, kOut, kCompO, kIter, kEnum, kZip, kRng1, DL.kV, kB, kC, kIf, kStar, kSl, kPart, kNoPart, kFn, kFnK, kIsi2, kFor, gN, gTupD, gsCons, gsNil, kYes, dNeg, dAdd, dSub, dMod, dDiv, dMul, dPow, dCmp, dInt, dEq, dNe, dIn, dNotIn, dIx, dIsN, bLen, bInt, bAbs, bTuple, bList, bAny, bAll, bIsi, startD, okW, wipeD, List.map_cons, List.map_nil, List.cons_append, List.nil_append, List.getElem?_cons_zero, List.getElem?_cons_succ, List.set_cons_zero, List.set_cons_succ, List.length_cons, List.length_nil, List.replicate_succ, List.replicate_zero, List.all_cons, List.all_nil, Bool.and_true, Bool.true_and, tyn_int, tyn_bl, tyn_non, tyn_tup, tyn_lst, kit_ii, kit_ib, kit_tt, kit_ll, kit_lt, kit_tl, flat_int, v_int, flat_row, pl_non, pl_bl, pl_int, pl_tup, pl_lst, eqb_int, eqb_nil, eqb_non, D.isN, ne_eq, not_false_eq_true, true_and, and_true, if_true, if_false, Bool.false_eq_true, reduceCtorEq, String.reduceEq, Bool.not_true, Bool.not_false, Bool.or_false, Bool.false_or, Bool.or_true, Bool.true_or, Nat.zero_add, Nat.reduceAdd, Nat.reduceLeDiff, Nat.reduceSub, Nat.reduceEqDiff, kRng2, kExt, List.append_nil]
    exact hR
  · rw [List.nil_append, ge_all, bls_all]
    have e : (ps.map fun p => decide (b ≤ p.2 - p.1)).any id = ps.any fun p => decide (b ≤ p.2 - p.1) := by rw [List.any_map]; rfl
    show if (ps.map fun p => decide (b ≤ p.2 - p.1)).any id = true then _ else _
    rw [e]
    split
    · rename_i z; rw [if_pos z] at q; exact q
    · rename_i z; rw [if_neg z] at q; exact q
theorem m_bursts_of : ∀ ds n Q, c_bursts_of ds n Q → kb_bursts_of ⟨fun _ n' => Q .non n', Q, fun _ _ => False, fun _ _ => False⟩ (startD ["rows", "burst", "guard", "found", "at", "first", "last"] ds) n := by
  rintro ds n Q ⟨rs, d, b, g, rfl, hd, hbg, q⟩
  have l2 := posn_len (rs.map hot) 0
  rw [List.length_map] at l2
  have l3 := hd.2.1
  have wl : (wrongs rs).length ≤ 2000 := by
    refine Nat.le_trans l2 ?_
    omega
  have go := bo_loop ⟨(kRet (kIf (kTest (kCall bAny (kCons (kOut (kCompO (kIter (kV 3)) kg_bursts_of_3 kYes ke_bursts_of_4 [5, 6])) kNil))) (kC .non) (kCall bTuple (kCons (kB 3) kNil)))) ⟨fun _ n' => Q .non n', Q, fun _ _ => False, fun _ _ => False⟩, Q, fun _ _ => False, fun _ _ => False⟩ n (.val d) (.val (.int b)) g (wrongs rs) [] .no (by rw [List.length_nil]; omega) (fun a => bo_end ⟨fun _ n' => Q .non n', Q, fun _ _ => False, fun _ _ => False⟩ n _ _ b g (wrongs rs) a wl q)
  refine ⟨b, g, rfl, hbg, rs, d, rfl, hd, by decide, rs, d, rfl, hd, ?_⟩
  exact go
theorem m_law_after : ∀ ds n Q, c_law_after ds n Q → kb_law_after ⟨fun _ n' => Q .non n', Q, fun _ _ => False, fun _ _ => False⟩ (startD ["phase", "is_wrong", "burst", "guard", "age", "clean"] ds) n := by
  rintro ds n Q ⟨p, w, b, g, rfl, q⟩
  simp only [kb_law_after, pairD, kSeq, kAsg, kRet, kIfS, kDrop, kNext, kNever, kOwnS, kApp, kSub, kPar, kAndV_e, kOrV_e, kNotV, kAndT, kOrT, kNotT, kTest_e, isB_bl, kBin, kUn, kChain_e, condV, kCall, kCons, kNil, kTup, kLst, kLstO, kOut, kCompO, kIter, kEnum, kZip, kRng1, DL.kV, kB, kC, kIf, kStar, kSl, kPart, kNoPart, kFn, kFnK, kIsi2, kFor, gN, gTupD, gsCons, gsNil, kYes, dNeg, dAdd, dSub, dMod, dDiv, dMul, dPow, dCmp, dInt, dEq, dNe, dIn, dNotIn, dIx, dIsN, bLen, bInt, bAbs, bTuple, bList, bAny, bAll, bIsi, startD, okW, wipeD, List.map_cons, List.map_nil, List.cons_append, List.nil_append, List.getElem?_cons_zero, List.getElem?_cons_succ, List.set_cons_zero, List.set_cons_succ, List.length_cons, List.length_nil, List.replicate_succ, List.replicate_zero, List.all_cons, List.all_nil, Bool.and_true, Bool.true_and, tyn_int, tyn_bl, tyn_non, tyn_tup, tyn_lst, kit_ii, kit_ib, kit_tt, kit_ll, kit_lt, kit_tl, flat_int, v_int, flat_row, pl_non, pl_bl, pl_int, pl_tup, pl_lst, eqb_int, eqb_nil, eqb_non, D.isN, ne_eq, not_false_eq_true, true_and, and_true, if_true, if_false, Bool.false_eq_true, reduceCtorEq, String.reduceEq, Bool.not_true, Bool.not_false, Bool.or_false, Bool.false_or, Bool.or_true, Bool.true_or, Nat.zero_add, Nat.reduceAdd, Nat.reduceLeDiff, Nat.reduceSub, Nat.reduceEqDiff, kRng2, kExt, List.append_nil]
  unfold after at q
  by_cases h1 : g = 0
  · subst h1
    rw [if_pos rfl] at q
    exact q
  · rw [if_neg h1] at q
    have e1 : (g == 0) = false := by rw [beq_eq_false_iff_ne]; exact h1
    rw [e1]
    cases w with
    | true =>
      rw [if_pos rfl] at q
      by_cases h2 : p.1 < b
      · rw [if_pos h2] at q
        simp only [decide_eq_true h2, kSeq, kAsg, kRet, kIfS, kDrop, kNext, kNever, kOwnS, kApp, kSub, kPar, kAndV_e, kOrV_e, kNotV, kAndT, kOrT, kNotT, kTest_e, isB_bl, kBin, kUn, kChain_e, condV, kCall, kCons, kNil, kTup, kLst, kLstO, kOut, kCompO, kIter, kEnum, kZip, kRng1, DL.kV, kB, kC, kIf, kStar, kSl, kPart, kNoPart, kFn, kFnK, kIsi2, kFor, gN, gTupD, gsCons, gsNil, kYes, dNeg, dAdd, dSub, dMod, dDiv, dMul, dPow, dCmp, dInt, dEq, dNe, dIn, dNotIn, dIx, dIsN, bLen, bInt, bAbs, bTuple, bList, bAny, bAll, bIsi, startD, okW, wipeD, List.map_cons, List.map_nil, List.cons_append, List.nil_append, List.getElem?_cons_zero, List.getElem?_cons_succ, List.set_cons_zero, List.set_cons_succ, List.length_cons, List.length_nil, List.replicate_succ, List.replicate_zero, List.all_cons, List.all_nil, Bool.and_true, Bool.true_and, tyn_int, tyn_bl, tyn_non, tyn_tup, tyn_lst, kit_ii, kit_ib, kit_tt, kit_ll, kit_lt, kit_tl, flat_int, v_int, flat_row, pl_non, pl_bl, pl_int, pl_tup, pl_lst, eqb_int, eqb_nil, eqb_non, D.isN, ne_eq, not_false_eq_true, true_and, and_true, if_true, if_false, Bool.false_eq_true, reduceCtorEq, String.reduceEq, Bool.not_true, Bool.not_false, Bool.or_false, Bool.false_or, Bool.or_true, Bool.true_or, Nat.zero_add, Nat.reduceAdd, Nat.reduceLeDiff, Nat.reduceSub, Nat.reduceEqDiff, kRng2, kExt, List.append_nil]
        exact q
      · rw [if_neg h2] at q
        simp only [decide_eq_false h2, kSeq, kAsg, kRet, kIfS, kDrop, kNext, kNever, kOwnS, kApp, kSub, kPar, kAndV_e, kOrV_e, kNotV, kAndT, kOrT, kNotT, kTest_e, isB_bl, kBin, kUn, kChain_e, condV, kCall, kCons, kNil, kTup, kLst, kLstO, kOut, kCompO, kIter, kEnum, kZip, kRng1, DL.kV, kB, kC, kIf, kStar, kSl, kPart, kNoPart, kFn, kFnK, kIsi2, kFor, gN, gTupD, gsCons, gsNil, kYes, dNeg, dAdd, dSub, dMod, dDiv, dMul, dPow, dCmp, dInt, dEq, dNe, dIn, dNotIn, dIx, dIsN, bLen, bInt, bAbs, bTuple, bList, bAny, bAll, bIsi, startD, okW, wipeD, List.map_cons, List.map_nil, List.cons_append, List.nil_append, List.getElem?_cons_zero, List.getElem?_cons_succ, List.set_cons_zero, List.set_cons_succ, List.length_cons, List.length_nil, List.replicate_succ, List.replicate_zero, List.all_cons, List.all_nil, Bool.and_true, Bool.true_and, tyn_int, tyn_bl, tyn_non, tyn_tup, tyn_lst, kit_ii, kit_ib, kit_tt, kit_ll, kit_lt, kit_tl, flat_int, v_int, flat_row, pl_non, pl_bl, pl_int, pl_tup, pl_lst, eqb_int, eqb_nil, eqb_non, D.isN, ne_eq, not_false_eq_true, true_and, and_true, if_true, if_false, Bool.false_eq_true, reduceCtorEq, String.reduceEq, Bool.not_true, Bool.not_false, Bool.or_false, Bool.false_or, Bool.or_true, Bool.true_or, Nat.zero_add, Nat.reduceAdd, Nat.reduceLeDiff, Nat.reduceSub, Nat.reduceEqDiff, kRng2, kExt, List.append_nil]
        exact q
    | false =>
      rw [if_neg Bool.false_ne_true] at q
      rw [if_neg Bool.false_ne_true, if_neg Bool.false_ne_true]
      by_cases h2 : p.1 = 0
      · rw [if_pos (.inl h2)] at q
        rw [if_pos (by rw [h2]; rfl)]
        exact q
      · rw [if_neg (by rw [beq_eq_false_iff_ne.mpr h2]; exact Bool.false_ne_true)]
        by_cases h3 : p.2 + 1 = g
        · rw [if_pos (.inr h3)] at q
          rw [if_pos (by rw [h3]; exact beq_self_eq_true g)]
          exact q
        · rw [if_neg (by rintro (y | y); exact h2 y; exact h3 y)] at q
          rw [if_neg (by rw [beq_eq_false_iff_ne.mpr h3]; exact Bool.false_ne_true)]
          by_cases h4 : p.1 < b
          · rw [if_pos h4] at q
            rw [if_pos (decide_eq_true h4)]
            exact q
          · rw [if_neg h4] at q
            rw [if_neg (by rw [decide_eq_false h4]; exact Bool.false_ne_true)]
            exact q
end L78
namespace L78
open PySem PySem.Spec PyProof.Rows L2 DL
theorem rng_range : ∀ (k lo : Nat), rngD (lo : Int) k = (List.range' lo k).map fun c : Nat => D.int c
  | 0, lo => rfl
  | k + 1, lo => by
    have ih := rng_range k (lo + 1)
    show D.int lo :: rngD ((lo : Int) + 1) k = _
    rw [show ((lo : Int) + 1) = ((lo + 1 : Nat) : Int) from rfl, ih]
    rfl
theorem map_some (f : D → Option D) (g : Nat → D) (h : ∀ c : Nat, f (.int c) = some (g c)) : ∀ xs : List Nat, (xs.map fun c : Nat => D.int c).filterMap f = xs.map g
  | [] => rfl
  | x :: xs => by rw [List.map_cons, List.filterMap_cons_some (h x), map_some f g h xs]; rfl
def rowD2 (a : D) : D → Option D := fun d => match d with
  | .int c => some (.tup [a, .int c])
  | _ => none
theorem ph_comp (n a m : Nat) (s0 s1 s2 s4 : Sl) (Q : List D → Nat → Prop) (q : Q (((List.range' 0 m).map fun c : Nat => ((a : Int), (c : Int))).map pairD) n) :
    kComps kg_phases_1 kYes ke_phases_2 [5] [s0, s1, s2, .val (.int a), s4, .no] (rngD 0 m) [] n Q := by
  have e := rng_range m 0
  rw [show ((0 : Nat) : Int) = 0 from rfl] at e
  rw [e]
  refine comps_fm (rowD2 (.int a)) _ _ (fun d hd R hR => ?_) ?_
  · obtain ⟨c, _, rfl⟩ := List.mem_map.mp hd
    simp only [kg_phases_1, ke_phases_2, kSeq, kAsg, kRet, kIfS, kDrop, kNext, kNever, kOwnS, kApp, kSub, kPar, kAndV_e, kOrV_e, kNotV, kAndT, kOrT, kNotT, kTest_e, isB_bl, kBin, kUn, kChain_e, condV, kCall, kCons, kNil, kTup, kLst, kLstO, kOut, kCompO, kIter, kEnum, kZip, kRng1, DL.kV, kB, kC, kIf, kStar, kSl, kPart, kNoPart, kFn, kFnK, kIsi2, kFor, gN, gTupD, gsCons, gsNil, kYes, dNeg, dAdd, dSub, dMod, dDiv, dMul, dPow, dCmp, dInt, dEq, dNe, dIn, dNotIn, dIx, dIsN, bLen, bInt, bAbs, bTuple, bList, bAny, bAll, bIsi, startD, okW, wipeD, List.map_cons, List.map_nil, List.cons_append, List.nil_append, List.getElem?_cons_zero, List.getElem?_cons_succ, List.set_cons_zero, List.set_cons_succ, List.length_cons, List.length_nil, List.replicate_succ, List.replicate_zero, List.all_cons, List.all_nil, Bool.and_true, Bool.true_and, tyn_int, tyn_bl, tyn_non, tyn_tup, tyn_lst, kit_ii, kit_ib, kit_tt, kit_ll, kit_lt, kit_tl, flat_int, v_int, flat_row, pl_non, pl_bl, pl_int, pl_tup, pl_lst, eqb_int, eqb_nil, eqb_non, D.isN, ne_eq, not_false_eq_true, true_and, and_true, if_true, if_false, Bool.false_eq_true, reduceCtorEq, String.reduceEq, Bool.not_true, Bool.not_false, Bool.or_false, Bool.false_or, Bool.or_true, Bool.true_or, Nat.zero_add, Nat.reduceAdd, Nat.reduceLeDiff, Nat.reduceSub, Nat.reduceEqDiff, kRng2, kExt, dNotN, List.append_nil]
    exact hR
  · rw [List.nil_append, map_some _ (fun c => pairD (a, c)) (fun c => rfl), List.map_map] at *
    exact q
theorem ph_step (E : DEnds) (n : Nat) (b g a : Nat) (acc : List (Int × Int)) (s3 s4 : Sl) (X : List Sl → Nat → Prop) (hb : g ≤ 24 ∧ a ≤ 24) (hl : acc.length ≤ 5000) (h : ∀ s3 s4, X [.val (.int b), .val (.int g), .own ((acc ++ ageL b g a).map pairD), s3, s4, .no] n) :
    kg_phases_3 (.int a) [.val (.int b), .val (.int g), .own (acc.map pairD), s3, s4, .no] fun S1 => kb_phases_4 { E with nx := X, ct := X, bk := E.nx } S1 n := by
  simp only [kg_phases_3, kb_phases_4, kSeq, kAsg, kRet, kIfS, kDrop, kNext, kNever, kOwnS, kApp, kSub, kPar, kAndV_e, kOrV_e, kNotV, kAndT, kOrT, kNotT, kTest_e, isB_bl, kBin, kUn, kChain_e, condV, kCall, kCons, kNil, kTup, kLst, kLstO, kOut, kCompO, kIter, kEnum, kZip, kRng1, DL.kV, kB, kC, kIf, kStar, kSl, kPart, kNoPart, kFn, kFnK, kIsi2, kFor, gN, gTupD, gsCons, gsNil, kYes, dNeg, dAdd, dSub, dMod, dDiv, dMul, dPow, dCmp, dInt, dEq, dNe, dIn, dNotIn, dIx, dIsN, bLen, bInt, bAbs, bTuple, bList, bAny, bAll, bIsi, startD, okW, wipeD, List.map_cons, List.map_nil, List.cons_append, List.nil_append, List.getElem?_cons_zero, List.getElem?_cons_succ, List.set_cons_zero, List.set_cons_succ, List.length_cons, List.length_nil, List.replicate_succ, List.replicate_zero, List.all_cons, List.all_nil, Bool.and_true, Bool.true_and, tyn_int, tyn_bl, tyn_non, tyn_tup, tyn_lst, kit_ii, kit_ib, kit_tt, kit_ll, kit_lt, kit_tl, flat_int, v_int, flat_row, pl_non, pl_bl, pl_int, pl_tup, pl_lst, eqb_int, eqb_nil, eqb_non, D.isN, ne_eq, not_false_eq_true, true_and, and_true, if_true, if_false, Bool.false_eq_true, reduceCtorEq, String.reduceEq, Bool.not_true, Bool.not_false, Bool.or_false, Bool.false_or, Bool.or_true, Bool.true_or, Nat.zero_add, Nat.reduceAdd, Nat.reduceLeDiff, Nat.reduceSub, Nat.reduceEqDiff, kRng2, kExt, dNotN, List.append_nil]
  have go : ∀ m : Nat, m ≤ 24 → (if a = b ∨ g < a then g else a) = m → (-1000000 ≤ (m : Int) ∧ (m : Int) ≤ 1000000) ∧ (rngD 0 (m : Int).toNat).length ≤ 1000000 ∧
      kComps kg_phases_1 kYes ke_phases_2 [5] [.val (.int b), .val (.int g), .own (acc.map pairD), .val (.int a), .val (.int m), .no] (rngD 0 (m : Int).toNat) [] n fun acc1 n2 =>
        (acc.map pairD).length + acc1.length < 1000000 ∧ X [.val (.int b), .val (.int g), .own (acc.map pairD ++ acc1), .val (.int a), .val (.int m), .no] n2 := by
    intro m hm em
    rw [Int.toNat_natCast]
    refine ⟨by omega, by rw [rngD_len]; omega, ph_comp n a m _ _ _ _ _ ?_⟩
    have hx := h (.val (.int a)) (.val (.int m))
    unfold ageL at hx
    rw [em, List.map_append] at hx
    refine ⟨?_, hx⟩
    rw [List.length_map, List.length_map, List.length_map, List.length_range']
    omega
  by_cases e1 : a = b
  · subst e1
    rw [if_pos (beq_self_eq_true _)]
    exact go g hb.1 (if_pos (.inl rfl))
  · rw [if_neg (by rw [beq_eq_false_iff_ne.mpr (by omega)]; exact Bool.false_ne_true)]
    by_cases e2 : g < a
    · rw [if_pos (decide_eq_true (by omega))]
      exact go g hb.1 (if_pos (.inr e2))
    · rw [if_neg (by rw [decide_eq_false (by omega)]; exact Bool.false_ne_true)]
      exact go a hb.2 (if_neg (by rintro (y | y) <;> omega))
theorem ageL_len (b g a : Nat) (hb : g ≤ 24 ∧ a ≤ 24) : (ageL b g a).length ≤ 24 := by
  unfold ageL
  rw [List.length_map, List.length_range']
  split <;> omega
theorem ph_loop (E : DEnds) (n : Nat) (b g : Nat) (hg : g ≤ 24) : ∀ (k a : Nat) (acc : List (Int × Int)) (s3 s4 : Sl), a + k ≤ 20 → acc.length + 24 * k ≤ 5000 →
    (∀ s3 s4, E.nx [.val (.int b), .val (.int g), .own ((acc ++ (List.range' a k).flatMap (ageL b g)).map pairD), s3, s4, .no] n) → kFors kg_phases_3 kb_phases_4 E (rngD a k) [.val (.int b), .val (.int g), .own (acc.map pairD), s3, s4, .no] n
  | 0, a, acc, s3, s4, h1, h2, q => by
    have q := q s3 s4
    rw [show (List.range' a 0).flatMap (ageL b g) = [] from rfl, List.append_nil] at q
    exact q
  | k + 1, a, acc, s3, s4, h1, h2, q => by
    have ll := ageL_len b g a ⟨hg, by omega⟩
    have ih := fun s3 s4 => ph_loop E n b g hg k (a + 1) (acc ++ ageL b g a) s3 s4 (by omega) (by rw [List.length_append]; omega) (fun s3 s4 => by rw [List.append_assoc]; exact q s3 s4)
    show kFors kg_phases_3 kb_phases_4 E (.int a :: rngD ((a + 1 : Nat) : Int) k) _ n
    rw [fors_cons]
    exact ph_step E n b g a acc s3 s4 _ ⟨hg, by omega⟩ (by omega) ih
theorem m_phases : ∀ ds n Q, c_phases ds n Q → kb_phases ⟨fun _ n' => Q .non n', Q, fun _ _ => False, fun _ _ => False⟩ (startD ["burst", "guard", "found", "age", "most", "clean"] ds) n := by
  rintro ds n Q ⟨b, g, rfl, h, q⟩
  simp only [kb_phases, c_need_bursts, kSeq, kAsg, kRet, kIfS, kDrop, kNext, kNever, kOwnS, kApp, kSub, kPar, kAndV_e, kOrV_e, kNotV, kAndT, kOrT, kNotT, kTest_e, isB_bl, kBin, kUn, kChain_e, condV, kCall, kCons, kNil, kTup, kLst, kLstO, kOut, kCompO, kIter, kEnum, kZip, kRng1, DL.kV, kB, kC, kIf, kStar, kSl, kPart, kNoPart, kFn, kFnK, kIsi2, kFor, gN, gTupD, gsCons, gsNil, kYes, dNeg, dAdd, dSub, dMod, dDiv, dMul, dPow, dCmp, dInt, dEq, dNe, dIn, dNotIn, dIx, dIsN, bLen, bInt, bAbs, bTuple, bList, bAny, bAll, bIsi, startD, okW, wipeD, List.map_cons, List.map_nil, List.cons_append, List.nil_append, List.getElem?_cons_zero, List.getElem?_cons_succ, List.set_cons_zero, List.set_cons_succ, List.length_cons, List.length_nil, List.replicate_succ, List.replicate_zero, List.all_cons, List.all_nil, Bool.and_true, Bool.true_and, tyn_int, tyn_bl, tyn_non, tyn_tup, tyn_lst, kit_ii, kit_ib, kit_tt, kit_ll, kit_lt, kit_tl, flat_int, v_int, flat_row, pl_non, pl_bl, pl_int, pl_tup, pl_lst, eqb_int, eqb_nil, eqb_non, D.isN, ne_eq, not_false_eq_true, true_and, and_true, if_true, if_false, Bool.false_eq_true, reduceCtorEq, String.reduceEq, Bool.not_true, Bool.not_false, Bool.or_false, Bool.false_or, Bool.or_true, Bool.true_or, Nat.zero_add, Nat.reduceAdd, Nat.reduceLeDiff, Nat.reduceSub, Nat.reduceEqDiff, kRng2, kExt, dNotN, List.append_nil]
  refine ⟨b, g, rfl, by omega, by omega, ?_⟩
  have eb : ((b : Int) + 1 - 1).toNat = b := by omega
  rw [eb]
  refine ph_loop _ n b g h.2.2 b 1 [(0, 0)] _ _ (by omega) (by rw [List.length_singleton]; omega) fun s3 s4 => ?_
  unfold phasesL at q
  simp only [kSeq, kAsg, kRet, kIfS, kDrop, kNext, kNever, kOwnS, kApp, kSub, kPar, kAndV_e, kOrV_e, kNotV, kAndT, kOrT, kNotT, kTest_e, isB_bl, kBin, kUn, kChain_e, condV, kCall, kCons, kNil, kTup, kLst, kLstO, kOut, kCompO, kIter, kEnum, kZip, kRng1, DL.kV, kB, kC, kIf, kStar, kSl, kPart, kNoPart, kFn, kFnK, kIsi2, kFor, gN, gTupD, gsCons, gsNil, kYes, dNeg, dAdd, dSub, dMod, dDiv, dMul, dPow, dCmp, dInt, dEq, dNe, dIn, dNotIn, dIx, dIsN, bLen, bInt, bAbs, bTuple, bList, bAny, bAll, bIsi, startD, okW, wipeD, List.map_cons, List.map_nil, List.cons_append, List.nil_append, List.getElem?_cons_zero, List.getElem?_cons_succ, List.set_cons_zero, List.set_cons_succ, List.length_cons, List.length_nil, List.replicate_succ, List.replicate_zero, List.all_cons, List.all_nil, Bool.and_true, Bool.true_and, tyn_int, tyn_bl, tyn_non, tyn_tup, tyn_lst, kit_ii, kit_ib, kit_tt, kit_ll, kit_lt, kit_tl, flat_int, v_int, flat_row, pl_non, pl_bl, pl_int, pl_tup, pl_lst, eqb_int, eqb_nil, eqb_non, D.isN, ne_eq, not_false_eq_true, true_and, and_true, if_true, if_false, Bool.false_eq_true, reduceCtorEq, String.reduceEq, Bool.not_true, Bool.not_false, Bool.or_false, Bool.false_or, Bool.or_true, Bool.true_or, Nat.zero_add, Nat.reduceAdd, Nat.reduceLeDiff, Nat.reduceSub, Nat.reduceEqDiff, kRng2, kExt, dNotN, List.append_nil]
  by_cases hg : 0 < g
  · rw [if_pos hg] at q
    rw [if_pos (decide_eq_true (by omega))]
    exact q
  · rw [if_neg hg] at q
    rw [if_neg (by rw [decide_eq_false (by omega)]; exact Bool.false_ne_true)]
    exact q
end L78
namespace L78
open PySem PySem.Spec PyProof.Rows L2 DL
theorem eqb_pairs (p q : Int × Int) : D.eqb (pairD p) (pairD q) = decide (p = q) := by
  have e : D.eqb (pairD p) (pairD q) = (p.1 == q.1 && p.2 == q.2) := by
    unfold D.eqb pairD
    simp only [D.py, D.pys, PyData.eqv, PyData.eqvAll, Bool.and_true]
  rw [e, Bool.eq_iff_iff, Bool.and_eq_true, beq_iff_eq, beq_iff_eq, decide_eq_true_iff]
  exact ⟨fun h => Prod.ext h.1 h.2, fun h => by rw [h]; exact ⟨rfl, rfl⟩⟩
theorem isIn_pairs (p : Int × Int) (ps : List (Int × Int)) : D.isIn (pairD p) (ps.map pairD) = decide (p ∈ ps) := by
  unfold D.isIn
  rw [Bool.eq_iff_iff, List.any_map, List.any_eq_true, decide_eq_true_iff]
  constructor
  · rintro ⟨q, hq, e⟩
    have e : D.eqb (pairD q) (pairD p) = true := e
    rw [eqb_pairs] at e
    have := of_decide_eq_true e
    rw [← this]; exact hq
  · intro h
    refine ⟨p, h, ?_⟩
    show D.eqb (pairD p) (pairD p) = true
    rw [eqb_pairs, decide_eq_true rfl]
def aftD (b g : Int) (p : Int × Int) : D → Option D := fun d => match d with
  | .bl w => some (phD (after b g p w))
  | _ => none
def newD (found : List (Int × Int)) : D → Option D := fun d => match d with
  | .non => none
  | d => if D.isIn d (found.map pairD) = true then none else some d
theorem new_all (found : List (Int × Int)) : ∀ os : List (Option (Int × Int)), (os.map phD).filterMap (newD found) = ((os.filterMap id).filter fun q => !(decide (q ∈ found))).map pairD
  | [] => rfl
  | none :: os => by
    rw [List.map_cons, List.filterMap_cons_none (show newD found (phD none) = none from rfl), new_all found os]
    rfl
  | some p :: os => by
    have f : newD found (phD (some p)) = if D.isIn (pairD p) (found.map pairD) = true then none else some (pairD p) := rfl
    rw [isIn_pairs] at f
    rw [List.map_cons, List.filterMap_cons_some (show id (some p) = some p from rfl)]
    by_cases h : p ∈ found
    · rw [if_pos (decide_eq_true h)] at f
      rw [List.filterMap_cons_none f, new_all found os, List.filter_cons_of_neg (by rw [decide_eq_true h]; exact Bool.false_ne_true)]
    · rw [if_neg (by rw [decide_eq_false h]; exact Bool.false_ne_true)] at f
      rw [List.filterMap_cons_some f, new_all found os, List.filter_cons_of_pos (by rw [decide_eq_false h]; rfl)]
      rfl
theorem pl_ph (k : Nat) (o : Option (Int × Int)) : D.pl (k + 1) (phD o) = True := by
  cases o with
  | none => exact pl_non _
  | some p => exact pl_pair k p
theorem at_pair (found : List (Int × Int)) (t : Nat) (p : Int × Int) (h : found[t]? = some p) : atI (found.map pairD) (t : Int) = some (pairD p) := by
  have hl : t < found.length := (List.getElem?_eq_some_iff.mp h).1
  unfold atI ixN
  rw [List.length_map, if_pos (by omega), if_pos (by omega)]
  show (found.map pairD)[(t : Int).toNat]? = _
  rw [Int.toNat_natCast, List.getElem?_map, h]
  rfl
theorem lph_step (E : DEnds) (n : Nat) (b g : Nat) (t : Nat) (found : List (Int × Int)) (s3 s4 : Sl) (X : List Sl → Nat → Prop) (hl : found.length ≤ 5000)
    (h : ∀ s4, X [.val (.int b), .val (.int g), .val (.lst ((walkP b g found t).map pairD)), .val (.int t), s4, .no, .no, .no, .no, .no] n) :
    kg_law_phases_6 (.int t) [.val (.int b), .val (.int g), .val (.lst (found.map pairD)), s3, s4, .no, .no, .no, .no, .no] fun S1 => kb_law_phases_7 { E with nx := X, ct := X, bk := E.nx } S1 n := by
  simp only [kg_law_phases_6, kb_law_phases_7, kSeq, kAsg, kRet, kIfS, kDrop, kNext, kNever, kOwnS, kApp, kSub, kPar, kAndV_e, kOrV_e, kNotV, kAndT, kOrT, kNotT, kTest_e, isB_bl, kBin, kUn, kChain_e, condV, kCall, kCons, kNil, kTup, kLst, kLstO, kOut, kCompO, kIter, kEnum, kZip, kRng1, DL.kV, kB, kC, kIf, kStar, kSl, kPart, kNoPart, kFn, kFnK, kIsi2, kFor, gN, gTupD, gsCons, gsNil, kYes, dNeg, dAdd, dSub, dMod, dDiv, dMul, dPow, dCmp, dInt, dEq, dNe, dIn, dNotIn, dIx, dIsN, bLen, bInt, bAbs, bTuple, bList, bAny, bAll, bIsi, startD, okW, wipeD, List.map_cons, List.map_nil, List.cons_append, List.nil_append, List.getElem?_cons_zero, List.getElem?_cons_succ, List.set_cons_zero, List.set_cons_succ, List.length_cons, List.length_nil, List.replicate_succ, List.replicate_zero, List.all_cons, List.all_nil, Bool.and_true, Bool.true_and, tyn_int, tyn_bl, tyn_non, tyn_tup, tyn_lst, kit_ii, kit_ib, kit_tt, kit_ll, kit_lt, kit_tl, flat_int, v_int, flat_row, pl_non, pl_bl, pl_int, pl_tup, pl_lst, eqb_int, eqb_nil, eqb_non, D.isN, ne_eq, not_false_eq_true, true_and, and_true, if_true, if_false, Bool.false_eq_true, reduceCtorEq, String.reduceEq, Bool.not_true, Bool.not_false, Bool.or_false, Bool.false_or, Bool.or_true, Bool.true_or, Nat.zero_add, Nat.reduceAdd, Nat.reduceLeDiff, Nat.reduceSub, Nat.reduceEqDiff, kRng2, kExt, dNotN, List.append_nil]
  unfold walkP at h
  cases e : found[t]? with
  | none =>
    rw [e] at h
    have hge := List.getElem?_eq_none_iff.mp e
    rw [if_neg (by rw [decide_eq_false (by rw [List.length_map]; omega)]; exact Bool.false_ne_true)]
    exact h s4
  | some p =>
    rw [e] at h
    have hlt := (List.getElem?_eq_some_iff.mp e).1
    rw [if_pos (decide_eq_true (by rw [List.length_map]; omega))]
    refine comps_fm (aftD b g p) _ _ (fun d hd R hR => ?_) ?_
    · have hw : ∃ w, d = .bl w := by
        simp only [List.mem_cons, List.not_mem_nil, or_false] at hd
        rcases hd with rfl | rfl <;> exact ⟨_, rfl⟩
      obtain ⟨w, rfl⟩ := hw
      have hR : R (some (phD (after b g p w))) n := hR
      have ap := at_pair found t p e
      simp only [kg_law_phases_1, ke_law_phases_2, c_law_after, ap, kSeq, kAsg, kRet, kIfS, kDrop, kNext, kNever, kOwnS, kApp, kSub, kPar, kAndV_e, kOrV_e, kNotV, kAndT, kOrT, kNotT, kTest_e, isB_bl, kBin, kUn, kChain_e, condV, kCall, kCons, kNil, kTup, kLst, kLstO, kOut, kCompO, kIter, kEnum, kZip, kRng1, DL.kV, kB, kC, kIf, kStar, kSl, kPart, kNoPart, kFn, kFnK, kIsi2, kFor, gN, gTupD, gsCons, gsNil, kYes, dNeg, dAdd, dSub, dMod, dDiv, dMul, dPow, dCmp, dInt, dEq, dNe, dIn, dNotIn, dIx, dIsN, bLen, bInt, bAbs, bTuple, bList, bAny, bAll, bIsi, startD, okW, wipeD, List.map_cons, List.map_nil, List.cons_append, List.nil_append, List.getElem?_cons_zero, List.getElem?_cons_succ, List.set_cons_zero, List.set_cons_succ, List.length_cons, List.length_nil, List.replicate_succ, List.replicate_zero, List.all_cons, List.all_nil, Bool.and_true, Bool.true_and, tyn_int, tyn_bl, tyn_non, tyn_tup, tyn_lst, kit_ii, kit_ib, kit_tt, kit_ll, kit_lt, kit_tl, flat_int, v_int, flat_row, pl_non, pl_bl, pl_int, pl_tup, pl_lst, eqb_int, eqb_nil, eqb_non, D.isN, ne_eq, not_false_eq_true, true_and, and_true, if_true, if_false, Bool.false_eq_true, reduceCtorEq, String.reduceEq, Bool.not_true, Bool.not_false, Bool.or_false, Bool.false_or, Bool.or_true, Bool.true_or, Nat.zero_add, Nat.reduceAdd, Nat.reduceLeDiff, Nat.reduceSub, Nat.reduceEqDiff, kRng2, kExt, dNotN, List.append_nil]
      exact ⟨p, w, b, g, rfl, hR⟩
    · rw [List.nil_append]
      have e2 : [D.bl false, D.bl true].filterMap (aftD b g p) = [after b g p false, after b g p true].map phD := rfl
      rw [e2]
      refine ⟨by simp, ?_⟩
      refine comps_fm (newD found) _ _ (fun d hd R hR => ?_) ?_
      · obtain ⟨o, _, rfl⟩ := List.mem_map.mp hd
        have pf := pl_maps (pl_pair 6) found
        have po : D.pl 8 (phD o) := by rw [pl_ph]; trivial
        cases o with
        | none =>
          have hR : R none n := hR
          simp only [kg_law_phases_4, kt_law_phases_3, ke_law_phases_5, phD, kSeq, kAsg, kRet, kIfS, kDrop, kNext, kNever, kOwnS, kApp, kSub, kPar, kAndV_e, kOrV_e, kNotV, kAndT, kOrT, kNotT, kTest_e, isB_bl, kBin, kUn, kChain_e, condV, kCall, kCons, kNil, kTup, kLst, kLstO, kOut, kCompO, kIter, kEnum, kZip, kRng1, DL.kV, kB, kC, kIf, kStar, kSl, kPart, kNoPart, kFn, kFnK, kIsi2, kFor, gN, gTupD, gsCons, gsNil, kYes, dNeg, dAdd, dSub, dMod, dDiv, dMul, dPow, dCmp, dInt, dEq, dNe, dIn, dNotIn, dIx, dIsN, bLen, bInt, bAbs, bTuple, bList, bAny, bAll, bIsi, startD, okW, wipeD, List.map_cons, List.map_nil, List.cons_append, List.nil_append, List.getElem?_cons_zero, List.getElem?_cons_succ, List.set_cons_zero, List.set_cons_succ, List.length_cons, List.length_nil, List.replicate_succ, List.replicate_zero, List.all_cons, List.all_nil, Bool.and_true, Bool.true_and, tyn_int, tyn_bl, tyn_non, tyn_tup, tyn_lst, kit_ii, kit_ib, kit_tt, kit_ll, kit_lt, kit_tl, flat_int, v_int, flat_row, pl_non, pl_bl, pl_int, pl_tup, pl_lst, eqb_int, eqb_nil, eqb_non, D.isN, ne_eq, not_false_eq_true, true_and, and_true, if_true, if_false, Bool.false_eq_true, reduceCtorEq, String.reduceEq, Bool.not_true, Bool.not_false, Bool.or_false, Bool.false_or, Bool.or_true, Bool.true_or, Nat.zero_add, Nat.reduceAdd, Nat.reduceLeDiff, Nat.reduceSub, Nat.reduceEqDiff, kRng2, kExt, dNotN, List.append_nil]
          exact hR
        | some q =>
          have hR : R (if D.isIn (pairD q) (found.map pairD) = true then none else some (pairD q)) n := hR
          have hn : (pairD q).isN = false := rfl
          simp only [kg_law_phases_4, kt_law_phases_3, ke_law_phases_5, phD, hn, kSeq, kAsg, kRet, kIfS, kDrop, kNext, kNever, kOwnS, kApp, kSub, kPar, kAndV_e, kOrV_e, kNotV, kAndT, kOrT, kNotT, kTest_e, isB_bl, kBin, kUn, kChain_e, condV, kCall, kCons, kNil, kTup, kLst, kLstO, kOut, kCompO, kIter, kEnum, kZip, kRng1, DL.kV, kB, kC, kIf, kStar, kSl, kPart, kNoPart, kFn, kFnK, kIsi2, kFor, gN, gTupD, gsCons, gsNil, kYes, dNeg, dAdd, dSub, dMod, dDiv, dMul, dPow, dCmp, dInt, dEq, dNe, dIn, dNotIn, dIx, dIsN, bLen, bInt, bAbs, bTuple, bList, bAny, bAll, bIsi, startD, okW, wipeD, List.map_cons, List.map_nil, List.cons_append, List.nil_append, List.getElem?_cons_zero, List.getElem?_cons_succ, List.set_cons_zero, List.set_cons_succ, List.length_cons, List.length_nil, List.replicate_succ, List.replicate_zero, List.all_cons, List.all_nil, Bool.and_true, Bool.true_and, tyn_int, tyn_bl, tyn_non, tyn_tup, tyn_lst, kit_ii, kit_ib, kit_tt, kit_ll, kit_lt, kit_tl, flat_int, v_int, flat_row, pl_non, pl_bl, pl_int, pl_tup, pl_lst, eqb_int, eqb_nil, eqb_non, D.isN, ne_eq, not_false_eq_true, true_and, and_true, if_true, if_false, Bool.false_eq_true, reduceCtorEq, String.reduceEq, Bool.not_true, Bool.not_false, Bool.or_false, Bool.false_or, Bool.or_true, Bool.true_or, Nat.zero_add, Nat.reduceAdd, Nat.reduceLeDiff, Nat.reduceSub, Nat.reduceEqDiff, kRng2, kExt, dNotN, List.append_nil]
          refine ⟨po, pf, ?_⟩
          cases z : D.isIn (pairD q) (found.map pairD) with
          | true =>
            rw [z, if_pos rfl] at hR
            exact hR
          | false =>
            rw [z, if_neg Bool.false_ne_true] at hR
            exact hR
      · rw [List.nil_append, new_all, ← List.map_append]
        refine ⟨?_, h _⟩
        rw [List.length_map, List.length_map]
        have f1 : (List.filter (fun q => !(decide (q ∈ found))) (List.filterMap id [after b g p false, after b g p true])).length ≤ 2 := by
          refine Nat.le_trans (List.length_filter_le ..) ?_
          exact Nat.le_trans (List.length_filterMap_le ..) (by simp)
        omega
theorem walk_len (b g : Int) (found : List (Int × Int)) (t : Nat) : (walkP b g found t).length ≤ found.length + 2 := by
  unfold walkP
  split
  · omega
  · rw [List.length_append]
    rename_i p _
    have f1 : (List.filter (fun q => !(decide (q ∈ found))) (List.filterMap id [after b g p false, after b g p true])).length ≤ 2 := by
      refine Nat.le_trans (List.length_filter_le ..) ?_
      exact Nat.le_trans (List.length_filterMap_le ..) (by simp)
    omega
theorem reach_len (b g : Int) : ∀ k, (reachP b g k).length ≤ 1 + 2 * k
  | 0 => Nat.le_refl _
  | k + 1 => by
    have h1 := walk_len b g (reachP b g k) k
    have h2 := reach_len b g k
    show (walkP b g (reachP b g k) k).length ≤ _
    omega
theorem lph_loop (E : DEnds) (n : Nat) (b g : Nat) : ∀ (k t : Nat) (s3 s4 : Sl), t + k ≤ 400 →
    (∀ s3 s4, E.nx [.val (.int b), .val (.int g), .val (.lst ((reachP b g (t + k)).map pairD)), s3, s4, .no, .no, .no, .no, .no] n) →
    kFors kg_law_phases_6 kb_law_phases_7 E (rngD t k) [.val (.int b), .val (.int g), .val (.lst ((reachP b g t).map pairD)), s3, s4, .no, .no, .no, .no, .no] n
  | 0, t, s3, s4, h1, q => q s3 s4
  | k + 1, t, s3, s4, h1, q => by
    have rl := reach_len b g t
    have ek : t + 1 + k = t + (k + 1) := by omega
    have q2 := q
    rw [← ek] at q2
    show kFors kg_law_phases_6 kb_law_phases_7 E (.int t :: rngD ((t + 1 : Nat) : Int) k) _ n
    rw [fors_cons]
    exact lph_step E n b g t (reachP b g t) s3 s4 _ (by omega) fun s4 => lph_loop E n b g k (t + 1) (.val (.int t)) s4 (by omega) q2
def toldD (a : D) (found : List (Int × Int)) : D → Option D := fun d => match d with
  | .int c => if D.isIn (.tup [a, .int c]) (found.map pairD) = true then some (.tup [a, .int c]) else none
  | _ => none
theorem told_all (a : Nat) (found : List (Int × Int)) : ∀ xs : List Nat, (xs.map fun c : Nat => D.int c).filterMap (toldD (.int a) found) = ((xs.map fun c : Nat => ((a : Int), (c : Int))).filter fun q => decide (q ∈ found)).map pairD
  | [] => rfl
  | c :: xs => by
    have f : toldD (.int a) found (.int c) = if D.isIn (pairD ((a : Int), (c : Int))) (found.map pairD) = true then some (pairD ((a : Int), (c : Int))) else none := rfl
    rw [isIn_pairs] at f
    rw [List.map_cons, List.map_cons]
    by_cases h : decide (((a : Int), (c : Int)) ∈ found) = true
    · rw [if_pos h] at f
      rw [List.filterMap_cons_some f, told_all a found xs, List.filter_cons_of_pos (p := fun q => decide (q ∈ found)) h]
      rfl
    · rw [if_neg h] at f
      rw [List.filterMap_cons_none f, told_all a found xs, List.filter_cons_of_neg (p := fun q => decide (q ∈ found)) h]
theorem told_step (E : DEnds) (n : Nat) (b g a : Nat) (found acc : List (Int × Int)) (s3 s4 s6 : Sl) (X : List Sl → Nat → Prop) (hg : g ≤ 24) (hl : acc.length ≤ 5000)
    (h : ∀ s6, X [.val (.int b), .val (.int g), .val (.lst (found.map pairD)), s3, s4, .own ((acc ++ ((List.range' 0 (g + 1)).map fun c : Nat => ((a : Int), (c : Int))).filter fun q => decide (q ∈ found)).map pairD), s6, .no, .no, .no] n) :
    kg_law_phases_11 (.int a) [.val (.int b), .val (.int g), .val (.lst (found.map pairD)), s3, s4, .own (acc.map pairD), s6, .no, .no, .no] fun S1 => kb_law_phases_12 { E with nx := X, ct := X, bk := E.nx } S1 n := by
  simp only [kg_law_phases_11, kb_law_phases_12, kSeq, kAsg, kRet, kIfS, kDrop, kNext, kNever, kOwnS, kApp, kSub, kPar, kAndV_e, kOrV_e, kNotV, kAndT, kOrT, kNotT, kTest_e, isB_bl, kBin, kUn, kChain_e, condV, kCall, kCons, kNil, kTup, kLst, kLstO, kOut, kCompO, kIter, kEnum, kZip, kRng1, DL.kV, kB, kC, kIf, kStar, kSl, kPart, kNoPart, kFn, kFnK, kIsi2, kFor, gN, gTupD, gsCons, gsNil, kYes, dNeg, dAdd, dSub, dMod, dDiv, dMul, dPow, dCmp, dInt, dEq, dNe, dIn, dNotIn, dIx, dIsN, bLen, bInt, bAbs, bTuple, bList, bAny, bAll, bIsi, startD, okW, wipeD, List.map_cons, List.map_nil, List.cons_append, List.nil_append, List.getElem?_cons_zero, List.getElem?_cons_succ, List.set_cons_zero, List.set_cons_succ, List.length_cons, List.length_nil, List.replicate_succ, List.replicate_zero, List.all_cons, List.all_nil, Bool.and_true, Bool.true_and, tyn_int, tyn_bl, tyn_non, tyn_tup, tyn_lst, kit_ii, kit_ib, kit_tt, kit_ll, kit_lt, kit_tl, flat_int, v_int, flat_row, pl_non, pl_bl, pl_int, pl_tup, pl_lst, eqb_int, eqb_nil, eqb_non, D.isN, ne_eq, not_false_eq_true, true_and, and_true, if_true, if_false, Bool.false_eq_true, reduceCtorEq, String.reduceEq, Bool.not_true, Bool.not_false, Bool.or_false, Bool.false_or, Bool.or_true, Bool.true_or, Nat.zero_add, Nat.reduceAdd, Nat.reduceLeDiff, Nat.reduceSub, Nat.reduceEqDiff, kRng2, kExt, dNotN, List.append_nil]
  have eg : ((g : Int) + 1).toNat = g + 1 := by omega
  rw [eg]
  refine ⟨by omega, by rw [rngD_len]; omega, ?_⟩
  have e := rng_range (g + 1) 0
  rw [show ((0 : Nat) : Int) = 0 from rfl] at e
  rw [e]
  refine comps_fm (toldD (.int a) found) _ _ (fun d hd R hR => ?_) ?_
  · obtain ⟨c, _, rfl⟩ := List.mem_map.mp hd
    have hR : R (if D.isIn (.tup [.int a, .int c]) (found.map pairD) = true then some (.tup [.int a, .int c]) else none) n := hR
    have pf := pl_maps (pl_pair 6) found
    have pp : ∀ d ∈ [D.int (a : Int), D.int (c : Int)], D.pl 7 d := fun d hd => by
      simp only [List.mem_cons, List.not_mem_nil, or_false] at hd
      rcases hd with rfl | rfl <;> (rw [pl_int]; trivial)
    simp only [kg_law_phases_9, kt_law_phases_8, ke_law_phases_10, kSeq, kAsg, kRet, kIfS, kDrop, kNext, kNever, kOwnS, kApp, kSub, kPar, kAndV_e, kOrV_e, kNotV, kAndT, kOrT, kNotT, kTest_e, isB_bl, kBin, kUn, kChain_e, condV, kCall, kCons, kNil, kTup, kLst, kLstO, kOut, kCompO, kIter, kEnum, kZip, kRng1, DL.kV, kB, kC, kIf, kStar, kSl, kPart, kNoPart, kFn, kFnK, kIsi2, kFor, gN, gTupD, gsCons, gsNil, kYes, dNeg, dAdd, dSub, dMod, dDiv, dMul, dPow, dCmp, dInt, dEq, dNe, dIn, dNotIn, dIx, dIsN, bLen, bInt, bAbs, bTuple, bList, bAny, bAll, bIsi, startD, okW, wipeD, List.map_cons, List.map_nil, List.cons_append, List.nil_append, List.getElem?_cons_zero, List.getElem?_cons_succ, List.set_cons_zero, List.set_cons_succ, List.length_cons, List.length_nil, List.replicate_succ, List.replicate_zero, List.all_cons, List.all_nil, Bool.and_true, Bool.true_and, tyn_int, tyn_bl, tyn_non, tyn_tup, tyn_lst, kit_ii, kit_ib, kit_tt, kit_ll, kit_lt, kit_tl, flat_int, v_int, flat_row, pl_non, pl_bl, pl_int, pl_tup, pl_lst, eqb_int, eqb_nil, eqb_non, D.isN, ne_eq, not_false_eq_true, true_and, and_true, if_true, if_false, Bool.false_eq_true, reduceCtorEq, String.reduceEq, Bool.not_true, Bool.not_false, Bool.or_false, Bool.false_or, Bool.or_true, Bool.true_or, Nat.zero_add, Nat.reduceAdd, Nat.reduceLeDiff, Nat.reduceSub, Nat.reduceEqDiff, kRng2, kExt, dNotN, List.append_nil]
    refine ⟨pp, pf, ?_⟩
    cases z : D.isIn (.tup [.int a, .int c]) (found.map pairD) with
    | true =>
      rw [z, if_pos rfl] at hR
      exact hR
    | false =>
      rw [z, if_neg Bool.false_ne_true] at hR
      exact hR
  · rw [List.nil_append, told_all, ← List.map_append]
    refine ⟨?_, h _⟩
    rw [List.length_map, List.length_map]
    have := List.length_filter_le (fun q => decide (q ∈ found)) ((List.range' 0 (g + 1)).map fun c : Nat => ((a : Int), (c : Int)))
    rw [List.length_map, List.length_range'] at this
    omega
abbrev toldRow (g : Nat) (found : List (Int × Int)) (a : Nat) : List (Int × Int) := ((List.range' 0 (g + 1)).map fun c : Nat => ((a : Int), (c : Int))).filter fun q => decide (q ∈ found)
theorem told_len (g : Nat) (found : List (Int × Int)) (a : Nat) : (toldRow g found a).length ≤ g + 1 := by
  refine Nat.le_trans (List.length_filter_le ..) ?_
  rw [List.length_map, List.length_range']
  exact Nat.le_refl _
theorem told_loop (E : DEnds) (n : Nat) (b g : Nat) (hg : g ≤ 24) (found : List (Int × Int)) (s3 s4 : Sl) : ∀ (k a : Nat) (acc : List (Int × Int)) (s6 : Sl), acc.length + 25 * k ≤ 5000 →
    (∀ s6, E.nx [.val (.int b), .val (.int g), .val (.lst (found.map pairD)), s3, s4, .own ((acc ++ (List.range' a k).flatMap (toldRow g found)).map pairD), s6, .no, .no, .no] n) →
    kFors kg_law_phases_11 kb_law_phases_12 E (rngD a k) [.val (.int b), .val (.int g), .val (.lst (found.map pairD)), s3, s4, .own (acc.map pairD), s6, .no, .no, .no] n
  | 0, a, acc, s6, h2, q => by
    have q := q s6
    rw [show (List.range' a 0).flatMap (toldRow g found) = [] from rfl, List.append_nil] at q
    exact q
  | k + 1, a, acc, s6, h2, q => by
    have ll := told_len g found a
    have ih := fun s6 => told_loop E n b g hg found s3 s4 k (a + 1) (acc ++ toldRow g found a) s6 (by rw [List.length_append]; omega) (fun s6 => by rw [List.append_assoc]; exact q s6)
    show kFors kg_law_phases_11 kb_law_phases_12 E (.int a :: rngD ((a + 1 : Nat) : Int) k) _ n
    rw [fors_cons]
    exact told_step E n b g a found acc s3 s4 s6 _ hg (by omega) ih
theorem m_law_phases : ∀ ds n Q, c_law_phases ds n Q → kb_law_phases ⟨fun _ n' => Q .non n', Q, fun _ _ => False, fun _ _ => False⟩ (startD ["burst", "guard", "found", "turn", "some", "told", "age", "is_wrong", "phase", "clean"] ds) n := by
  rintro ds n Q ⟨b, g, rfl, h, q⟩
  simp only [kb_law_phases, kSeq, kAsg, kRet, kIfS, kDrop, kNext, kNever, kOwnS, kApp, kSub, kPar, kAndV_e, kOrV_e, kNotV, kAndT, kOrT, kNotT, kTest_e, isB_bl, kBin, kUn, kChain_e, condV, kCall, kCons, kNil, kTup, kLst, kLstO, kOut, kCompO, kIter, kEnum, kZip, kRng1, DL.kV, kB, kC, kIf, kStar, kSl, kPart, kNoPart, kFn, kFnK, kIsi2, kFor, gN, gTupD, gsCons, gsNil, kYes, dNeg, dAdd, dSub, dMod, dDiv, dMul, dPow, dCmp, dInt, dEq, dNe, dIn, dNotIn, dIx, dIsN, bLen, bInt, bAbs, bTuple, bList, bAny, bAll, bIsi, startD, okW, wipeD, List.map_cons, List.map_nil, List.cons_append, List.nil_append, List.getElem?_cons_zero, List.getElem?_cons_succ, List.set_cons_zero, List.set_cons_succ, List.length_cons, List.length_nil, List.replicate_succ, List.replicate_zero, List.all_cons, List.all_nil, Bool.and_true, Bool.true_and, tyn_int, tyn_bl, tyn_non, tyn_tup, tyn_lst, kit_ii, kit_ib, kit_tt, kit_ll, kit_lt, kit_tl, flat_int, v_int, flat_row, pl_non, pl_bl, pl_int, pl_tup, pl_lst, eqb_int, eqb_nil, eqb_non, D.isN, ne_eq, not_false_eq_true, true_and, and_true, if_true, if_false, Bool.false_eq_true, reduceCtorEq, String.reduceEq, Bool.not_true, Bool.not_false, Bool.or_false, Bool.false_or, Bool.or_true, Bool.true_or, Nat.zero_add, Nat.reduceAdd, Nat.reduceLeDiff, Nat.reduceSub, Nat.reduceEqDiff, kRng2, kExt, dNotN, List.append_nil]
  refine ⟨by decide, ?_⟩
  refine lph_loop _ n b g 400 0 _ _ (by decide) fun s3 s4 => ?_
  rw [Nat.zero_add]
  simp only [kSeq, kAsg, kRet, kIfS, kDrop, kNext, kNever, kOwnS, kApp, kSub, kPar, kAndV_e, kOrV_e, kNotV, kAndT, kOrT, kNotT, kTest_e, isB_bl, kBin, kUn, kChain_e, condV, kCall, kCons, kNil, kTup, kLst, kLstO, kOut, kCompO, kIter, kEnum, kZip, kRng1, DL.kV, kB, kC, kIf, kStar, kSl, kPart, kNoPart, kFn, kFnK, kIsi2, kFor, gN, gTupD, gsCons, gsNil, kYes, dNeg, dAdd, dSub, dMod, dDiv, dMul, dPow, dCmp, dInt, dEq, dNe, dIn, dNotIn, dIx, dIsN, bLen, bInt, bAbs, bTuple, bList, bAny, bAll, bIsi, startD, okW, wipeD, List.map_cons, List.map_nil, List.cons_append, List.nil_append, List.getElem?_cons_zero, List.getElem?_cons_succ, List.set_cons_zero, List.set_cons_succ, List.length_cons, List.length_nil, List.replicate_succ, List.replicate_zero, List.all_cons, List.all_nil, Bool.and_true, Bool.true_and, tyn_int, tyn_bl, tyn_non, tyn_tup, tyn_lst, kit_ii, kit_ib, kit_tt, kit_ll, kit_lt, kit_tl, flat_int, v_int, flat_row, pl_non, pl_bl, pl_int, pl_tup, pl_lst, eqb_int, eqb_nil, eqb_non, D.isN, ne_eq, not_false_eq_true, true_and, and_true, if_true, if_false, Bool.false_eq_true, reduceCtorEq, String.reduceEq, Bool.not_true, Bool.not_false, Bool.or_false, Bool.false_or, Bool.or_true, Bool.true_or, Nat.zero_add, Nat.reduceAdd, Nat.reduceLeDiff, Nat.reduceSub, Nat.reduceEqDiff, kRng2, kExt, dNotN, List.append_nil]
  refine ⟨by omega, ?_⟩
  have eb : ((b : Int) + 1).toNat = b + 1 := by omega
  rw [eb]
  refine told_loop _ n b g h.2.2 _ _ _ (b + 1) 0 [] _ (by rw [List.length_nil]; omega) fun s6 => ?_
  rw [List.nil_append]
  simp only [kSeq, kAsg, kRet, kIfS, kDrop, kNext, kNever, kOwnS, kApp, kSub, kPar, kAndV_e, kOrV_e, kNotV, kAndT, kOrT, kNotT, kTest_e, isB_bl, kBin, kUn, kChain_e, condV, kCall, kCons, kNil, kTup, kLst, kLstO, kOut, kCompO, kIter, kEnum, kZip, kRng1, DL.kV, kB, kC, kIf, kStar, kSl, kPart, kNoPart, kFn, kFnK, kIsi2, kFor, gN, gTupD, gsCons, gsNil, kYes, dNeg, dAdd, dSub, dMod, dDiv, dMul, dPow, dCmp, dInt, dEq, dNe, dIn, dNotIn, dIx, dIsN, bLen, bInt, bAbs, bTuple, bList, bAny, bAll, bIsi, startD, okW, wipeD, List.map_cons, List.map_nil, List.cons_append, List.nil_append, List.getElem?_cons_zero, List.getElem?_cons_succ, List.set_cons_zero, List.set_cons_succ, List.length_cons, List.length_nil, List.replicate_succ, List.replicate_zero, List.all_cons, List.all_nil, Bool.and_true, Bool.true_and, tyn_int, tyn_bl, tyn_non, tyn_tup, tyn_lst, kit_ii, kit_ib, kit_tt, kit_ll, kit_lt, kit_tl, flat_int, v_int, flat_row, pl_non, pl_bl, pl_int, pl_tup, pl_lst, eqb_int, eqb_nil, eqb_non, D.isN, ne_eq, not_false_eq_true, true_and, and_true, if_true, if_false, Bool.false_eq_true, reduceCtorEq, String.reduceEq, Bool.not_true, Bool.not_false, Bool.or_false, Bool.false_or, Bool.or_true, Bool.true_or, Nat.zero_add, Nat.reduceAdd, Nat.reduceLeDiff, Nat.reduceSub, Nat.reduceEqDiff, kRng2, kExt, dNotN, List.append_nil]
  exact q
end L78
namespace L78
open PySem PySem.Spec PyProof.Rows L2 DL
theorem at_getD (W : List Int) (j : Nat) (h : j < W.length) : atI (W.map D.int) (j : Int) = some (.int (W.getD j 0)) := by
  unfold atI ixN
  rw [List.length_map, if_pos (by omega), if_pos (by omega)]
  show (W.map D.int)[(j : Int).toNat]? = _
  rw [Int.toNat_natCast, List.getElem?_map, List.getD_eq_getElem?_getD, List.getElem?_eq_getElem h]
  rfl
theorem cut_from (W : List D) (j : Nat) (h : j ≤ W.length) : DL.cutD W (some (j : Int)) none = W.drop j := by
  show (W.drop (min (j : Int).toNat W.length)).take (W.length - min (j : Int).toNat W.length) = _
  rw [Int.toNat_natCast, Nat.min_eq_left h]
  exact List.take_of_length_le (by rw [List.length_drop]; omega)
abbrev canStep (b g : Int) (N : Nat) (W : List Int) (i : Nat) : Bool := decide (W.getD i 0 - W.getD 0 0 < b) && (decide (i + 1 = W.length) || decide (g < W.getD (i + 1) 0 - W.getD i 0)) && canP b g N (W.drop (i + 1))
theorem cp_step (E : DEnds) (n N : Nat) (W : List Int) (b g : Int) (i : Nat) (s3 s4 : Sl) (X : List Sl → Nat → Prop) (hi : i < W.length) (hN : W.length ≤ N + 1 ∧ N ≤ 1000)
    (h : if canStep b g N W i = true then E.rt (.bl true) n else ∀ s3 s4, X [.val (.lst (W.map D.int)), .val (.int b), .val (.int g), s3, s4] n) :
    kg_law_can_part_1 (N + 1) (.int (i + 1)) [.val (.lst (W.map D.int)), .val (.int b), .val (.int g), s3, s4] fun S1 => kb_law_can_part_2 (N + 1) { E with nx := X, ct := X, bk := E.nx } S1 n := by
  have e0 := at_getD W 0 (by omega)
  rw [show ((0 : Nat) : Int) = 0 from rfl] at e0
  have e1 := at_getD W i hi
  have ei : (i : Int) + 1 - 1 = i := by omega
  have ec : DL.cutD (W.map D.int) (some ((i : Int) + 1)) none = (W.drop (i + 1)).map D.int := by
    have := cut_from (W.map D.int) (i + 1) (by rw [List.length_map]; omega)
    rw [show (((i + 1 : Nat) : Int)) = (i : Int) + 1 from rfl] at this
    rw [this, List.map_drop]
  have call : ∀ sl : Sl, (if canP b g N (W.drop (i + 1)) = true then E.rt (.bl true) n else X [.val (.lst (W.map D.int)), .val (.int b), .val (.int g), .val (.int (i + 1)), sl] n) →
      c_law_can_part (N + 1) [.lst ((W.drop (i + 1)).map D.int), .int b, .int g] n fun d n2 => isB d fun c => if c = true then E.rt (.bl true) n2 else X [.val (.lst (W.map D.int)), .val (.int b), .val (.int g), .val (.int (i + 1)), sl] n2 :=
    fun sl hY => ⟨W.drop (i + 1), b, g, rfl, by rw [List.length_drop]; omega, hN.2, hY⟩
  simp only [kg_law_can_part_1, kb_law_can_part_2, ei, e0, e1, ec, kSeq, kAsg, kRet, kIfS, kDrop, kNext, kNever, kOwnS, kApp, kSub, kPar, kAndV_e, kOrV_e, kNotV, kAndT, kOrT, kNotT, kTest_e, isB_bl, kBin, kUn, kChain_e, condV, kCall, kCons, kNil, kTup, kLst, kLstO, kOut, kCompO, kIter, kEnum, kZip, kRng1, DL.kV, kB, kC, kIf, kStar, kSl, kPart, kNoPart, kFn, kFnK, kIsi2, kFor, gN, gTupD, gsCons, gsNil, kYes, dNeg, dAdd, dSub, dMod, dDiv, dMul, dPow, dCmp, dInt, dEq, dNe, dIn, dNotIn, dIx, dIsN, bLen, bInt, bAbs, bTuple, bList, bAny, bAll, bIsi, startD, okW, wipeD, List.map_cons, List.map_nil, List.cons_append, List.nil_append, List.getElem?_cons_zero, List.getElem?_cons_succ, List.set_cons_zero, List.set_cons_succ, List.length_cons, List.length_nil, List.replicate_succ, List.replicate_zero, List.all_cons, List.all_nil, Bool.and_true, Bool.true_and, tyn_int, tyn_bl, tyn_non, tyn_tup, tyn_lst, kit_ii, kit_ib, kit_tt, kit_ll, kit_lt, kit_tl, flat_int, v_int, flat_row, pl_non, pl_bl, pl_int, pl_tup, pl_lst, eqb_int, eqb_nil, eqb_non, D.isN, ne_eq, not_false_eq_true, true_and, and_true, if_true, if_false, Bool.false_eq_true, reduceCtorEq, String.reduceEq, Bool.not_true, Bool.not_false, Bool.or_false, Bool.false_or, Bool.or_true, Bool.true_or, Nat.zero_add, Nat.reduceAdd, Nat.reduceLeDiff, Nat.reduceSub, Nat.reduceEqDiff, kRng2, kExt, dNotN, List.append_nil]
  unfold canStep at h
  by_cases c1 : W.getD i 0 - W.getD 0 0 < b
  · rw [decide_eq_true c1, Bool.true_and] at h
    by_cases c2 : i + 1 = W.length
    · rw [decide_eq_true c2, Bool.true_or, Bool.true_and] at h
      rw [if_pos (by rw [List.length_map, beq_iff_eq]; omega), if_pos (decide_eq_true c1)]
      refine call _ ?_
      split
      · rename_i z; rw [if_pos z] at h; exact h
      · rename_i z; rw [if_neg z] at h; exact h _ _
    · rw [decide_eq_false c2, Bool.false_or] at h
      have e2 := at_getD W (i + 1) (by omega)
      rw [show ((i + 1 : Nat) : Int) = (i : Int) + 1 from rfl] at e2
      rw [if_neg (by rw [List.length_map, beq_iff_eq]; omega), e2]
      show if decide (W.getD i 0 - W.getD 0 0 < b) = true then _ else _
      rw [if_pos (decide_eq_true c1)]
      by_cases c3 : g < W.getD (i + 1) 0 - W.getD i 0
      · rw [decide_eq_true c3, Bool.true_and] at h
        rw [if_pos (decide_eq_true c3)]
        refine call _ ?_
        split
        · rename_i z; rw [if_pos z] at h; exact h
        · rename_i z; rw [if_neg z] at h; exact h _ _
      · rw [decide_eq_false c3, Bool.false_and, if_neg Bool.false_ne_true] at h
        rw [if_neg (by rw [decide_eq_false c3]; exact Bool.false_ne_true)]
        exact h _ _
  · rw [decide_eq_false c1, Bool.false_and, Bool.false_and, if_neg Bool.false_ne_true] at h
    by_cases c2 : i + 1 = W.length
    · rw [if_pos (by rw [List.length_map, beq_iff_eq]; omega), if_neg (by rw [decide_eq_false c1]; exact Bool.false_ne_true)]
      exact h _ _
    · have e2 := at_getD W (i + 1) (by omega)
      rw [show ((i + 1 : Nat) : Int) = (i : Int) + 1 from rfl] at e2
      rw [if_neg (by rw [List.length_map, beq_iff_eq]; omega), e2]
      show if decide (W.getD i 0 - W.getD 0 0 < b) = true then _ else _
      rw [if_neg (by rw [decide_eq_false c1]; exact Bool.false_ne_true)]
      exact h _ _
theorem cp_loop (E : DEnds) (n N : Nat) (W : List Int) (b g : Int) (hN : W.length ≤ N + 1 ∧ N ≤ 1000) : ∀ (k i : Nat) (s3 s4 : Sl), i + k = W.length →
    (if (List.range' i k).any (canStep b g N W) = true then E.rt (.bl true) n else ∀ s3 s4, E.nx [.val (.lst (W.map D.int)), .val (.int b), .val (.int g), s3, s4] n) →
    kFors (kg_law_can_part_1 (N + 1)) (kb_law_can_part_2 (N + 1)) E (rngD ((i : Int) + 1) k) [.val (.lst (W.map D.int)), .val (.int b), .val (.int g), s3, s4] n
  | 0, i, s3, s4, h1, q => q s3 s4
  | k + 1, i, s3, s4, h1, q => by
    have er : List.range' i (k + 1) = i :: List.range' (i + 1) k := rfl
    rw [er, List.any_cons] at q
    show kFors _ _ E (.int ((i : Int) + 1) :: rngD (((i + 1 : Nat) : Int) + 1) k) _ n
    rw [fors_cons]
    refine cp_step E n N W b g i s3 s4 _ (by omega) hN ?_
    by_cases z : canStep b g N W i = true
    · rw [if_pos z]
      rw [z, Bool.true_or, if_pos rfl] at q
      exact q
    · rw [if_neg z]
      rw [Bool.eq_false_iff.mpr z, Bool.false_or] at q
      exact fun s3 s4 => cp_loop E n N W b g hN k (i + 1) s3 s4 (by omega) q
theorem m_law_can_part : ∀ N ds n Q, c_law_can_part (N + 1) ds n Q → kb_law_can_part N ⟨fun _ n' => Q .non n', Q, fun _ _ => False, fun _ _ => False⟩ (startD ["wrong", "burst", "guard", "many", "is_far"] ds) n := by
  rintro N ds n Q ⟨W, b, g, rfl, h1, h2, q⟩
  simp only [kb_law_can_part, kSeq, kAsg, kRet, kIfS, kDrop, kNext, kNever, kOwnS, kApp, kSub, kPar, kAndV_e, kOrV_e, kNotV, kAndT, kOrT, kNotT, kTest_e, isB_bl, kBin, kUn, kChain_e, condV, kCall, kCons, kNil, kTup, kLst, kLstO, kOut, kCompO, kIter, kEnum, kZip, kRng1, DL.kV, kB, kC, kIf, kStar, kSl, kPart, kNoPart, kFn, kFnK, kIsi2, kFor, gN, gTupD, gsCons, gsNil, kYes, dNeg, dAdd, dSub, dMod, dDiv, dMul, dPow, dCmp, dInt, dEq, dNe, dIn, dNotIn, dIx, dIsN, bLen, bInt, bAbs, bTuple, bList, bAny, bAll, bIsi, startD, okW, wipeD, List.map_cons, List.map_nil, List.cons_append, List.nil_append, List.getElem?_cons_zero, List.getElem?_cons_succ, List.set_cons_zero, List.set_cons_succ, List.length_cons, List.length_nil, List.replicate_succ, List.replicate_zero, List.all_cons, List.all_nil, Bool.and_true, Bool.true_and, tyn_int, tyn_bl, tyn_non, tyn_tup, tyn_lst, kit_ii, kit_ib, kit_tt, kit_ll, kit_lt, kit_tl, flat_int, v_int, flat_row, pl_non, pl_bl, pl_int, pl_tup, pl_lst, eqb_int, eqb_nil, eqb_non, D.isN, ne_eq, not_false_eq_true, true_and, and_true, if_true, if_false, Bool.false_eq_true, reduceCtorEq, String.reduceEq, Bool.not_true, Bool.not_false, Bool.or_false, Bool.false_or, Bool.or_true, Bool.true_or, Nat.zero_add, Nat.reduceAdd, Nat.reduceLeDiff, Nat.reduceSub, Nat.reduceEqDiff, kRng2, kExt, dNotN, List.append_nil]
  refine ⟨pl_maps (fun j : Int => pl_int 7 j) W, (fun d hd => by cases hd), ?_⟩
  cases W with
  | nil =>
    rw [if_pos (show (([] : List Int).map D.int).isEmpty = true from rfl)]
    have e : canP b g N [] = true := by cases N <;> rfl
    rw [e] at q
    exact q
  | cons w V =>
    rw [if_neg (show ¬ (((w :: V).map D.int).isEmpty = true) from by simp)]
    rw [List.length_map]
    refine ⟨by omega, ?_⟩
    cases N with
    | zero => rw [List.length_cons] at h1; omega
    | succ M =>
      have el : (((w :: V).length : Int) + 1 - 1).toNat = (w :: V).length := by omega
      rw [el]
      refine cp_loop _ n M (w :: V) b g ⟨h1, by omega⟩ (w :: V).length 0 _ _ (by omega) ?_
      have e : canP b g (M + 1) (w :: V) = (List.range' 0 (w :: V).length).any (canStep b g M (w :: V)) := rfl
      rw [e] at q
      split
      · rename_i z; rw [z] at q; exact q
      · rename_i z
        rw [Bool.eq_false_iff.mpr z] at q
        intro s3 s4
        exact q
theorem ls_step (E : DEnds) (n k : Nat) (cs : List Int) (x : D) (o : Int) (rs : List (List Bool)) (s4 s5 : Sl) (X : List Sl → Nat → Prop) (ho : 0 < o ∧ o < 1073741824) (hn : n + 3 ≤ 90000) (hl : rs.length ≤ 1000)
    (h : ∀ (r : List Bool) (n' : Nat) (s5 : Sl), r.length ≤ 3 → n' ≤ n + 3 → X [.val (.pen cs), .val (.int k), .own ((rs ++ [r]).map rowD), .val (.int o), .val x, s5] n') :
    kg_law_steps_1 x [.val (.pen cs), .val (.int k), .own (rs.map rowD), .val (.int o), s4, s5] fun S1 => kb_law_steps_2 { E with nx := X, ct := X, bk := E.nx } S1 n := by
  simp only [kg_law_steps_1, kb_law_steps_2, c_law_draw, c_law_pick, c_law_all, kSeq, kAsg, kRet, kIfS, kDrop, kNext, kNever, kOwnS, kApp, kSub, kPar, kAndV_e, kOrV_e, kNotV, kAndT, kOrT, kNotT, kTest_e, isB_bl, kBin, kUn, kChain_e, condV, kCall, kCons, kNil, kTup, kLst, kLstO, kOut, kCompO, kIter, kEnum, kZip, kRng1, DL.kV, kB, kC, kIf, kStar, kSl, kPart, kNoPart, kFn, kFnK, kIsi2, kFor, gN, gTupD, gsCons, gsNil, kYes, dNeg, dAdd, dSub, dMod, dDiv, dMul, dPow, dCmp, dInt, dEq, dNe, dIn, dNotIn, dIx, dIsN, bLen, bInt, bAbs, bTuple, bList, bAny, bAll, bIsi, startD, okW, wipeD, List.map_cons, List.map_nil, List.cons_append, List.nil_append, List.getElem?_cons_zero, List.getElem?_cons_succ, List.set_cons_zero, List.set_cons_succ, List.length_cons, List.length_nil, List.replicate_succ, List.replicate_zero, List.all_cons, List.all_nil, Bool.and_true, Bool.true_and, tyn_int, tyn_bl, tyn_non, tyn_tup, tyn_lst, kit_ii, kit_ib, kit_tt, kit_ll, kit_lt, kit_tl, flat_int, v_int, flat_row, pl_non, pl_bl, pl_int, pl_tup, pl_lst, eqb_int, eqb_nil, eqb_non, D.isN, ne_eq, not_false_eq_true, true_and, and_true, if_true, if_false, Bool.false_eq_true, reduceCtorEq, String.reduceEq, Bool.not_true, Bool.not_false, Bool.or_false, Bool.false_or, Bool.or_true, Bool.true_or, Nat.zero_add, Nat.reduceAdd, Nat.reduceLeDiff, Nat.reduceSub, Nat.reduceEqDiff, kRng2, kExt, dNotN, List.append_nil]
  refine ⟨cs, _, rfl, by simp, by decide, by omega, fun d hd n1 hn1 => ?_⟩
  have hw : ∃ w : Nat, d = .int w ∧ w ≤ 3 := by
    simp only [List.mem_cons, List.not_mem_nil, or_false] at hd
    rcases hd with rfl | rfl | rfl | rfl | rfl
    · exact ⟨1, rfl, by decide⟩
    · exact ⟨2, rfl, by decide⟩
    · exact ⟨2, rfl, by decide⟩
    · exact ⟨3, rfl, by decide⟩
    · exact ⟨0, rfl, by decide⟩
  obtain ⟨w, rfl, hw⟩ := hw
  refine ⟨cs, o, rfl, ho, by omega, fun d2 a2 c2 n2 hn2 => ?_⟩
  have app : ∀ (r : List Bool) (n' : Nat), r.length ≤ 3 → n' ≤ n + 3 → (rs.map rowD).length < 1000000 ∧ X [.val (.pen cs), .val (.int k), .own (rs.map rowD ++ [rowD r]), .val (.int o), .val x, .val (.int w)] n' := by
    intro r n' hr hn'
    have := h r n' (.val (.int w)) hr hn'
    rw [List.map_append] at this
    exact ⟨by rw [List.length_map]; omega, this⟩
  split
  · refine ⟨w, rfl, hw, cs, _, rfl, ?_, ?_, by omega, fun e he n3 hn3 => ?_⟩
    · rcases (show w = 0 ∨ w = 1 ∨ w = 2 ∨ w = 3 by omega) with rfl | rfl | rfl | rfl <;> simp [allRows]
    · rcases (show w = 0 ∨ w = 1 ∨ w = 2 ∨ w = 3 by omega) with rfl | rfl | rfl | rfl <;> decide
    · obtain ⟨r, hr, rfl⟩ := List.mem_map.mp he
      have len : ∀ r ∈ allRows w, r.length ≤ 3 := by
        rcases (show w = 0 ∨ w = 1 ∨ w = 2 ∨ w = 3 by omega) with rfl | rfl | rfl | rfl <;> decide
      exact app r n3 (len r hr) (by omega)
  · rcases (show w = 0 ∨ w = 1 ∨ w = 2 ∨ w = 3 by omega) with rfl | rfl | rfl | rfl
    · exact ⟨.inr (.inr ⟨rfl, by simp⟩), app [] n2 (by decide) (by omega)⟩
    · exact ⟨.inl rfl, app [false] n2 (by decide) (by omega)⟩
    · exact ⟨.inr (.inl ⟨by decide, by decide⟩), app [false, false] n2 (by decide) (by omega)⟩
    · exact ⟨.inr (.inl ⟨by decide, by decide⟩), app [false, false, false] n2 (by decide) (by omega)⟩
theorem ls_loop (E : DEnds) (k : Nat) (cs : List Int) (o : Int) (ho : 0 < o ∧ o < 1073741824) : ∀ (ds : List D) (n : Nat) (rs : List (List Bool)) (s4 s5 : Sl), n + 3 * ds.length ≤ 80000 → rs.length + ds.length ≤ 1000 → (∀ r ∈ rs, r.length ≤ 3) →
    (∀ (rs' : List (List Bool)) (n' : Nat) (s4 s5 : Sl), rs'.length = rs.length + ds.length → (∀ r ∈ rs', r.length ≤ 3) → n' ≤ n + 3 * ds.length → E.nx [.val (.pen cs), .val (.int k), .own (rs'.map rowD), .val (.int o), s4, s5] n') →
    kFors kg_law_steps_1 kb_law_steps_2 E ds [.val (.pen cs), .val (.int k), .own (rs.map rowD), .val (.int o), s4, s5] n
  | [], n, rs, s4, s5, h1, h2, h3, q => q rs n s4 s5 rfl h3 (Nat.le_refl _)
  | d :: ds, n, rs, s4, s5, h1, h2, h3, q => by
    rw [List.length_cons] at h1 h2 q
    rw [fors_cons]
    refine ls_step E n k cs d o rs s4 s5 _ ho (by omega) (by omega) fun r n' s5 hr hn' => ?_
    refine ls_loop E k cs o ho ds n' (rs ++ [r]) (.val d) s5 (by omega) (by rw [List.length_append, List.length_singleton]; omega) (fun r' h' => ?_) (fun rs' n2 s4 s5 e1 e2 e3 => q rs' n2 s4 s5 (by rw [e1, List.length_append, List.length_singleton]; omega) e2 (by omega))
    rcases List.mem_append.mp h' with y | y
    · exact h3 r' y
    · rw [List.mem_singleton.mp y]; exact hr
theorem m_law_steps : ∀ ds n Q, c_law_steps ds n Q → kb_law_steps ⟨fun _ n' => Q .non n', Q, fun _ _ => False, fun _ _ => False⟩ (startD ["pen", "many", "found", "often", "turn", "width"] ds) n := by
  rintro ds n Q ⟨cs, k, rfl, h1, h2, q⟩
  simp only [kb_law_steps, kParO, c_law_draw, kSeq, kAsg, kRet, kIfS, kDrop, kNext, kNever, kOwnS, kApp, kSub, kPar, kAndV_e, kOrV_e, kNotV, kAndT, kOrT, kNotT, kTest_e, isB_bl, kBin, kUn, kChain_e, condV, kCall, kCons, kNil, kTup, kLst, kLstO, kOut, kCompO, kIter, kEnum, kZip, kRng1, DL.kV, kB, kC, kIf, kStar, kSl, kPart, kNoPart, kFn, kFnK, kIsi2, kFor, gN, gTupD, gsCons, gsNil, kYes, dNeg, dAdd, dSub, dMod, dDiv, dMul, dPow, dCmp, dInt, dEq, dNe, dIn, dNotIn, dIx, dIsN, bLen, bInt, bAbs, bTuple, bList, bAny, bAll, bIsi, startD, okW, wipeD, List.map_cons, List.map_nil, List.cons_append, List.nil_append, List.getElem?_cons_zero, List.getElem?_cons_succ, List.set_cons_zero, List.set_cons_succ, List.length_cons, List.length_nil, List.replicate_succ, List.replicate_zero, List.all_cons, List.all_nil, Bool.and_true, Bool.true_and, tyn_int, tyn_bl, tyn_non, tyn_tup, tyn_lst, kit_ii, kit_ib, kit_tt, kit_ll, kit_lt, kit_tl, flat_int, v_int, flat_row, pl_non, pl_bl, pl_int, pl_tup, pl_lst, eqb_int, eqb_nil, eqb_non, D.isN, ne_eq, not_false_eq_true, true_and, and_true, if_true, if_false, Bool.false_eq_true, reduceCtorEq, String.reduceEq, Bool.not_true, Bool.not_false, Bool.or_false, Bool.false_or, Bool.or_true, Bool.true_or, Nat.zero_add, Nat.reduceAdd, Nat.reduceLeDiff, Nat.reduceSub, Nat.reduceEqDiff, kRng2, kExt, dNotN, List.append_nil]
  refine ⟨cs, 4, rfl, ⟨by decide, by decide⟩, by omega, fun d a c n1 hn1 => ?_⟩
  refine ⟨by omega, ?_⟩
  refine ls_loop _ k cs (2 + d) ⟨by omega, by omega⟩ _ n1 [] _ _ (by rw [rngD_len]; omega) (by rw [rngD_len, List.length_nil]; omega) (fun r hr => by cases hr) fun rs n2 s4 s5 e1 e2 e3 => ?_
  rw [rngD_len, List.length_nil, Nat.zero_add] at e1
  rw [rngD_len] at e3
  simp only [kSeq, kAsg, kRet, kIfS, kDrop, kNext, kNever, kOwnS, kApp, kSub, kPar, kAndV_e, kOrV_e, kNotV, kAndT, kOrT, kNotT, kTest_e, isB_bl, kBin, kUn, kChain_e, condV, kCall, kCons, kNil, kTup, kLst, kLstO, kOut, kCompO, kIter, kEnum, kZip, kRng1, DL.kV, kB, kC, kIf, kStar, kSl, kPart, kNoPart, kFn, kFnK, kIsi2, kFor, gN, gTupD, gsCons, gsNil, kYes, dNeg, dAdd, dSub, dMod, dDiv, dMul, dPow, dCmp, dInt, dEq, dNe, dIn, dNotIn, dIx, dIsN, bLen, bInt, bAbs, bTuple, bList, bAny, bAll, bIsi, startD, okW, wipeD, List.map_cons, List.map_nil, List.cons_append, List.nil_append, List.getElem?_cons_zero, List.getElem?_cons_succ, List.set_cons_zero, List.set_cons_succ, List.length_cons, List.length_nil, List.replicate_succ, List.replicate_zero, List.all_cons, List.all_nil, Bool.and_true, Bool.true_and, tyn_int, tyn_bl, tyn_non, tyn_tup, tyn_lst, kit_ii, kit_ib, kit_tt, kit_ll, kit_lt, kit_tl, flat_int, v_int, flat_row, pl_non, pl_bl, pl_int, pl_tup, pl_lst, eqb_int, eqb_nil, eqb_non, D.isN, ne_eq, not_false_eq_true, true_and, and_true, if_true, if_false, Bool.false_eq_true, reduceCtorEq, String.reduceEq, Bool.not_true, Bool.not_false, Bool.or_false, Bool.false_or, Bool.or_true, Bool.true_or, Nat.zero_add, Nat.reduceAdd, Nat.reduceLeDiff, Nat.reduceSub, Nat.reduceEqDiff, kRng2, kExt, dNotN, List.append_nil]
  exact q rs n2 (by omega) e2 (by omega)
end L78
namespace L78
/-! ### the plain law: short bursts -/
def lastD : Int → List Int → Int
  | p, [] => p
  | _, x :: X => lastD x X
def okR (b g : Int) : Int → Int → List Int → Prop
  | f, l, [] => l - f < b
  | f, l, x :: X => if g < x - l then l - f < b ∧ okR b g x x X else okR b g f x X
def okW (b g : Int) : List Int → Prop
  | [] => True
  | x :: X => okR b g x x X
theorem parted_ok (b g : Int) : ∀ (X : List Int) (acc : List (Int × Int)) (f l : Int), (∀ p ∈ parted g (acc ++ [(f, l)]) X, p.2 - p.1 < b) ↔ (∀ p ∈ acc, p.2 - p.1 < b) ∧ okR b g f l X
  | [], acc, f, l => by
    show (∀ p ∈ acc ++ [(f, l)], p.2 - p.1 < b) ↔ (∀ p ∈ acc, p.2 - p.1 < b) ∧ l - f < b
    constructor
    · exact fun h => ⟨fun p hp => h p (List.mem_append_left _ hp), h (f, l) (List.mem_append_right _ (List.mem_singleton.mpr rfl))⟩
    · rintro ⟨h1, h2⟩ p hp
      rcases List.mem_append.mp hp with h | h
      · exact h1 p h
      · rw [List.mem_singleton.mp h]; exact h2
  | x :: X, acc, f, l => by
    show (∀ p ∈ parted g (part1 g x (acc ++ [(f, l)])) X, p.2 - p.1 < b) ↔ (∀ p ∈ acc, p.2 - p.1 < b) ∧ if g < x - l then l - f < b ∧ okR b g x x X else okR b g f x X
    rw [part1_end]
    by_cases z : g < x - l
    · rw [if_neg (by show ¬ (x - l - 1 < g); omega), if_pos z]
      have ih := parted_ok b g X (acc ++ [(f, l)]) x x
      rw [List.append_assoc] at ih
      have e : ([(f, l)] : List (Int × Int)) ++ [(x, x)] = [(f, l), (x, x)] := rfl
      rw [e] at ih
      rw [ih]
      constructor
      · rintro ⟨h1, h2⟩
        exact ⟨fun p hp => h1 p (List.mem_append_left _ hp), h1 (f, l) (List.mem_append_right _ (List.mem_singleton.mpr rfl)), h2⟩
      · rintro ⟨h1, h2, h3⟩
        refine ⟨fun p hp => ?_, h3⟩
        rcases List.mem_append.mp hp with h | h
        · exact h1 p h
        · rw [List.mem_singleton.mp h]; exact h2
    · rw [if_pos (by show x - l - 1 < g; omega), if_neg z]
      exact parted_ok b g X acc f x
theorem mild_iff (b g : Int) (W : List Int) : mild b g W = true ↔ okW b g W := by
  have e : mild b g W = true ↔ ∀ p ∈ parted g [] W, p.2 - p.1 < b := by
    unfold mild
    rw [Bool.not_eq_true', Bool.eq_false_iff, ne_eq, List.any_eq_true]
    constructor
    · intro h p hp
      refine Int.not_le.mp fun z => h ⟨p, hp, decide_eq_true z⟩
    · rintro h ⟨p, hp, z⟩
      exact Int.not_le.mpr (h p hp) (of_decide_eq_true z)
  rw [e]
  cases W with
  | nil => exact ⟨fun _ => trivial, fun _ p hp => by cases hp⟩
  | cons x X =>
    have := parted_ok b g X [] x x
    constructor
    · exact fun h => (this.mp h).2
    · exact fun h => this.mpr ⟨(fun p hp => by cases hp), h⟩
theorem okR_mono (b g : Int) : ∀ (X : List Int) (f f' l : Int), f ≤ f' → okR b g f l X → okR b g f' l X
  | [], f, f', l, h, k => by
    have k : l - f < b := k
    show l - f' < b
    omega
  | x :: X, f, f', l, h, k => by
    have k : if g < x - l then l - f < b ∧ okR b g x x X else okR b g f x X := k
    show if g < x - l then l - f' < b ∧ okR b g x x X else okR b g f' x X
    split
    · rename_i z
      rw [if_pos z] at k
      exact ⟨by omega, k.2⟩
    · rename_i z
      rw [if_neg z] at k
      exact okR_mono b g X f f' x h k
theorem okR_here (b g : Int) : ∀ (X : List Int) (f l : Int), (l :: X).Pairwise (· < ·) → okR b g f l X → l - f < b
  | [], f, l, _, k => k
  | x :: X, f, l, h, k => by
    obtain ⟨h1, h2⟩ := List.pairwise_cons.mp h
    have := h1 x (List.mem_cons_self ..)
    have k : if g < x - l then l - f < b ∧ okR b g x x X else okR b g f x X := k
    split at k
    · exact k.1
    · have := okR_here b g X f x h2 k
      omega
/-- one step less -/
theorem okR_less (b g : Int) : ∀ (A : List Int) (x : Int) (B : List Int) (f l : Int), f ≤ l → (l :: (A ++ x :: B)).Pairwise (· < ·) → okR b g f l (A ++ x :: B) → okR b g f l (A ++ B)
  | [], x, B, f, l, hfl, h, k => by
    obtain ⟨h1, h2⟩ := List.pairwise_cons.mp h
    have hx := h1 x (List.mem_cons_self ..)
    have k : if g < x - l then l - f < b ∧ okR b g x x B else okR b g f x B := k
    cases B with
    | nil =>
      show l - f < b
      split at k
      · exact k.1
      · have k : x - f < b := k
        omega
    | cons y B =>
      have hy := (List.pairwise_cons.mp h2).1 y (List.mem_cons_self ..)
      have h3 := (List.pairwise_cons.mp h2).2
      show if g < y - l then l - f < b ∧ okR b g y y B else okR b g f y B
      by_cases z : g < x - l
      · rw [if_pos z] at k
        have k2 : if g < y - x then x - x < b ∧ okR b g y y B else okR b g x y B := k.2
        rw [if_pos (by omega)]
        refine ⟨k.1, ?_⟩
        split at k2
        · exact k2.2
        · exact okR_mono b g B x y y (by omega) k2
      · rw [if_neg z] at k
        have k2 : if g < y - x then x - f < b ∧ okR b g y y B else okR b g f y B := k
        split at k2
        · rw [if_pos (by omega)]
          exact ⟨by omega, k2.2⟩
        · split
          · have := okR_here b g B f y h3 k2
            exact ⟨by omega, okR_mono b g B f y y (by omega) k2⟩
          · exact k2
  | a :: A, x, B, f, l, hfl, h, k => by
    have hla := (List.pairwise_cons.mp h).1 a (List.mem_cons_self ..)
    obtain ⟨h1, h2⟩ := List.pairwise_cons.mp h
    have k : if g < a - l then l - f < b ∧ okR b g a a (A ++ x :: B) else okR b g f a (A ++ x :: B) := k
    show if g < a - l then l - f < b ∧ okR b g a a (A ++ B) else okR b g f a (A ++ B)
    split
    · rename_i z
      rw [if_pos z] at k
      exact ⟨k.1, okR_less b g A x B a a (Int.le_refl _) h2 k.2⟩
    · rename_i z
      rw [if_neg z] at k
      exact okR_less b g A x B f a (by omega) h2 k
theorem okW_less (b g : Int) (A : List Int) (x : Int) (B : List Int) (h : (A ++ x :: B).Pairwise (· < ·)) (k : okW b g (A ++ x :: B)) : okW b g (A ++ B) := by
  cases A with
  | nil =>
    cases B with
    | nil => trivial
    | cons y B =>
      have k : if g < y - x then x - x < b ∧ okR b g y y B else okR b g x y B := k
      have hy := (List.pairwise_cons.mp h).1 y (List.mem_cons_self ..)
      show okR b g y y B
      split at k
      · exact k.2
      · exact okR_mono b g B x y y (by omega) k
  | cons a A => exact okR_less b g A x B a a (Int.le_refl _) h k
end L78
namespace L78
def apart (g l : Int) (R : List Int) : Prop := R = [] ∨ ∃ r R', R = r :: R' ∧ g < r - l
theorem lastD_ge : ∀ (X : List Int) (l : Int), (l :: X).Pairwise (· < ·) → l ≤ lastD l X
  | [], l, _ => Int.le_refl _
  | x :: X, l, h => by
    obtain ⟨h1, h2⟩ := List.pairwise_cons.mp h
    have := h1 x (List.mem_cons_self ..)
    have := lastD_ge X x h2
    show l ≤ lastD x X
    omega
theorem okR_join (b g : Int) : ∀ (X R : List Int) (f l : Int), f ≤ l → (l :: (X ++ R)).Pairwise (· < ·) → lastD l X - f < b → apart g (lastD l X) R → okW b g R → okR b g f l (X ++ R)
  | [], R, f, l, hf, h, h1, h2, h3 => by
    rcases h2 with rfl | ⟨r, R', rfl, h2⟩
    · exact h1
    · have h2 : g < r - l := h2
      show if g < r - l then l - f < b ∧ okR b g r r R' else okR b g f r R'
      rw [if_pos h2]
      exact ⟨h1, h3⟩
  | x :: X, R, f, l, hf, h, h1, h2, h3 => by
    have hlx := (List.pairwise_cons.mp h).1 x (List.mem_cons_self ..)
    have hx := (List.pairwise_cons.mp h).2
    have ge : x ≤ lastD x X := lastD_ge X x (List.pairwise_append.mp (show ((x :: X) ++ R).Pairwise (· < ·) from hx)).1
    have h1 : lastD x X - f < b := h1
    show if g < x - l then l - f < b ∧ okR b g x x (X ++ R) else okR b g f x (X ++ R)
    split
    · exact ⟨by omega, okR_join b g X R x x (Int.le_refl _) hx (by omega) h2 h3⟩
    · exact okR_join b g X R f x (by omega) hx h1 h2 h3
theorem okR_split (b g : Int) : ∀ (X : List Int) (f l : Int), okR b g f l X → ∃ Y R, X = Y ++ R ∧ lastD l Y - f < b ∧ apart g (lastD l Y) R ∧ okW b g R
  | [], f, l, h => ⟨[], [], rfl, h, .inl rfl, trivial⟩
  | x :: X, f, l, h => by
    have h : if g < x - l then l - f < b ∧ okR b g x x X else okR b g f x X := h
    split at h
    · rename_i z
      exact ⟨[], x :: X, rfl, h.1, .inr ⟨x, X, rfl, z⟩, h.2⟩
    · obtain ⟨Y, R, e, h1, h2, h3⟩ := okR_split b g X f x h
      exact ⟨x :: Y, R, by rw [e]; rfl, h1, h2, h3⟩
theorem lastD_take : ∀ (V : List Int) (w : Int) (i : Nat), i ≤ V.length → lastD w (V.take i) = (w :: V).getD i 0
  | _, _, 0, _ => rfl
  | [], _, i + 1, h => by simp at h
  | v :: V, w, i + 1, h => by
    show lastD v (V.take i) = (v :: V).getD i 0
    exact lastD_take V v i (by simpa using h)
theorem drop_head (V : List Int) (i : Nat) (h : i < V.length) : ∃ R', V.drop i = V.getD i 0 :: R' := by
  refine ⟨V.drop (i + 1), ?_⟩
  rw [List.drop_eq_getElem_cons h, List.getD_eq_getElem?_getD, List.getElem?_eq_getElem h]
  rfl
theorem can_ok (b g : Int) : ∀ (N : Nat) (W : List Int), W.length ≤ N → W.Pairwise (· < ·) → (canP b g N W = true ↔ okW b g W)
  | 0, W, hl, hi => by
    have : W = [] := List.eq_nil_of_length_eq_zero (by omega)
    subst this
    exact ⟨fun _ => trivial, fun _ => rfl⟩
  | N + 1, [], hl, hi => ⟨fun _ => trivial, fun _ => rfl⟩
  | N + 1, w :: V, hl, hi => by
    have e : canP b g (N + 1) (w :: V) = (List.range' 0 (w :: V).length).any (canStep b g N (w :: V)) := rfl
    rw [e, List.any_eq_true]
    rw [List.length_cons] at hl
    have sub : ∀ i, (V.drop i).length ≤ N ∧ (V.drop i).Pairwise (· < ·) := fun i => ⟨by rw [List.length_drop]; omega, (List.pairwise_cons.mp hi).2.sublist (List.drop_sublist i V)⟩
    constructor
    · rintro ⟨i, him, st⟩
      have hi1 : i < V.length + 1 := by
        obtain ⟨j, hj, e⟩ := List.mem_range'.mp him
        rw [List.length_cons] at hj
        omega
      unfold canStep at st
      rw [Bool.and_eq_true, Bool.and_eq_true, Bool.or_eq_true, decide_eq_true_iff, decide_eq_true_iff, decide_eq_true_iff] at st
      obtain ⟨⟨c1, c2⟩, c3⟩ := st
      have hd : (w :: V).drop (i + 1) = V.drop i := rfl
      rw [hd] at c3
      have ok := (can_ok b g N (V.drop i) (sub i).1 (sub i).2).mp c3
      have lt := lastD_take V w i (by omega)
      have e1 : V = V.take i ++ V.drop i := (List.take_append_drop i V).symm
      show okR b g w w V
      rw [e1]
      refine okR_join b g _ _ w w (Int.le_refl _) (by rw [← e1]; exact hi) (by rw [lt]; exact c1) ?_ ok
      by_cases hz : i = V.length
      · left
        rw [hz]
        exact List.drop_length ..
      · obtain ⟨R', hR⟩ := drop_head V i (by omega)
        refine .inr ⟨_, R', hR, ?_⟩
        rw [lt]
        rcases c2 with c2 | c2
        · rw [List.length_cons] at c2; omega
        · exact c2
    · intro h
      obtain ⟨Y, R, e1, h1, h2, h3⟩ := okR_split b g V w w h
      have eY : V.take Y.length = Y := by rw [e1]; exact List.take_left ..
      have eR : V.drop Y.length = R := by rw [e1]; exact List.drop_left ..
      have lY : Y.length ≤ V.length := by rw [e1, List.length_append]; omega
      have lt := lastD_take V w Y.length lY
      rw [eY] at lt
      refine ⟨Y.length, List.mem_range'.mpr ⟨Y.length, by rw [List.length_cons]; omega, by omega⟩, ?_⟩
      unfold canStep
      rw [Bool.and_eq_true, Bool.and_eq_true, Bool.or_eq_true, decide_eq_true_iff, decide_eq_true_iff, decide_eq_true_iff]
      have hd : (w :: V).drop (Y.length + 1) = R := eR
      rw [hd]
      have sb := sub Y.length
      rw [eR] at sb
      refine ⟨⟨by rw [← lt]; exact h1, ?_⟩, (can_ok b g N R sb.1 sb.2).mpr h3⟩
      rcases h2 with rfl | ⟨r, R', rfl, h2⟩
      · left
        rw [List.append_nil] at e1
        rw [e1, List.length_cons]
      · right
        rw [← lt]
        have : (w :: V).getD (Y.length + 1) 0 = r := by
          show V.getD Y.length 0 = r
          rw [e1, List.getD_eq_getElem?_getD, List.getElem?_append_right (Nat.le_refl _), Nat.sub_self]
          rfl
        rw [this]
        exact h2
end L78
namespace L78
theorem posn_bd : ∀ (bs : List Bool) (k : Int), (posn k bs).Pairwise (· < ·) ∧ ∀ x ∈ posn k bs, k ≤ x ∧ x < k + bs.length
  | [], k => ⟨.nil, fun x hx => by cases hx⟩
  | b :: bs, k => by
    obtain ⟨h1, h2⟩ := posn_bd bs (k + 1)
    rw [posn_cons, List.length_cons]
    split
    · refine ⟨List.pairwise_cons.mpr ⟨fun x hx => by have := h2 x hx; omega, h1⟩, fun x hx => ?_⟩
      rcases List.mem_cons.mp hx with rfl | hx
      · omega
      · have := h2 x hx; omega
    · exact ⟨h1, fun x hx => by have := h2 x hx; omega⟩
def phS (b g : Int) (o : Option (Int × Int)) (w : Bool) : Option (Int × Int) := match o with
  | none => none
  | some p => after b g p w
theorem phS_none (b g : Int) : ∀ hs : List Bool, hs.foldl (phS b g) none = none
  | [] => rfl
  | h :: hs => phS_none b g hs
/-- where a walk stands ahead of the step k, and what it still asks -/
def St (b g k : Int) (p : Int × Int) (OK : List Int → Prop) : Prop :=
  (p = (0, 0) ∧ OK = okW b g) ∨ ∃ f l, f ≤ l ∧ l < k ∧ l - f < b ∧ p = (if k - f < b then k - f else b, k - 1 - l) ∧ k - 1 - l < g ∧ OK = okR b g f l
theorem okR_far {b g f l : Int} {X : List Int} (h : l - f < b) (hx : ∀ x ∈ X, g < x - l) : okR b g f l X ↔ okW b g X := by
  cases X with
  | nil => exact ⟨fun _ => trivial, fun _ => h⟩
  | cons x X =>
    have z := hx x (List.mem_cons_self ..)
    show (if g < x - l then l - f < b ∧ okR b g x x X else okR b g f x X) ↔ okR b g x x X
    rw [if_pos z]
    exact ⟨fun y => y.2, fun y => ⟨h, y⟩⟩
theorem step_on {b g k : Int} {p : Int × Int} {OK : List Int → Prop} (hb : 1 ≤ b) (hg : 0 < g) (h : St b g k p OK) : (∃ p' OK', after b g p true = some p' ∧ St b g (k + 1) p' OK' ∧ ∀ X, OK (k :: X) ↔ OK' X) ∨ (after b g p true = none ∧ ∀ X, (k :: X).Pairwise (· < ·) → ¬ OK (k :: X)) := by
  have ng : ¬ g = 0 := by omega
  rcases h with ⟨rfl, rfl⟩ | ⟨f, l, h1, h2, h3, rfl, h5, rfl⟩
  · left
    refine ⟨(1, 0), okR b g k k, ?_, ?_, fun X => Iff.rfl⟩
    · unfold after
      rw [if_neg ng, if_pos rfl, if_pos (by show (0 : Int) < b; omega)]
      rfl
    · refine .inr ⟨k, k, Int.le_refl _, by omega, by omega, ?_, by omega, rfl⟩
      congr 1
      · split <;> omega
      · omega
  · by_cases z : k - f < b
    · left
      refine ⟨(k - f + 1, 0), okR b g f k, ?_, ?_, fun X => ?_⟩
      · unfold after
        rw [if_neg ng, if_pos rfl]
        show (if (if k - f < b then k - f else b) < b then some ((if k - f < b then k - f else b) + 1, 0) else none) = _
        rw [if_pos z, if_pos z]
      · refine .inr ⟨f, k, by omega, by omega, z, ?_, by omega, rfl⟩
        congr 1
        · split <;> omega
        · omega
      · show (if g < k - l then l - f < b ∧ okR b g k k X else okR b g f k X) ↔ okR b g f k X
        rw [if_neg (by omega)]
    · right
      refine ⟨?_, fun X hX hk => ?_⟩
      · unfold after
        rw [if_neg ng, if_pos rfl]
        show (if (if k - f < b then k - f else b) < b then some ((if k - f < b then k - f else b) + 1, 0) else none) = _
        rw [if_neg z, if_neg (by omega)]
      · have hk : if g < k - l then l - f < b ∧ okR b g k k X else okR b g f k X := hk
        rw [if_neg (by omega)] at hk
        have := okR_here b g X f k hX hk
        omega
theorem step_off {b g k : Int} {p : Int × Int} {OK : List Int → Prop} (hb : 1 ≤ b) (hg : 0 < g) (h : St b g k p OK) : ∃ p' OK', after b g p false = some p' ∧ St b g (k + 1) p' OK' ∧ ∀ X, (∀ x ∈ X, k + 1 ≤ x) → (OK X ↔ OK' X) := by
  have ng : ¬ g = 0 := by omega
  rcases h with ⟨rfl, rfl⟩ | ⟨f, l, h1, h2, h3, rfl, h5, rfl⟩
  · refine ⟨(0, 0), okW b g, ?_, .inl ⟨rfl, rfl⟩, fun X _ => Iff.rfl⟩
    unfold after
    rw [if_neg ng, if_neg Bool.false_ne_true, if_pos (.inl rfl)]
  · have a1 : ¬ ((if k - f < b then k - f else b) = 0) := by split <;> omega
    by_cases z : k - 1 - l + 1 = g
    · refine ⟨(0, 0), okW b g, ?_, .inl ⟨rfl, rfl⟩, fun X hX => okR_far h3 fun x hx => by have := hX x hx; omega⟩
      unfold after
      rw [if_neg ng, if_neg Bool.false_ne_true, if_pos (.inr z)]
    · refine ⟨(if k + 1 - f < b then k + 1 - f else b, k - l), okR b g f l, ?_, ?_, fun X _ => Iff.rfl⟩
      · unfold after
        rw [if_neg ng, if_neg Bool.false_ne_true, if_neg (by rintro (y | y); exact a1 y; exact z y)]
        show some (if (if k - f < b then k - f else b) < b then (if k - f < b then k - f else b) + 1 else b, k - 1 - l + 1) = _
        congr 2
        · by_cases y : k - f < b
          · rw [if_pos y, if_pos y]
            split <;> omega
          · rw [if_neg y, if_neg (by omega), if_neg (by omega)]
        · omega
      · refine .inr ⟨f, l, h1, by omega, h3, ?_, by omega, rfl⟩
        congr 1
        omega
theorem walk_ok {b g : Int} (hb : 1 ≤ b) (hg : 0 < g) : ∀ (hs : List Bool) (k : Int) (p : Int × Int) (OK : List Int → Prop), St b g k p OK → ((hs.foldl (phS b g) (some p)).isSome = true ↔ OK (posn k hs))
  | [], k, p, OK, h => by
    rcases h with ⟨rfl, rfl⟩ | ⟨f, l, h1, h2, h3, rfl, h5, rfl⟩
    · exact ⟨fun _ => trivial, fun _ => rfl⟩
    · exact ⟨fun _ => h3, fun _ => rfl⟩
  | w :: hs, k, p, OK, h => by
    obtain ⟨p1, p2⟩ := posn_bd hs (k + 1)
    have inc : (k :: posn (k + 1) hs).Pairwise (· < ·) := List.pairwise_cons.mpr ⟨fun x hx => by have := p2 x hx; omega, p1⟩
    show (hs.foldl (phS b g) (after b g p w)).isSome = true ↔ _
    rw [posn_cons]
    cases w with
    | true =>
      rw [if_pos rfl]
      rcases step_on hb hg h with ⟨p', OK', e, st, eq⟩ | ⟨e, no⟩
      · rw [e, eq]
        exact walk_ok hb hg hs (k + 1) p' OK' st
      · rw [e, phS_none]
        exact ⟨(fun y => by cases y), fun y => (no _ inc y).elim⟩
    | false =>
      rw [if_neg Bool.false_ne_true]
      obtain ⟨p', OK', e, st, eq⟩ := step_off hb hg h
      rw [e, eq _ fun x hx => (p2 x hx).1]
      exact walk_ok hb hg hs (k + 1) p' OK' st
end L78
namespace L78
abbrev mostA (b g a : Nat) : Nat := if a = b ∨ g < a then g else a
theorem mem_age (b g a : Nat) (x : Int × Int) : x ∈ ageL b g a ↔ ∃ c : Nat, c < mostA b g a ∧ x = ((a : Int), (c : Int)) := by
  unfold ageL
  rw [List.mem_map]
  constructor
  · rintro ⟨c, hc, rfl⟩
    obtain ⟨i, hi, rfl⟩ := List.mem_range'.mp hc
    exact ⟨0 + 1 * i, by rw [Nat.zero_add, Nat.one_mul]; exact hi, rfl⟩
  · rintro ⟨c, hc, rfl⟩
    exact ⟨c, List.mem_range'.mpr ⟨c, hc, by rw [Nat.zero_add, Nat.one_mul]⟩, rfl⟩
theorem mem_phases (b g : Nat) (hg : 0 < g) (x : Int × Int) : x ∈ phasesL b g ↔ x = (0, 0) ∨ ∃ a c : Nat, 1 ≤ a ∧ a ≤ b ∧ c < mostA b g a ∧ x = ((a : Int), (c : Int)) := by
  unfold phasesL
  rw [if_pos hg, List.mem_cons, List.mem_flatMap]
  constructor
  · rintro (h | ⟨a, ha, hx⟩)
    · exact .inl h
    · obtain ⟨i, hi, rfl⟩ := List.mem_range'.mp ha
      obtain ⟨c, hc, rfl⟩ := (mem_age ..).mp hx
      exact .inr ⟨_, c, by omega, by omega, hc, rfl⟩
  · rintro (h | ⟨a, c, h1, h2, hc, rfl⟩)
    · exact .inl h
    · exact .inr ⟨a, List.mem_range'.mpr ⟨a - 1, by omega, by omega⟩, (mem_age ..).mpr ⟨c, hc, rfl⟩⟩
theorem st_mem {b g : Nat} {k : Int} {p : Int × Int} {OK : List Int → Prop} (hb : 1 ≤ b) (hg : 0 < g) (h : St b g k p OK) : p ∈ phasesL b g := by
  rw [mem_phases b g hg]
  rcases h with ⟨rfl, _⟩ | ⟨f, l, h1, h2, h3, rfl, h5, _⟩
  · exact .inl rfl
  · right
    by_cases z : k - f < b
    · refine ⟨(k - f).toNat, (k - 1 - l).toNat, by omega, by omega, ?_, ?_⟩
      · unfold mostA
        split <;> omega
      · rw [if_pos z]
        congr 1 <;> omega
    · refine ⟨b, (k - 1 - l).toNat, hb, Nat.le_refl _, ?_, ?_⟩
      · unfold mostA
        rw [if_pos (.inl rfl)]
        omega
      · rw [if_neg z]
        congr 1
        omega
theorem nodup_le {α : Type} [DecidableEq α] : ∀ (A B : List α), A.Nodup → (∀ x ∈ A, x ∈ B) → A.length ≤ B.length
  | [], B, _, _ => Nat.zero_le _
  | x :: A, B, h, hs => by
    obtain ⟨h1, h2⟩ := List.nodup_cons.mp h
    have hx := hs x (List.mem_cons_self ..)
    have ih := nodup_le A (B.erase x) h2 fun y hy => (List.mem_erase_of_ne (fun e => h1 (by rw [← e]; exact hy))).mpr (hs y (List.mem_cons_of_mem _ hy))
    rw [List.length_erase_of_mem hx] at ih
    have := List.length_pos_of_mem hx
    rw [List.length_cons]
    omega
end L78
namespace L78
theorem after_mem {b g : Nat} (hb : 1 ≤ b) (hg : 0 < g) {p q : Int × Int} {w : Bool} (hp : p ∈ phasesL b g) (e : after b g p w = some q) : q ∈ phasesL b g := by
  rw [mem_phases b g hg] at hp ⊢
  unfold after at e
  rw [if_neg (by omega)] at e
  cases w with
  | true =>
    rw [if_pos rfl] at e
    split at e
    · rename_i z
      cases e
      right
      rcases hp with rfl | ⟨a, c, h1, h2, h3, rfl⟩
      · refine ⟨1, 0, Nat.le_refl _, hb, ?_, rfl⟩
        unfold mostA; split <;> omega
      · have z : (a : Int) < b := z
        refine ⟨a + 1, 0, by omega, by omega, ?_, rfl⟩
        unfold mostA; split <;> omega
    · cases e
  | false =>
    rw [if_neg Bool.false_ne_true] at e
    split at e
    · cases e; exact .inl rfl
    · rename_i z
      cases e
      right
      rcases hp with rfl | ⟨a, c, h1, h2, h3, rfl⟩
      · exact absurd (.inl rfl) z
      · have z2 : ¬ ((c : Int) + 1 = g) := fun y => z (.inr y)
        unfold mostA at h3
        by_cases y : a < b
        · refine ⟨a + 1, c + 1, by omega, by omega, ?_, ?_⟩
          · unfold mostA
            split at h3 <;> split <;> omega
          · show (if (a : Int) < b then (a : Int) + 1 else b, (c : Int) + 1) = _
            rw [if_pos (by omega)]; rfl
        · refine ⟨b, c + 1, hb, Nat.le_refl _, ?_, ?_⟩
          · unfold mostA
            rw [if_pos (.inl rfl)]
            split at h3 <;> omega
          · show (if (a : Int) < b then (a : Int) + 1 else b, (c : Int) + 1) = _
            rw [if_neg (by omega)]; rfl
abbrev newP (b g : Int) (found : List (Int × Int)) (p : Int × Int) : List (Int × Int) := ([after b g p false, after b g p true].filterMap id).filter fun q => !(decide (q ∈ found))
theorem new_mem {b g : Int} {found : List (Int × Int)} {p q : Int × Int} : q ∈ newP b g found p ↔ (∃ w, after b g p w = some q) ∧ q ∉ found := by
  unfold newP
  rw [List.mem_filter, List.mem_filterMap, Bool.not_eq_true', decide_eq_false_iff_not]
  constructor
  · rintro ⟨⟨o, ho, e⟩, h⟩
    have e : o = some q := e
    subst e
    simp only [List.mem_cons, List.not_mem_nil, or_false] at ho
    rcases ho with ho | ho
    · exact ⟨⟨false, ho.symm⟩, h⟩
    · exact ⟨⟨true, ho.symm⟩, h⟩
  · rintro ⟨⟨w, e⟩, h⟩
    refine ⟨⟨some q, ?_, rfl⟩, h⟩
    cases w with
    | false => rw [e]; exact List.mem_cons_self ..
    | true => rw [e]; exact List.mem_cons_of_mem _ (List.mem_cons_self ..)
theorem reach_sound {b g : Nat} (hb : 1 ≤ b) (hg : 0 < g) : ∀ k, ∀ x ∈ reachP b g k, x ∈ phasesL b g
  | 0, x, h => by
    rw [List.mem_singleton.mp h, mem_phases b g hg]
    exact .inl rfl
  | k + 1, x, h => by
    have h : x ∈ walkP b g (reachP b g k) k := h
    unfold walkP at h
    split at h
    · exact reach_sound hb hg k x h
    · rename_i p hp
      rcases List.mem_append.mp h with h | h
      · exact reach_sound hb hg k x h
      · obtain ⟨⟨w, e⟩, _⟩ := new_mem.mp h
        exact after_mem hb hg (reach_sound hb hg k p (List.mem_of_getElem? hp)) e
theorem new_nodup {b g : Nat} (hg : 0 < g) (found : List (Int × Int)) (p : Int × Int) (hp : 0 ≤ p.1 ∧ 0 ≤ p.2) : (newP b g found p).Nodup := by
  unfold newP
  refine List.Nodup.sublist List.filter_sublist ?_
  have ne : ∀ x y, after b g p false = some x → after b g p true = some y → x ≠ y := by
    intro x y h1 h2 e
    subst e
    unfold after at h1 h2
    rw [if_neg (by omega), if_neg Bool.false_ne_true] at h1
    rw [if_neg (by omega), if_pos rfl] at h2
    split at h2
    · cases h2
      split at h1
      · injection h1 with h1
        have := congrArg Prod.fst h1
        have : (0 : Int) = p.1 + 1 := this
        omega
      · injection h1 with h1
        have := congrArg Prod.snd h1
        have : p.2 + 1 = (0 : Int) := this
        omega
    · cases h2
  cases h1 : after b g p false with
  | none =>
    cases h2 : after b g p true with
    | none => exact List.nodup_nil
    | some y => simp
  | some x =>
    cases h2 : after b g p true with
    | none => simp
    | some y => simpa using ne x y h1 h2
end L78
namespace L78
theorem phases_nn {b g : Nat} (hg : 0 < g) {p : Int × Int} (h : p ∈ phasesL b g) : 0 ≤ p.1 ∧ 0 ≤ p.2 := by
  rw [mem_phases b g hg] at h
  rcases h with rfl | ⟨a, c, _, _, _, rfl⟩
  · exact ⟨Int.le_refl _, Int.le_refl _⟩
  · exact ⟨Int.natCast_nonneg a, Int.natCast_nonneg c⟩
theorem reach_nodup {b g : Nat} (hb : 1 ≤ b) (hg : 0 < g) : ∀ k, (reachP b g k).Nodup
  | 0 => by simp [reachP]
  | k + 1 => by
    show (walkP b g (reachP b g k) k).Nodup
    unfold walkP
    split
    · exact reach_nodup hb hg k
    · rename_i p hp
      have pm := reach_sound hb hg k p (List.mem_of_getElem? hp)
      refine List.nodup_append.mpr ⟨reach_nodup hb hg k, new_nodup hg _ p (phases_nn hg pm), fun x hx y hy e => ?_⟩
      subst e
      exact (new_mem.mp hy).2 hx
theorem phases_len {b g : Nat} (hb : b ≤ 8) (hg : g ≤ 24) : (phasesL b g).length ≤ 193 := by
  unfold phasesL
  split
  · rw [List.length_cons]
    have : ∀ (k a : Nat), a + k ≤ 9 → ((List.range' a k).flatMap (ageL b g)).length ≤ 24 * k := by
      intro k
      induction k with
      | zero => intro a _; exact Nat.le_refl _
      | succ k ih =>
        intro a ha
        have e : (List.range' a (k + 1)).flatMap (ageL b g) = ageL b g a ++ (List.range' (a + 1) k).flatMap (ageL b g) := rfl
        rw [e, List.length_append]
        have h1 := ageL_len b g a ⟨hg, by omega⟩
        have h2 := ih (a + 1) (by omega)
        omega
    have := this b 1 (by omega)
    omega
  · simp
theorem reach_sub (b g : Int) (k : Nat) : ∀ x ∈ reachP b g k, x ∈ reachP b g (k + 1) := by
  intro x hx
  show x ∈ walkP b g (reachP b g k) k
  unfold walkP
  split
  · exact hx
  · exact List.mem_append_left _ hx
/-- what was looked at has its followers in -/
theorem reach_done (b g : Int) : ∀ (k i : Nat) (p : Int × Int), i < k → (reachP b g k)[i]? = some p → ∀ w q, after b g p w = some q → q ∈ reachP b g k
  | 0, i, p, hi, _, _, _, _ => absurd hi (Nat.not_lt_zero _)
  | k + 1, i, p, hi, hp, w, q, e => by
    have hp : (walkP b g (reachP b g k) k)[i]? = some p := hp
    show q ∈ walkP b g (reachP b g k) k
    unfold walkP at hp ⊢
    cases ek : (reachP b g k)[k]? with
    | none =>
      rw [ek] at hp
      have hl : i < (reachP b g k).length := (List.getElem?_eq_some_iff.mp hp).1
      have hk := List.getElem?_eq_none_iff.mp ek
      exact reach_done b g k i p (by omega) hp w q e
    | some r =>
      rw [ek] at hp
      have hk : k < (reachP b g k).length := (List.getElem?_eq_some_iff.mp ek).1
      have hp : (reachP b g k ++ newP b g (reachP b g k) r)[i]? = some p := hp
      show q ∈ reachP b g k ++ newP b g (reachP b g k) r
      rw [List.getElem?_append_left (by omega)] at hp
      by_cases z : i = k
      · subst z
        rw [ek] at hp
        cases hp
        by_cases m : q ∈ reachP b g i
        · exact List.mem_append_left _ m
        · exact List.mem_append_right _ (new_mem.mpr ⟨⟨w, e⟩, m⟩)
      · exact List.mem_append_left _ (reach_done b g k i p (by omega) hp w q e)
theorem reach_closed {b g : Nat} (hb : 1 ≤ b ∧ b ≤ 8) (hg : 0 < g ∧ g ≤ 24) {p q : Int × Int} {w : Bool} (h : p ∈ reachP b g 400) (e : after b g p w = some q) : q ∈ reachP b g 400 := by
  have hl := nodup_le _ _ (reach_nodup hb.1 hg.1 400) (reach_sound hb.1 hg.1 400)
  have h2 := phases_len hb.2 hg.2
  obtain ⟨i, hi, ei⟩ := List.getElem_of_mem h
  exact reach_done b g 400 i p (by omega) (by rw [List.getElem?_eq_getElem hi, ei]) w q e
theorem reach_zero (b g : Int) : ∀ k, (0, 0) ∈ reachP b g k
  | 0 => List.mem_singleton.mpr rfl
  | k + 1 => reach_sub b g k _ (reach_zero b g k)
theorem reach_up {b g : Nat} (hb : 1 ≤ b ∧ b ≤ 8) (hg : 0 < g ∧ g ≤ 24) : ∀ d : Nat, d ≤ b → ((d : Int), (0 : Int)) ∈ reachP b g 400
  | 0, _ => reach_zero b g 400
  | d + 1, h => by
    refine reach_closed hb hg (w := true) (reach_up hb hg d (by omega)) ?_
    unfold after
    rw [if_neg (by omega), if_pos rfl, if_pos (by show (d : Int) < b; omega)]
    rfl
theorem reach_row {b g : Nat} (hb : 1 ≤ b ∧ b ≤ 8) (hg : 0 < g ∧ g ≤ 24) : ∀ c a : Nat, 1 ≤ a → a ≤ b → c < mostA b g a → ((a : Int), (c : Int)) ∈ reachP b g 400
  | 0, a, h1, h2, h3 => reach_up hb hg a h2
  | c + 1, a, h1, h2, h3 => by
    unfold mostA at h3
    by_cases z : a = b
    · subst z
      rw [if_pos (.inl rfl)] at h3
      refine reach_closed hb hg (w := false) (reach_row hb hg c a h1 h2 (by unfold mostA; rw [if_pos (.inl rfl)]; omega)) ?_
      unfold after
      rw [if_neg (by omega), if_neg Bool.false_ne_true, if_neg (by rintro (y | y) <;> (simp only at y; omega))]
      show some (if (a : Int) < a then (a : Int) + 1 else a, (c : Int) + 1) = _
      rw [if_neg (by omega)]; rfl
    · obtain ⟨d, rfl⟩ : ∃ d, a = d + 1 := ⟨a - 1, by omega⟩
      have hc : 1 ≤ d ∧ c < mostA b g d ∧ c + 1 < g := by
        unfold mostA
        split at h3
        · rename_i y
          rcases y with y | y
          · exact absurd y z
          · refine ⟨by omega, ?_, h3⟩
            split <;> omega
        · refine ⟨by omega, ?_, by omega⟩
          split <;> omega
      refine reach_closed hb hg (w := false) (reach_row hb hg c d hc.1 (by omega) hc.2.1) ?_
      unfold after
      rw [if_neg (by omega), if_neg Bool.false_ne_true, if_neg (by rintro (y | y) <;> (simp only at y; omega))]
      show some (if (d : Int) < b then (d : Int) + 1 else b, (c : Int) + 1) = _
      rw [if_pos (by omega)]; rfl
theorem reach_iff {b g : Nat} (hb : 1 ≤ b ∧ b ≤ 8) (hg : 0 < g ∧ g ≤ 24) (x : Int × Int) : x ∈ reachP b g 400 ↔ x ∈ phasesL b g := by
  refine ⟨reach_sound hb.1 hg.1 400 x, fun h => ?_⟩
  rw [mem_phases b g hg.1] at h
  rcases h with rfl | ⟨a, c, h1, h2, h3, rfl⟩
  · exact reach_zero b g 400
  · exact reach_row hb hg c a h1 h2 h3
end L78
namespace L78
theorem filter_lt (f : Nat → Int × Int) (q : Int × Int → Bool) (m : Nat) : ∀ (k s : Nat), (∀ c, q (f c) = decide (c < s + m)) → m ≤ k → ((List.range' s k).map f).filter q = (List.range' s m).map f := by
  induction m with
  | zero =>
    intro k s h _
    show ((List.range' s k).map f).filter q = []
    rw [List.filter_eq_nil_iff]
    intro x hx
    obtain ⟨c, hc, rfl⟩ := List.mem_map.mp hx
    obtain ⟨i, _, rfl⟩ := List.mem_range'.mp hc
    rw [h, decide_eq_true_iff]
    omega
  | succ m ih =>
    intro k s h hk
    obtain ⟨k', rfl⟩ : ∃ k', k = k' + 1 := ⟨k - 1, by omega⟩
    have e1 : List.range' s (k' + 1) = s :: List.range' (s + 1) k' := rfl
    have e2 : List.range' s (m + 1) = s :: List.range' (s + 1) m := rfl
    rw [e1, e2, List.map_cons, List.map_cons, List.filter_cons_of_pos (by rw [h]; exact decide_eq_true (by omega)), ih k' (s + 1) (fun c => by rw [h]; congr 1; apply propext; omega) (by omega)]
theorem row_zero {b g : Nat} (hg : 0 < g ∧ g ≤ 24) (R : List (Int × Int)) (hR : ∀ x, x ∈ R ↔ x ∈ phasesL b g) : toldRow g R 0 = [(0, 0)] := by
  have := filter_lt (fun c : Nat => (((0 : Nat) : Int), (c : Int))) (fun q => decide (q ∈ R)) 1 (g + 1) 0 (fun c => by
    rw [decide_eq_decide, hR, mem_phases b g hg.1]
    constructor
    · rintro (h | ⟨a, c', h1, _, _, e⟩)
      · have := congrArg Prod.snd h
        have : (c : Int) = 0 := this
        omega
      · have := congrArg Prod.fst e
        have : ((0 : Nat) : Int) = (a : Int) := this
        omega
    · intro h
      have : c = 0 := by omega
      subst this
      exact .inl rfl) (by omega)
  exact this
theorem row_age {b g : Nat} (hg : 0 < g ∧ g ≤ 24) (R : List (Int × Int)) (hR : ∀ x, x ∈ R ↔ x ∈ phasesL b g) (a : Nat) (h1 : 1 ≤ a) (h2 : a ≤ b) : toldRow g R a = ageL b g a := by
  have ml : mostA b g a ≤ g := by unfold mostA; split <;> omega
  have := filter_lt (fun c : Nat => ((a : Int), (c : Int))) (fun q => decide (q ∈ R)) (mostA b g a) (g + 1) 0 (fun c => by
    rw [decide_eq_decide, hR, mem_phases b g hg.1]
    constructor
    · rintro (h | ⟨a', c', _, _, h5, e⟩)
      · have := congrArg Prod.fst h
        have : (a : Int) = 0 := this
        omega
      · have e1 : (a : Int) = (a' : Int) := congrArg Prod.fst e
        have e2 : (c : Int) = (c' : Int) := congrArg Prod.snd e
        have e1 : a = a' := by omega
        have e2 : c = c' := by omega
        subst e1 e2
        omega
    · intro h
      exact .inr ⟨a, c, h1, h2, by omega, rfl⟩) (by omega)
  exact this
/-- with no guard the walk stays where it is -/
theorem reach_still (b : Int) : ∀ k, reachP b 0 k = [(0, 0)]
  | 0 => rfl
  | k + 1 => by
    show walkP b 0 (reachP b 0 k) k = _
    rw [reach_still b k]
    unfold walkP
    split
    · rfl
    · have e : ∀ p w, after b 0 p w = some (0, 0) := fun p w => by unfold after; rw [if_pos rfl]
      rw [e, e]
      rfl
theorem range_flat {α : Type} (f g : Nat → List α) : ∀ (k a : Nat), (∀ i, a ≤ i → i < a + k → f i = g i) → (List.range' a k).flatMap f = (List.range' a k).flatMap g
  | 0, a, _ => rfl
  | k + 1, a, h => by
    have e1 : ∀ f : Nat → List α, (List.range' a (k + 1)).flatMap f = f a ++ (List.range' (a + 1) k).flatMap f := fun f => rfl
    rw [e1, e1, h a (Nat.le_refl _) (by omega), range_flat f g k (a + 1) fun i h1 h2 => h i (by omega) (by omega)]
theorem range_nil {α : Type} (f : Nat → List α) : ∀ (k a : Nat), (∀ i, a ≤ i → f i = []) → (List.range' a k).flatMap f = []
  | 0, a, _ => rfl
  | k + 1, a, h => by
    have e1 : (List.range' a (k + 1)).flatMap f = f a ++ (List.range' (a + 1) k).flatMap f := rfl
    rw [e1, h a (Nat.le_refl _), range_nil f k (a + 1) fun i h1 => h i (by omega), List.nil_append]
theorem told_still (a : Nat) (h : 1 ≤ a) : toldRow 0 [(0, 0)] a = [] := by
  unfold toldRow
  rw [List.filter_eq_nil_iff]
  intro x hx
  obtain ⟨c, hc, rfl⟩ := List.mem_map.mp hx
  rw [decide_eq_true_iff, List.mem_singleton]
  intro e
  have : (a : Int) = 0 := congrArg Prod.fst e
  omega
theorem lawPhases_of (b g : Nat) (hb : 1 ≤ b ∧ b ≤ 8) (hg : g ≤ 24) (R : List (Int × Int)) (h1 : 0 < g → ∀ x, x ∈ R ↔ x ∈ phasesL b g) (h0 : g = 0 → R = [(0, 0)]) : (List.range' 0 (b + 1)).flatMap (toldRow g R) = phasesL b g := by
  have e0 : (List.range' 0 (b + 1)).flatMap (toldRow g R) = toldRow g R 0 ++ (List.range' 1 b).flatMap (toldRow g R) := rfl
  rw [e0]
  unfold phasesL
  by_cases z : 0 < g
  · rw [if_pos z, row_zero ⟨z, hg⟩ R (h1 z), range_flat (toldRow g R) (ageL b g) b 1 fun i h2 h3 => row_age ⟨z, hg⟩ R (h1 z) i h2 (by omega)]
    rfl
  · have : g = 0 := by omega
    subst this
    rw [if_neg z, h0 rfl, range_nil (toldRow 0 [(0, 0)]) b 1 told_still]
    rfl
theorem lawPhases_eq (b g : Nat) (hb : 1 ≤ b ∧ b ≤ 8) (hg : g ≤ 24) : lawPhases b g = phasesL b g := by
  unfold lawPhases
  have h1 : 0 < g → ∀ x, x ∈ reachP b g 400 ↔ x ∈ phasesL b g := fun z => reach_iff hb ⟨z, hg⟩
  have h0 : g = 0 → reachP b g 400 = [(0, 0)] := fun z => by rw [z]; exact reach_still b 400
  generalize reachP b g 400 = R at h1 h0 ⊢
  exact lawPhases_of b g hb hg R h1 h0
theorem after_mem' {b g : Nat} (hb : 1 ≤ b) {p q : Int × Int} {w : Bool} (hp : p ∈ phasesL b g) (e : after b g p w = some q) : q ∈ phasesL b g := by
  by_cases z : 0 < g
  · exact after_mem hb z hp e
  · have : g = 0 := by omega
    subst this
    unfold after at e
    rw [if_pos (show ((0 : Nat) : Int) = 0 from rfl)] at e
    cases e
    unfold phasesL
    rw [if_neg z]
    exact List.mem_singleton.mpr rfl
theorem still_ok (b : Int) (hb : 1 ≤ b) : ∀ (X : List Int), X.Pairwise (· < ·) → okW b 0 X
  | [], _ => trivial
  | x :: X, h => by
    have go : ∀ (X : List Int) (l : Int), (l :: X).Pairwise (· < ·) → okR b 0 l l X := by
      intro X
      induction X with
      | nil => intro l _; show l - l < b; omega
      | cons y X ih =>
        intro l h
        obtain ⟨h1, h2⟩ := List.pairwise_cons.mp h
        have := h1 y (List.mem_cons_self ..)
        show if 0 < y - l then l - l < b ∧ okR b 0 y y X else okR b 0 l y X
        rw [if_pos (by omega)]
        exact ⟨by omega, ih y h2⟩
    exact go X x h
theorem still_walk (b : Int) : ∀ (hs : List Bool) (p : Int × Int), (hs.foldl (phS b 0) (some p)).isSome = true
  | [], p => rfl
  | h :: hs, p => by
    show (hs.foldl (phS b 0) (after b 0 p h)).isSome = true
    have e : after b 0 p h = some (0, 0) := by unfold after; rw [if_pos rfl]
    rw [e]
    exact still_walk b hs _
theorem walk_mild (b g : Nat) (hb : 1 ≤ b) (hs : List Bool) : (hs.foldl (phS b g) (some (0, 0))).isSome = mild b g (posn 0 hs) := by
  rw [Bool.eq_iff_iff, mild_iff]
  by_cases z : 0 < g
  · exact walk_ok (by omega) (by omega) hs 0 (0, 0) (okW b g) (.inl ⟨rfl, rfl⟩)
  · have : g = 0 := by omega
    subst this
    exact ⟨fun _ => still_ok b (by omega) _ (posn_bd hs 0).1, fun _ => still_walk b hs _⟩
theorem can_mild (b g : Int) (N : Nat) (hs : List Bool) (h : (posn 0 hs).length ≤ N) : canP b g N (posn 0 hs) = mild b g (posn 0 hs) := by
  rw [Bool.eq_iff_iff, mild_iff]
  exact can_ok b g N _ h (posn_bd hs 0).1
/-- one step made clean -/
theorem posn_app : ∀ (A B : List Bool) (k : Int), posn k (A ++ B) = posn k A ++ posn (k + A.length) B
  | [], B, k => by
    have : k + (([] : List Bool).length : Int) = k := by rw [List.length_nil]; omega
    rw [this]; rfl
  | a :: A, B, k => by
    have ih := posn_app A B (k + 1)
    have e : k + 1 + (A.length : Int) = k + ((a :: A).length : Int) := by rw [List.length_cons]; omega
    rw [e] at ih
    rw [List.cons_append, posn_cons, posn_cons, ih]
    split <;> rfl
theorem mem_posn : ∀ (bs : List Bool) (k x : Int), x ∈ posn k bs → ∃ A B, bs = A ++ true :: B ∧ x = k + A.length
  | [], k, x, h => by cases h
  | b :: bs, k, x, h => by
    rw [posn_cons] at h
    have rec1 : x ∈ posn (k + 1) bs → ∃ A B, b :: bs = A ++ true :: B ∧ x = k + A.length := fun h => by
      obtain ⟨A, B, e1, e2⟩ := mem_posn bs (k + 1) x h
      exact ⟨b :: A, B, by rw [e1]; rfl, by rw [e2, List.length_cons]; omega⟩
    by_cases z : b = true
    · rw [if_pos z] at h
      rcases List.mem_cons.mp h with h | h
      · exact ⟨[], bs, by rw [z]; rfl, by rw [h, List.length_nil]; omega⟩
      · exact rec1 h
    · rw [if_neg z] at h
      exact rec1 h
theorem mild_less (b g : Int) (A B : List Bool) (h : mild b g (posn 0 (A ++ true :: B)) = true) : mild b g (posn 0 (A ++ false :: B)) = true := by
  rw [mild_iff] at h ⊢
  have e1 : posn 0 (A ++ true :: B) = posn 0 A ++ (0 + (A.length : Int)) :: posn (0 + (A.length : Int) + 1) B := by rw [posn_app, posn_cons, if_pos rfl]
  have e2 : posn 0 (A ++ false :: B) = posn 0 A ++ posn (0 + (A.length : Int) + 1) B := by rw [posn_app, posn_cons, if_neg Bool.false_ne_true]
  have i1 := (posn_bd (A ++ true :: B) 0).1
  rw [e1] at h i1
  rw [e2]
  exact okW_less b g _ _ _ i1 h
theorem phases_zero (b g : Nat) : (0, 0) ∈ phasesL b g := by
  unfold phasesL
  split
  · exact List.mem_cons_self ..
  · exact List.mem_singleton.mpr rfl
end L78
namespace L78
open PySem PySem.Spec PyProof.Rows L2 DL
/-! ### the text of a result -/
def okT (k : Nat) (x : Str) : Prop := PyData.strOk x = true ∧ x.length ≤ k
theorem okT_app {j k : Nat} {a b : Str} (h1 : okT j a) (h2 : okT k b) : okT (j + k) (a ++ b) := by
  refine ⟨?_, by rw [PySem.Str.length_append]; exact Nat.add_le_add h1.2 h2.2⟩
  have a1 := h1.1
  have b1 := h2.1
  unfold PyData.strOk at *
  rw [PySem.Str.cps_append, Array.all_append, a1, b1]; rfl
theorem okT_mono {j k : Nat} {a : Str} (h : okT j a) (l : j ≤ k) : okT k a := ⟨h.1, Nat.le_trans h.2 l⟩
theorem okT_join {k : Nat} : ∀ ts : List Str, (∀ t ∈ ts, okT k t) → okT (ts.length * (k + 2)) (Str.join ", " ts)
  | [], _ => ⟨by decide +kernel, Nat.zero_le _⟩
  | [x], h => okT_mono (h x (List.mem_cons_self ..)) (by rw [List.length_singleton]; omega)
  | x :: y :: r, h => by
    have ih := okT_join (y :: r) fun t ht => h t (List.mem_cons_of_mem _ ht)
    have hx := h x (List.mem_cons_self ..)
    have hc : okT 2 (", " : Str) := ⟨by decide +kernel, by decide +kernel⟩
    have := okT_app (okT_app hx hc) ih
    refine okT_mono this ?_
    rw [List.length_cons (a := x), Nat.add_mul]
    omega
theorem okT_tuple {k : Nat} (ts : List Str) (h : ∀ t ∈ ts, okT k t) : okT (1 + ts.length * (k + 2) + 2) (tupleText ts) := by
  unfold tupleText
  refine okT_app (okT_app ⟨by decide +kernel, by decide +kernel⟩ (okT_join ts h)) ?_
  split
  · exact ⟨by decide +kernel, by decide +kernel⟩
  · exact ⟨by decide +kernel, by decide +kernel⟩
theorem okT_small : ∀ i : Fin 40, (PyData.strOk (PyData.shown (.int ((i.val : Nat) : Int))) && decide ((PyData.shown (.int ((i.val : Nat) : Int))).length ≤ 2)) = true := by decide +kernel
theorem okT_int (i : Int) (h : 0 ≤ i ∧ i < 40) : okT 2 (PyData.shown (.int i)) := by
  obtain ⟨j, rfl⟩ := Int.eq_ofNat_of_zero_le h.1
  have := okT_small ⟨j, by omega⟩
  rw [Bool.and_eq_true] at this
  exact ⟨this.1, of_decide_eq_true this.2⟩
theorem small_log (i : Int) (h : 0 ≤ i ∧ i < 40) : i.natAbs.log2 < 1920 := by
  have : i.natAbs.log2 ≤ i.natAbs := Nat.log2_le_self _
  omega
def smallP (p : Int × Int) : Prop := (0 ≤ p.1 ∧ p.1 < 40) ∧ (0 ≤ p.2 ∧ p.2 < 40)
theorem okT_pair (p : Int × Int) (h : smallP p) : okT 11 (PyData.shown (pairD p).py) := by
  have e : PyData.shown (pairD p).py = tupleText [PyData.shown (.int p.1), PyData.shown (.int p.2)] := by
    unfold pairD
    simp only [D.py, D.pys, PyData.shown, PyData.shownAll]
  rw [e]
  refine okT_mono (okT_tuple (k := 2) _ fun t ht => ?_) (by simp)
  rcases List.mem_cons.mp ht with rfl | ht
  · exact okT_int _ h.1
  · rcases List.mem_cons.mp ht with rfl | ht
    · exact okT_int _ h.2
    · cases ht
theorem show_pair (p : Int × Int) (h : smallP p) : (pairD p).py.showable = true := by
  unfold pairD
  simp only [D.py, D.pys, PyData.showable, PyData.showableAll, Bool.and_true]
  rw [decide_eq_true (small_log _ h.1), decide_eq_true (small_log _ h.2)]; rfl
theorem shownAll_pairs : ∀ ps : List (Int × Int), (∀ p ∈ ps, smallP p) → (∀ t ∈ PyData.shownAll (D.pys (ps.map pairD)), okT 11 t) ∧ (PyData.shownAll (D.pys (ps.map pairD))).length = ps.length ∧ PyData.showableAll (D.pys (ps.map pairD)) = true
  | [], _ => ⟨(fun t ht => by cases ht), rfl, rfl⟩
  | p :: ps, h => by
    obtain ⟨h1, h2, h3⟩ := shownAll_pairs ps fun q hq => h q (List.mem_cons_of_mem _ hq)
    have hp := h p (List.mem_cons_self ..)
    rw [List.map_cons]
    simp only [D.pys, PyData.shownAll, PyData.showableAll]
    refine ⟨fun t ht => ?_, by rw [List.length_cons, List.length_cons, h2], by rw [show_pair p hp, h3]; rfl⟩
    rcases List.mem_cons.mp ht with rfl | ht
    · exact okT_pair p hp
    · exact h1 t ht
def smallR (o : Option (List (Int × Int))) : Prop := ∀ ps, o = some ps → ps.length ≤ 100 ∧ ∀ p ∈ ps, smallP p
theorem repr_ok (o : Option (List (Int × Int))) (h : smallR o) : D.pl 8 (resD o) ∧ (resD o).py.showable = true ∧ (resD o).py.shown.length ≤ 1000000 ∧ PyData.strOk (resD o).py.shown = true := by
  cases o with
  | none => exact ⟨by rw [resD, pl_non]; trivial, rfl, by decide +kernel, by decide +kernel⟩
  | some ps =>
    obtain ⟨h1, h2⟩ := h ps rfl
    obtain ⟨a, b, c⟩ := shownAll_pairs ps h2
    have t := okT_tuple _ a
    have e : (resD (some ps)).py.shown = tupleText (PyData.shownAll (D.pys (ps.map pairD))) := by
      unfold resD
      simp only [D.py, PyData.shown]
    have e2 : (resD (some ps)).py.showable = true := by
      unfold resD
      simp only [D.py, PyData.showable]
      exact c
    rw [e]
    rw [b] at t
    exact ⟨pl_maps (pl_pair 6) ps, e2, Nat.le_trans t.2 (by omega), t.1⟩
theorem eqv_pairs : ∀ ps : List (Int × Int), PyData.eqvAll (D.pys (ps.map pairD)) (D.pys (ps.map pairD)) = true
  | [] => rfl
  | p :: ps => by
    rw [List.map_cons]
    unfold pairD
    simp only [D.pys, D.py, PyData.eqvAll, PyData.eqv, beq_self_eq_true, Bool.true_and, Bool.and_true]
    exact eqv_pairs ps
theorem eqb_res (o : Option (List (Int × Int))) : D.eqb (resD o) (resD o) = true := by
  cases o with
  | none => rfl
  | some ps =>
    unfold D.eqb resD
    simp only [D.py, PyData.eqv]
    exact eqv_pairs ps
theorem eqb_lists (ps : List (Int × Int)) : D.eqb (.lst (ps.map pairD)) (.lst (ps.map pairD)) = true := by
  unfold D.eqb
  simp only [D.py, PyData.eqv]
  exact eqv_pairs ps
theorem eqb_str (x : Str) : D.eqb (.str x) (.str x) = true := by
  unfold D.eqb
  simp only [D.py, PyData.eqv, beq_self_eq_true]
theorem eqb_pair (p : Int × Int) : D.eqb (pairD p) (pairD p) = true := by
  unfold D.eqb pairD
  simp only [D.py, D.pys, PyData.eqv, PyData.eqvAll, beq_self_eq_true, Bool.and_true]
theorem isIn_pair {p : Int × Int} {ps : List (Int × Int)} (h : p ∈ ps) : D.isIn (pairD p) (ps.map pairD) = true := by
  unfold D.isIn
  rw [List.any_map, List.any_eq_true]
  exact ⟨p, h, eqb_pair p⟩
theorem repr_phs (ps : List (Int × Int)) (h : ps.length ≤ 1000) (h2 : ∀ p ∈ ps, smallP p) : D.pl 8 (.tup (ps.map pairD)) ∧ (D.tup (ps.map pairD)).py.showable = true ∧ (D.tup (ps.map pairD)).py.shown.length ≤ 1000000 ∧ PyData.strOk (D.tup (ps.map pairD)).py.shown = true := by
  obtain ⟨a, b, c⟩ := shownAll_pairs ps h2
  have t := okT_tuple _ a
  have e : (D.tup (ps.map pairD)).py.shown = tupleText (PyData.shownAll (D.pys (ps.map pairD))) := by
    simp only [D.py, PyData.shown]
  have e2 : (D.tup (ps.map pairD)).py.showable = true := by
    simp only [D.py, PyData.showable]
    exact c
  rw [e]
  rw [b] at t
  exact ⟨pl_maps (pl_pair 6) ps, e2, Nat.le_trans t.2 (by omega), t.1⟩
/-- what a phase can hold -/
theorem phases_small {b g : Nat} (hb : b ≤ 8) (hg : g ≤ 24) : ∀ p ∈ phasesL b g, smallP p := by
  intro p hp
  by_cases z : 0 < g
  · rw [mem_phases b g z] at hp
    rcases hp with rfl | ⟨a, c, h1, h2, h3, rfl⟩
    · exact ⟨⟨by decide, by decide⟩, by decide, by decide⟩
    · unfold mostA at h3
      have h4 : c < 24 := by split at h3 <;> omega
      exact ⟨⟨by show (0 : Int) ≤ (a : Int); omega, by show (a : Int) < 40; omega⟩, by show (0 : Int) ≤ (c : Int); omega, by show (c : Int) < 40; omega⟩
  · unfold phasesL at hp
    rw [if_neg z] at hp
    rw [List.mem_singleton.mp hp]
    exact ⟨⟨by decide, by decide⟩, by decide, by decide⟩
def inR (m : Int) (p : Int × Int) : Prop := (0 ≤ p.1 ∧ p.1 < m) ∧ (0 ≤ p.2 ∧ p.2 < m)
theorem part1_in {g x m : Int} (hx : 0 ≤ x ∧ x < m) : ∀ acc : List (Int × Int), (∀ p ∈ acc, inR m p) → ∀ p ∈ part1 g x acc, inR m p
  | [], h, p, hp => by
    rw [List.mem_singleton.mp hp]
    exact ⟨hx, hx⟩
  | [q], h, p, hp => by
    have hq := h q (List.mem_cons_self ..)
    unfold part1 at hp
    split at hp
    · rw [List.mem_singleton.mp hp]
      exact ⟨hq.1, hx⟩
    · rcases List.mem_cons.mp hp with rfl | hp
      · exact hq
      · rw [List.mem_singleton.mp hp]
        exact ⟨hx, hx⟩
  | q :: q2 :: acc, h, p, hp => by
    have hp : p ∈ q :: part1 g x (q2 :: acc) := hp
    rcases List.mem_cons.mp hp with rfl | hp
    · exact h _ (List.mem_cons_self ..)
    · exact part1_in hx (q2 :: acc) (fun p hp => h p (List.mem_cons_of_mem _ hp)) p hp
theorem parted_in {g m : Int} : ∀ (X : List Int) (acc : List (Int × Int)), (∀ x ∈ X, 0 ≤ x ∧ x < m) → (∀ p ∈ acc, inR m p) → ∀ p ∈ parted g acc X, inR m p
  | [], acc, _, h => h
  | x :: X, acc, hX, h => parted_in X (part1 g x acc) (fun y hy => hX y (List.mem_cons_of_mem _ hy)) (part1_in (hX x (List.mem_cons_self ..)) acc h)
theorem bursts_small {b g : Int} (hs : List Bool) (hl : hs.length ≤ 39) : smallR (bursts b g (posn 0 hs)) := by
  intro ps h
  unfold bursts at h
  split at h
  · cases h
  · cases h
    have l1 := parted_len g (posn 0 hs) []
    have l2 := posn_len hs 0
    rw [List.length_nil] at l1
    refine ⟨by omega, fun p hp => ?_⟩
    obtain ⟨⟨a1, a2⟩, a3, a4⟩ := parted_in (m := hs.length) _ _ (fun x hx => by
      have := (posn_bd hs 0).2 x hx
      omega) (fun p hp => by cases hp) p hp
    exact ⟨⟨a1, by omega⟩, a3, by omega⟩
end L78
namespace L78
open PySem PySem.Spec PyProof.Rows L2 DL
theorem eqb_bl (a b : Bool) : D.eqb (.bl a) (.bl b) = (a == b) := by
  unfold D.eqb
  simp only [D.py, PyData.eqv]
theorem isN_non : D.non.isN = true := rfl
theorem isN_pair (p : Int × Int) : (pairD p).isN = false := rfl
theorem flat_pair (p : Int × Int) : (pairD p).flat = false := rfl
theorem phD_some (p : Int × Int) : phD (some p) = pairD p := rfl
theorem phD_none : phD none = .non := rfl
structure Rws (b g : Nat) (rs : List (List Bool)) : Prop where
  le : rs.length ≤ 30
  row : ∀ r ∈ rs, r.length ≤ 3
  b : 1 ≤ b ∧ b ≤ 8
  g : g ≤ 24
theorem rows_ok {rs : List (List Bool)} {d : D} (h : d = .lst (rs.map rowD) ∨ d = .tup (rs.map rowD)) (hl : rs.length ≤ 31) (hr : ∀ r ∈ rs, r.length ≤ 3) : rowsIs rs d := ⟨h, by omega, fun r hx => by have := hr r hx; omega⟩
theorem t6 (E : DEnds) (cs : List Int) (b g : Nat) (n : Nat) (s1 s4 s5 s6 s7 s8 s9 s10 : Sl) (hb : 1 ≤ b ∧ b ≤ 8) (hg : g ≤ 24) (q : E.rt (.bl true) n) :
    kr_law_one_right_6 E [.val (.pen cs), s1, .val (.int (b : Nat)), .val (.int (g : Nat)),  s4, s5, s6, s7, s8, s9, s10] n := by
  obtain ⟨o1, o2, o3, o4⟩ := repr_phs (phasesL b g) (Nat.le_trans (phases_len hb.2 hg) (by decide)) (phases_small hb.2 hg)
  simp only [kr_law_one_right_6, c_phases, c_law_phases, kSeq, kAsg, kRet, kIfS, kDrop, kNext, kNever, kOwnS, kApp, kSub, kPar, kAndV_e, kOrV_e, kNotV, kAndT, kOrT, kNotT, kTest_e, isB_bl, kBin, kUn, kChain_e, condV, kCall, kCons, kNil, kTup, kLst, kLstO, kOut, kCompO, kIter, kEnum, kZip, kRng1, DL.kV, kB, kC, kIf, kStar, kSl, kPart, kNoPart, kFn, kFnK, kIsi2, kFor, gN, gTupD, gsCons, gsNil, kYes, dNeg, dAdd, dSub, dMod, dDiv, dMul, dPow, dCmp, dInt, dEq, dNe, dIn, dNotIn, dIx, dIsN, bLen, bInt, bAbs, bTuple, bList, bAny, bAll, bIsi, startD, DL.okW, wipeD, List.map_cons, List.map_nil, List.cons_append, List.nil_append, List.getElem?_cons_zero, List.getElem?_cons_succ, List.set_cons_zero, List.set_cons_succ, List.length_cons, List.length_nil, List.replicate_succ, List.replicate_zero, List.all_cons, List.all_nil, Bool.and_true, Bool.true_and, tyn_int, tyn_bl, tyn_non, tyn_tup, tyn_lst, kit_ii, kit_ib, kit_tt, kit_ll, kit_lt, kit_tl, flat_int, v_int, flat_row, pl_non, pl_bl, pl_int, pl_tup, pl_lst, eqb_int, eqb_nil, eqb_non, isN_non, isN_pair, ne_eq, not_false_eq_true, true_and, and_true, if_true, if_false, Bool.false_eq_true, reduceCtorEq, String.reduceEq, Bool.not_true, Bool.not_false, Bool.or_false, Bool.false_or, Bool.or_true, Bool.true_or, Nat.zero_add, Nat.reduceAdd, Nat.reduceLeDiff, Nat.reduceSub, Nat.reduceEqDiff, kRng2, kExt, kPar3, dNotN, bRepr, List.append_nil]
  refine ⟨b, g, rfl, ⟨hb.1, hb.2, hg⟩, o1, o2, o3, b, g, rfl, ⟨hb.1, hb.2, hg⟩, ?_⟩
  rw [lawPhases_eq b g hb hg]
  refine ⟨o1, o2, o3, o4, o4, ?_⟩
  rw [eqb_str]
  exact q
theorem t7 (E : DEnds) (cs : List Int) (b g : Nat) (n : Nat) (s1 s4 s6 s7 s8 s10 : Sl) (o : Option (Int × Int)) (hb : 1 ≤ b ∧ b ≤ 8) (hg : g ≤ 24) (q : E.rt (.bl true) n) :
    kr_law_one_right_7 E [.val (.pen cs), s1, .val (.int (b : Nat)), .val (.int (g : Nat)),  s4, .val (.bl o.isSome), s6, s7, s8, .val (phD o), s10] n := by
  have z := t6 E cs b g n s1 s4 (.val (.bl o.isSome)) s6 s7 s8 (.val (phD o)) s10 hb hg q
  cases o with
  | none =>
    simp only [phD_none, Option.isSome_none] at z ⊢
    simp only [kr_law_one_right_7, eqb_bl, kSeq, kAsg, kRet, kIfS, kDrop, kNext, kNever, kOwnS, kApp, kSub, kPar, kAndV_e, kOrV_e, kNotV, kAndT, kOrT, kNotT, kTest_e, isB_bl, kBin, kUn, kChain_e, condV, kCall, kCons, kNil, kTup, kLst, kLstO, kOut, kCompO, kIter, kEnum, kZip, kRng1, DL.kV, kB, kC, kIf, kStar, kSl, kPart, kNoPart, kFn, kFnK, kIsi2, kFor, gN, gTupD, gsCons, gsNil, kYes, dNeg, dAdd, dSub, dMod, dDiv, dMul, dPow, dCmp, dInt, dEq, dNe, dIn, dNotIn, dIx, dIsN, bLen, bInt, bAbs, bTuple, bList, bAny, bAll, bIsi, startD, DL.okW, wipeD, List.map_cons, List.map_nil, List.cons_append, List.nil_append, List.getElem?_cons_zero, List.getElem?_cons_succ, List.set_cons_zero, List.set_cons_succ, List.length_cons, List.length_nil, List.replicate_succ, List.replicate_zero, List.all_cons, List.all_nil, Bool.and_true, Bool.true_and, tyn_int, tyn_bl, tyn_non, tyn_tup, tyn_lst, kit_ii, kit_ib, kit_tt, kit_ll, kit_lt, kit_tl, flat_int, v_int, flat_row, pl_non, pl_bl, pl_int, pl_tup, pl_lst, eqb_int, eqb_nil, eqb_non, isN_non, isN_pair, ne_eq, not_false_eq_true, true_and, and_true, if_true, if_false, Bool.false_eq_true, reduceCtorEq, String.reduceEq, Bool.not_true, Bool.not_false, Bool.or_false, Bool.false_or, Bool.or_true, Bool.true_or, Nat.zero_add, Nat.reduceAdd, Nat.reduceLeDiff, Nat.reduceSub, Nat.reduceEqDiff, kRng2, kExt, kPar3, dNotN, bRepr, List.append_nil]
    rw [if_neg (by decide)]
    exact z
  | some p =>
    simp only [phD_some, Option.isSome_some] at z ⊢
    simp only [kr_law_one_right_7, eqb_bl, kSeq, kAsg, kRet, kIfS, kDrop, kNext, kNever, kOwnS, kApp, kSub, kPar, kAndV_e, kOrV_e, kNotV, kAndT, kOrT, kNotT, kTest_e, isB_bl, kBin, kUn, kChain_e, condV, kCall, kCons, kNil, kTup, kLst, kLstO, kOut, kCompO, kIter, kEnum, kZip, kRng1, DL.kV, kB, kC, kIf, kStar, kSl, kPart, kNoPart, kFn, kFnK, kIsi2, kFor, gN, gTupD, gsCons, gsNil, kYes, dNeg, dAdd, dSub, dMod, dDiv, dMul, dPow, dCmp, dInt, dEq, dNe, dIn, dNotIn, dIx, dIsN, bLen, bInt, bAbs, bTuple, bList, bAny, bAll, bIsi, startD, DL.okW, wipeD, List.map_cons, List.map_nil, List.cons_append, List.nil_append, List.getElem?_cons_zero, List.getElem?_cons_succ, List.set_cons_zero, List.set_cons_succ, List.length_cons, List.length_nil, List.replicate_succ, List.replicate_zero, List.all_cons, List.all_nil, Bool.and_true, Bool.true_and, tyn_int, tyn_bl, tyn_non, tyn_tup, tyn_lst, kit_ii, kit_ib, kit_tt, kit_ll, kit_lt, kit_tl, flat_int, v_int, flat_row, pl_non, pl_bl, pl_int, pl_tup, pl_lst, eqb_int, eqb_nil, eqb_non, isN_non, isN_pair, ne_eq, not_false_eq_true, true_and, and_true, if_true, if_false, Bool.false_eq_true, reduceCtorEq, String.reduceEq, Bool.not_true, Bool.not_false, Bool.or_false, Bool.false_or, Bool.or_true, Bool.true_or, Nat.zero_add, Nat.reduceAdd, Nat.reduceLeDiff, Nat.reduceSub, Nat.reduceEqDiff, kRng2, kExt, kPar3, dNotN, bRepr, List.append_nil]
    rw [if_neg (by decide)]
    exact z
theorem ph_walk (E : DEnds) (cs : List Int) (b g : Nat) (n : Nat) (s1 s4 s5 s6 s7 s8 : Sl) (hb : 1 ≤ b ∧ b ≤ 8) (hg : g ≤ 24) : ∀ (rs : List (List Bool)) (o : Option (Int × Int)) (s10 : Sl), (∀ p, o = some p → p ∈ phasesL b g) →
    (∀ s10, E.nx [.val (.pen cs), s1, .val (.int (b : Nat)), .val (.int (g : Nat)),  s4, s5, s6, s7, s8, .val (phD ((rs.map hot).foldl (phS b g) o)), s10] n) → kFors kg_law_one_right_4 kb_law_one_right_5 E (rs.map rowD) [.val (.pen cs), s1, .val (.int (b : Nat)), .val (.int (g : Nat)),  s4, s5, s6, s7, s8, .val (phD o), s10] n
  | [], o, s10, h, q => q s10
  | r :: rs, o, s10, h, q => by
    have ih := fun o' h' q' => ph_walk E cs b g n s1 s4 s5 s6 s7 s8 hb hg rs o' (.val (rowD r)) h' q'
    rw [List.map_cons, fors_cons]
    generalize kFors kg_law_one_right_4 kb_law_one_right_5 E (rs.map rowD) = X at ih ⊢
    cases o with
    | none =>
      have ih := ih none (fun p e => by cases e) q
      simp only [phD_none] at ih ⊢
      simp (maxSteps := 2000000) only [kg_law_one_right_4, kb_law_one_right_5, kSeq, kAsg, kRet, kIfS, kDrop, kNext, kNever, kOwnS, kApp, kSub, kPar, kAndV_e, kOrV_e, kNotV, kAndT, kOrT, kNotT, kTest_e, isB_bl, kBin, kUn, kChain_e, condV, kCall, kCons, kNil, kTup, kLst, kLstO, kOut, kCompO, kIter, kEnum, kZip, kRng1, DL.kV, kB, kC, kIf, kStar, kSl, kPart, kNoPart, kFn, kFnK, kIsi2, kFor, gN, gTupD, gsCons, gsNil, kYes, dNeg, dAdd, dSub, dMod, dDiv, dMul, dPow, dCmp, dInt, dEq, dNe, dIn, dNotIn, dIx, dIsN, bLen, bInt, bAbs, bTuple, bList, bAny, bAll, bIsi, startD, DL.okW, wipeD, List.map_cons, List.map_nil, List.cons_append, List.nil_append, List.getElem?_cons_zero, List.getElem?_cons_succ, List.set_cons_zero, List.set_cons_succ, List.length_cons, List.length_nil, List.replicate_succ, List.replicate_zero, List.all_cons, List.all_nil, Bool.and_true, Bool.true_and, tyn_int, tyn_bl, tyn_non, tyn_tup, tyn_lst, kit_ii, kit_ib, kit_tt, kit_ll, kit_lt, kit_tl, flat_int, v_int, flat_row, pl_non, pl_bl, pl_int, pl_tup, pl_lst, eqb_int, eqb_nil, eqb_non, isN_non, isN_pair, ne_eq, not_false_eq_true, true_and, and_true, if_true, if_false, Bool.false_eq_true, reduceCtorEq, String.reduceEq, Bool.not_true, Bool.not_false, Bool.or_false, Bool.false_or, Bool.or_true, Bool.true_or, Nat.zero_add, Nat.reduceAdd, Nat.reduceLeDiff, Nat.reduceSub, Nat.reduceEqDiff, kRng2, kExt, kPar3, dNotN, bRepr, List.append_nil]
      exact ih
    | some p =>
      have q : ∀ s10, E.nx [.val (.pen cs), s1, .val (.int (b : Nat)), .val (.int (g : Nat)),  s4, s5, s6, s7, s8, .val (phD ((rs.map hot).foldl (phS b g) (after b g p (hot r)))), s10] n := q
      have hp := h p rfl
      have ih := ih (after b g p (hot r)) (fun p' e => after_mem' hb.1 hp e) q
      simp only [phD_some]
      simp (maxSteps := 2000000) only [kg_law_one_right_4, kb_law_one_right_5, rowD, hot_in, c_law_after, kSeq, kAsg, kRet, kIfS, kDrop, kNext, kNever, kOwnS, kApp, kSub, kPar, kAndV_e, kOrV_e, kNotV, kAndT, kOrT, kNotT, kTest_e, isB_bl, kBin, kUn, kChain_e, condV, kCall, kCons, kNil, kTup, kLst, kLstO, kOut, kCompO, kIter, kEnum, kZip, kRng1, DL.kV, kB, kC, kIf, kStar, kSl, kPart, kNoPart, kFn, kFnK, kIsi2, kFor, gN, gTupD, gsCons, gsNil, kYes, dNeg, dAdd, dSub, dMod, dDiv, dMul, dPow, dCmp, dInt, dEq, dNe, dIn, dNotIn, dIx, dIsN, bLen, bInt, bAbs, bTuple, bList, bAny, bAll, bIsi, startD, DL.okW, wipeD, List.map_cons, List.map_nil, List.cons_append, List.nil_append, List.getElem?_cons_zero, List.getElem?_cons_succ, List.set_cons_zero, List.set_cons_succ, List.length_cons, List.length_nil, List.replicate_succ, List.replicate_zero, List.all_cons, List.all_nil, Bool.and_true, Bool.true_and, tyn_int, tyn_bl, tyn_non, tyn_tup, tyn_lst, kit_ii, kit_ib, kit_tt, kit_ll, kit_lt, kit_tl, flat_int, v_int, flat_row, pl_non, pl_bl, pl_int, pl_tup, pl_lst, eqb_int, eqb_nil, eqb_non, isN_non, isN_pair, ne_eq, not_false_eq_true, true_and, and_true, if_true, if_false, Bool.false_eq_true, reduceCtorEq, String.reduceEq, Bool.not_true, Bool.not_false, Bool.or_false, Bool.false_or, Bool.or_true, Bool.true_or, Nat.zero_add, Nat.reduceAdd, Nat.reduceLeDiff, Nat.reduceSub, Nat.reduceEqDiff, kRng2, kExt, kPar3, dNotN, bRepr, List.append_nil]
      refine ⟨p, hot r, b, g, rfl, ?_⟩
      cases e : after b g p (hot r) with
      | none =>
        rw [e] at ih
        simp only [phD_none] at ih ⊢
        simp only [isN_non, Bool.not_true, Bool.false_eq_true, if_false]
        exact ih
      | some p' =>
        have mem := after_mem' hb.1 hp e
        rw [e] at ih
        simp only [phD_some] at ih ⊢
        simp only [isN_pair, Bool.not_false, if_true, c_phases, kSeq, kAsg, kRet, kIfS, kDrop, kNext, kNever, kOwnS, kApp, kSub, kPar, kAndV_e, kOrV_e, kNotV, kAndT, kOrT, kNotT, kTest_e, isB_bl, kBin, kUn, kChain_e, condV, kCall, kCons, kNil, kTup, kLst, kLstO, kOut, kCompO, kIter, kEnum, kZip, kRng1, DL.kV, kB, kC, kIf, kStar, kSl, kPart, kNoPart, kFn, kFnK, kIsi2, kFor, gN, gTupD, gsCons, gsNil, kYes, dNeg, dAdd, dSub, dMod, dDiv, dMul, dPow, dCmp, dInt, dEq, dNe, dIn, dNotIn, dIx, dIsN, bLen, bInt, bAbs, bTuple, bList, bAny, bAll, bIsi, startD, DL.okW, wipeD, List.map_cons, List.map_nil, List.cons_append, List.nil_append, List.getElem?_cons_zero, List.getElem?_cons_succ, List.set_cons_zero, List.set_cons_succ, List.length_cons, List.length_nil, List.replicate_succ, List.replicate_zero, List.all_cons, List.all_nil, Bool.and_true, Bool.true_and, tyn_int, tyn_bl, tyn_non, tyn_tup, tyn_lst, kit_ii, kit_ib, kit_tt, kit_ll, kit_lt, kit_tl, flat_int, v_int, flat_row, pl_non, pl_bl, pl_int, pl_tup, pl_lst, eqb_int, eqb_nil, eqb_non, isN_non, isN_pair, ne_eq, not_false_eq_true, true_and, and_true, if_true, if_false, Bool.false_eq_true, reduceCtorEq, String.reduceEq, Bool.not_true, Bool.not_false, Bool.or_false, Bool.false_or, Bool.or_true, Bool.true_or, Nat.zero_add, Nat.reduceAdd, Nat.reduceLeDiff, Nat.reduceSub, Nat.reduceEqDiff, kRng2, kExt, kPar3, dNotN, bRepr, List.append_nil]
        refine ⟨b, g, rfl, ⟨hb.1, hb.2, hg⟩, ?_⟩
        simp only [flat_pair, isIn_pairs, Bool.false_and, kSeq, kAsg, kRet, kIfS, kDrop, kNext, kNever, kOwnS, kApp, kSub, kPar, kAndV_e, kOrV_e, kNotV, kAndT, kOrT, kNotT, kTest_e, isB_bl, kBin, kUn, kChain_e, condV, kCall, kCons, kNil, kTup, kLst, kLstO, kOut, kCompO, kIter, kEnum, kZip, kRng1, DL.kV, kB, kC, kIf, kStar, kSl, kPart, kNoPart, kFn, kFnK, kIsi2, kFor, gN, gTupD, gsCons, gsNil, kYes, dNeg, dAdd, dSub, dMod, dDiv, dMul, dPow, dCmp, dInt, dEq, dNe, dIn, dNotIn, dIx, dIsN, bLen, bInt, bAbs, bTuple, bList, bAny, bAll, bIsi, startD, DL.okW, wipeD, List.map_cons, List.map_nil, List.cons_append, List.nil_append, List.getElem?_cons_zero, List.getElem?_cons_succ, List.set_cons_zero, List.set_cons_succ, List.length_cons, List.length_nil, List.replicate_succ, List.replicate_zero, List.all_cons, List.all_nil, Bool.and_true, Bool.true_and, tyn_int, tyn_bl, tyn_non, tyn_tup, tyn_lst, kit_ii, kit_ib, kit_tt, kit_ll, kit_lt, kit_tl, flat_int, v_int, flat_row, pl_non, pl_bl, pl_int, pl_tup, pl_lst, eqb_int, eqb_nil, eqb_non, isN_non, isN_pair, ne_eq, not_false_eq_true, true_and, and_true, if_true, if_false, Bool.false_eq_true, reduceCtorEq, String.reduceEq, Bool.not_true, Bool.not_false, Bool.or_false, Bool.false_or, Bool.or_true, Bool.true_or, Nat.zero_add, Nat.reduceAdd, Nat.reduceLeDiff, Nat.reduceSub, Nat.reduceEqDiff, kRng2, kExt, kPar3, dNotN, bRepr, List.append_nil]
        refine ⟨by rw [pl_pair]; trivial, pl_maps (pl_pair 6) _, ?_⟩
        rw [if_neg (by rw [decide_eq_true mem]; decide)]
        exact ih
theorem t8 (E : DEnds) (cs : List Int) (b g : Nat) (n : Nat) (rs : List (List Bool)) (s4 s6 s7 s8 s9 s10 : Sl) (hb : 1 ≤ b ∧ b ≤ 8) (hg : g ≤ 24) (q : E.rt (.bl true) n) :
    kr_law_one_right_9 E [.val (.pen cs), .val (.lst (rs.map rowD)), .val (.int (b : Nat)), .val (.int (g : Nat)),  s4, .val (.bl (mild b g (wrongs rs))),  s6, s7, s8, s9, s10] n := by
  simp only [kr_law_one_right_9, kr_law_one_right_8, kSeq, kAsg, kRet, kIfS, kDrop, kNext, kNever, kOwnS, kApp, kSub, kPar, kAndV_e, kOrV_e, kNotV, kAndT, kOrT, kNotT, kTest_e, isB_bl, kBin, kUn, kChain_e, condV, kCall, kCons, kNil, kTup, kLst, kLstO, kOut, kCompO, kIter, kEnum, kZip, kRng1, DL.kV, kB, kC, kIf, kStar, kSl, kPart, kNoPart, kFn, kFnK, kIsi2, kFor, gN, gTupD, gsCons, gsNil, kYes, dNeg, dAdd, dSub, dMod, dDiv, dMul, dPow, dCmp, dInt, dEq, dNe, dIn, dNotIn, dIx, dIsN, bLen, bInt, bAbs, bTuple, bList, bAny, bAll, bIsi, startD, DL.okW, wipeD, List.map_cons, List.map_nil, List.cons_append, List.nil_append, List.getElem?_cons_zero, List.getElem?_cons_succ, List.set_cons_zero, List.set_cons_succ, List.length_cons, List.length_nil, List.replicate_succ, List.replicate_zero, List.all_cons, List.all_nil, Bool.and_true, Bool.true_and, tyn_int, tyn_bl, tyn_non, tyn_tup, tyn_lst, kit_ii, kit_ib, kit_tt, kit_ll, kit_lt, kit_tl, flat_int, v_int, flat_row, pl_non, pl_bl, pl_int, pl_tup, pl_lst, eqb_int, eqb_nil, eqb_non, isN_non, isN_pair, ne_eq, not_false_eq_true, true_and, and_true, if_true, if_false, Bool.false_eq_true, reduceCtorEq, String.reduceEq, Bool.not_true, Bool.not_false, Bool.or_false, Bool.false_or, Bool.or_true, Bool.true_or, Nat.zero_add, Nat.reduceAdd, Nat.reduceLeDiff, Nat.reduceSub, Nat.reduceEqDiff, kRng2, kExt, kPar3, dNotN, bRepr, List.append_nil]
  refine ph_walk _ cs b g n _ s4 _ s6 s7 s8 hb hg rs (some (0, 0)) s10 (fun p e => ?_) fun s10 => ?_
  · cases e
    exact phases_zero b g
  · have z := t7 E cs b g n (.val (.lst (rs.map rowD))) s4 s6 s7 s8 s10 ((rs.map hot).foldl (phS b g) (some (0, 0))) hb hg q
    rw [walk_mild b g hb.1] at z
    exact z
theorem split_hot (rs : List (List Bool)) (x : Int) (h : x ∈ wrongs rs) : ∃ A r B, rs = A ++ r :: B ∧ x = A.length ∧ hot r = true := by
  obtain ⟨A, B, e1, e2⟩ := mem_posn _ _ _ h
  obtain ⟨A', R, e3, e4, e5⟩ := List.map_eq_append_iff.mp e1
  obtain ⟨r, B', e6, e7, e8⟩ := List.map_eq_cons_iff.mp e5
  refine ⟨A', r, B', by rw [e3, e6], ?_, e7⟩
  rw [e2, ← e4, List.length_map]
  omega
theorem hot_false (k : Nat) : hot (List.replicate k false) = false := by
  induction k with
  | zero => rfl
  | succ k ih => exact ih
theorem zero_row (k : Nat) : D.tup (List.replicate (k : Int).toNat [D.int 0]).flatten = rowD (List.replicate k false) := by
  rw [Int.toNat_natCast]
  unfold rowD
  congr 1
  induction k with
  | zero => rfl
  | succ k ih =>
    rw [List.replicate_succ, List.flatten_cons, ih, List.replicate_succ, List.map_cons]
    rfl
theorem bursts_mild {b g : Int} {X : List Int} : bursts b g X = if mild b g X = true then some (parted g [] X) else none := by
  unfold bursts mild
  cases (parted g [] X).any fun p => decide (b ≤ p.2 - p.1) <;> rfl
theorem cut_to {α : Type} (A B : List α) : DL.cutD (A ++ B) none (some (A.length : Int)) = A := by
  show ((A ++ B).drop 0).take (min ((A.length : Nat) : Int).toNat (A ++ B).length - 0) = A
  rw [Int.toNat_natCast, Nat.min_eq_left (by rw [List.length_append]; omega), List.drop_zero, Nat.sub_zero, List.take_left]
theorem cut_past {α : Type} (A : List α) (x : α) (B : List α) : DL.cutD (A ++ x :: B) (some ((A.length : Int) + 1)) none = B := by
  have e : ((A.length : Int) + 1).toNat = A.length + 1 := by omega
  show ((A ++ x :: B).drop (min ((A.length : Int) + 1).toNat (A ++ x :: B).length)).take ((A ++ x :: B).length - min ((A.length : Int) + 1).toNat (A ++ x :: B).length) = B
  rw [e, Nat.min_eq_left (by rw [List.length_append, List.length_cons]; omega)]
  have e2 : A ++ x :: B = (A ++ [x]) ++ B := by rw [List.append_assoc]; rfl
  have e3 : A.length + 1 = (A ++ [x]).length := by rw [List.length_append]; rfl
  rw [e2, e3, List.drop_left]
  exact List.take_of_length_le (by rw [List.length_append]; omega)
theorem at_mid (A : List D) (x : D) (B : List D) : atI (A ++ x :: B) (A.length : Int) = some x := by
  unfold atI ixN
  rw [if_pos (by omega), if_pos (by rw [List.length_append, List.length_cons]; omega)]
  show (A ++ x :: B)[(A.length : Int).toNat]? = some x
  rw [Int.toNat_natCast, List.getElem?_append_right (Nat.le_refl _), Nat.sub_self]
  rfl
theorem t10 (E : DEnds) (cs : List Int) (b g : Nat) (n N : Nat) (rs : List (List Bool)) (s7 : Sl) (K : Rws b g rs) (hn : n + 1 ≤ N) (hN : N ≤ 90000) (q : ∀ n', n' ≤ N → E.rt (.bl true) n') :
    kr_law_one_right_10 E [.val (.pen cs), .val (.lst (rs.map rowD)), .val (.int (b : Nat)), .val (.int (g : Nat)),  .val (.lst ((parted g [] (wrongs rs)).map pairD)), .val (.bl (mild b g (wrongs rs))), .val (.lst ((wrongs rs).map D.int)),  s7, .no, .no, .no] n := by
  have z : ∀ s8 n', n' ≤ N → kr_law_one_right_9 E [.val (.pen cs), .val (.lst (rs.map rowD)), .val (.int (b : Nat)), .val (.int (g : Nat)),  .val (.lst ((parted g [] (wrongs rs)).map pairD)), .val (.bl (mild b g (wrongs rs))), .val (.lst ((wrongs rs).map D.int)),  s7, s8, .no, .no] n' := fun s8 n' h => t8 E cs b g n' rs _ _ s7 s8 _ _ K.b K.g (q n' h)
  simp (maxSteps := 2000000) only [kr_law_one_right_10, c_law_pick, kSeq, kAsg, kRet, kIfS, kDrop, kNext, kNever, kOwnS, kApp, kSub, kPar, kAndV_e, kOrV_e, kNotV, kAndT, kOrT, kNotT, kTest_e, isB_bl, kBin, kUn, kChain_e, condV, kCall, kCons, kNil, kTup, kLst, kLstO, kOut, kCompO, kIter, kEnum, kZip, kRng1, DL.kV, kB, kC, kIf, kStar, kSl, kPart, kNoPart, kFn, kFnK, kIsi2, kFor, gN, gTupD, gsCons, gsNil, kYes, dNeg, dAdd, dSub, dMod, dDiv, dMul, dPow, dCmp, dInt, dEq, dNe, dIn, dNotIn, dIx, dIsN, bLen, bInt, bAbs, bTuple, bList, bAny, bAll, bIsi, startD, DL.okW, wipeD, List.map_cons, List.map_nil, List.cons_append, List.nil_append, List.getElem?_cons_zero, List.getElem?_cons_succ, List.set_cons_zero, List.set_cons_succ, List.length_cons, List.length_nil, List.replicate_succ, List.replicate_zero, List.all_cons, List.all_nil, Bool.and_true, Bool.true_and, tyn_int, tyn_bl, tyn_non, tyn_tup, tyn_lst, kit_ii, kit_ib, kit_tt, kit_ll, kit_lt, kit_tl, flat_int, v_int, flat_row, pl_non, pl_bl, pl_int, pl_tup, pl_lst, eqb_int, eqb_nil, eqb_non, isN_non, isN_pair, ne_eq, not_false_eq_true, true_and, and_true, if_true, if_false, Bool.false_eq_true, reduceCtorEq, String.reduceEq, Bool.not_true, Bool.not_false, Bool.or_false, Bool.false_or, Bool.or_true, Bool.true_or, Nat.zero_add, Nat.reduceAdd, Nat.reduceLeDiff, Nat.reduceSub, Nat.reduceEqDiff, kRng2, kExt, kPar3, dNotN, bRepr, List.append_nil]
  refine ⟨pl_maps (fun j : Int => pl_int 7 j) _, (fun d hd => by cases hd), ?_⟩
  by_cases hw : wrongs rs = []
  · rw [hw]
    rw [if_neg (by decide)]
    have := z .no n (by omega)
    rw [hw] at this
    exact this
  · have hne : ((wrongs rs).map D.int).isEmpty = false := by
      cases e : wrongs rs with
      | nil => exact absurd e hw
      | cons x X => rfl
    rw [hne, if_pos (by decide)]
    by_cases hm : mild b g (wrongs rs) = true
    · rw [if_pos hm]
      have wl : (wrongs rs).length ≤ 30 := by
        have := posn_len (rs.map hot) 0
        rw [List.length_map] at this
        have := K.le
        unfold wrongs
        omega
      refine ⟨cs, _, rfl, (by intro e; rw [e] at hne; cases hne), by rw [List.length_map]; omega, by omega, fun d hd n' hn' => ?_⟩
      obtain ⟨x, hx, rfl⟩ := List.mem_map.mp hd
      obtain ⟨A, r, B, e1, e2, e3⟩ := split_hot rs x hx
      have hr : r ∈ rs := by rw [e1]; exact List.mem_append_right _ (List.mem_cons_self ..)
      have rl := K.row r hr
      have em : rs.map rowD = A.map rowD ++ rowD r :: B.map rowD := by rw [e1, List.map_append, List.map_cons]
      have la : (A.map rowD).length = A.length := List.length_map ..
      have c1 : DL.cutD (rs.map rowD) none (some x) = A.map rowD := by
        have := cut_to (A.map rowD) (rowD r :: B.map rowD)
        rw [la] at this
        rw [em, e2]; exact this
      have c2 : DL.cutD (rs.map rowD) (some (x + 1)) none = B.map rowD := by
        have := cut_past (A.map rowD) (rowD r) (B.map rowD)
        rw [la] at this
        rw [em, e2]; exact this
      have c3 : atI (rs.map rowD) x = some (rowD r) := by
        have := at_mid (A.map rowD) (rowD r) (B.map rowD)
        rw [la] at this
        rw [em, e2]; exact this
      have le := K.le
      have ll : rs.length = A.length + (B.length + 1) := by rw [e1, List.length_append, List.length_cons]
      simp only [c1, c2, c3, kSeq, kAsg, kRet, kIfS, kDrop, kNext, kNever, kOwnS, kApp, kSub, kPar, kAndV_e, kOrV_e, kNotV, kAndT, kOrT, kNotT, kTest_e, isB_bl, kBin, kUn, kChain_e, condV, kCall, kCons, kNil, kTup, kLst, kLstO, kOut, kCompO, kIter, kEnum, kZip, kRng1, DL.kV, kB, kC, kIf, kStar, kSl, kPart, kNoPart, kFn, kFnK, kIsi2, kFor, gN, gTupD, gsCons, gsNil, kYes, dNeg, dAdd, dSub, dMod, dDiv, dMul, dPow, dCmp, dInt, dEq, dNe, dIn, dNotIn, dIx, dIsN, bLen, bInt, bAbs, bTuple, bList, bAny, bAll, bIsi, startD, DL.okW, wipeD, List.map_cons, List.map_nil, List.cons_append, List.nil_append, List.getElem?_cons_zero, List.getElem?_cons_succ, List.set_cons_zero, List.set_cons_succ, List.length_cons, List.length_nil, List.replicate_succ, List.replicate_zero, List.all_cons, List.all_nil, Bool.and_true, Bool.true_and, tyn_int, tyn_bl, tyn_non, tyn_tup, tyn_lst, kit_ii, kit_ib, kit_tt, kit_ll, kit_lt, kit_tl, flat_int, v_int, flat_row, pl_non, pl_bl, pl_int, pl_tup, pl_lst, eqb_int, eqb_nil, eqb_non, isN_non, isN_pair, ne_eq, not_false_eq_true, true_and, and_true, if_true, if_false, Bool.false_eq_true, reduceCtorEq, String.reduceEq, Bool.not_true, Bool.not_false, Bool.or_false, Bool.false_or, Bool.or_true, Bool.true_or, Nat.zero_add, Nat.reduceAdd, Nat.reduceLeDiff, Nat.reduceSub, Nat.reduceEqDiff, kRng2, kExt, kPar3, dNotN, bRepr, List.append_nil]
      have zz := z (.val (.int x)) n' (by omega)
      have lr : (r.map bD).length = r.length := List.length_map ..
      have er : rowD r = .tup (r.map bD) := rfl
      rw [er]
      simp only [lr, zero_row, c_bursts_of, kSeq, kAsg, kRet, kIfS, kDrop, kNext, kNever, kOwnS, kApp, kSub, kPar, kAndV_e, kOrV_e, kNotV, kAndT, kOrT, kNotT, kTest_e, isB_bl, kBin, kUn, kChain_e, condV, kCall, kCons, kNil, kTup, kLst, kLstO, kOut, kCompO, kIter, kEnum, kZip, kRng1, DL.kV, kB, kC, kIf, kStar, kSl, kPart, kNoPart, kFn, kFnK, kIsi2, kFor, gN, gTupD, gsCons, gsNil, kYes, dNeg, dAdd, dSub, dMod, dDiv, dMul, dPow, dCmp, dInt, dEq, dNe, dIn, dNotIn, dIx, dIsN, bLen, bInt, bAbs, bTuple, bList, bAny, bAll, bIsi, startD, DL.okW, wipeD, List.map_cons, List.map_nil, List.cons_append, List.nil_append, List.getElem?_cons_zero, List.getElem?_cons_succ, List.set_cons_zero, List.set_cons_succ, List.length_cons, List.length_nil, List.replicate_succ, List.replicate_zero, List.all_cons, List.all_nil, Bool.and_true, Bool.true_and, tyn_int, tyn_bl, tyn_non, tyn_tup, tyn_lst, kit_ii, kit_ib, kit_tt, kit_ll, kit_lt, kit_tl, flat_int, v_int, flat_row, pl_non, pl_bl, pl_int, pl_tup, pl_lst, eqb_int, eqb_nil, eqb_non, isN_non, isN_pair, ne_eq, not_false_eq_true, true_and, and_true, if_true, if_false, Bool.false_eq_true, reduceCtorEq, String.reduceEq, Bool.not_true, Bool.not_false, Bool.or_false, Bool.false_or, Bool.or_true, Bool.true_or, Nat.zero_add, Nat.reduceAdd, Nat.reduceLeDiff, Nat.reduceSub, Nat.reduceEqDiff, kRng2, kExt, kPar3, dNotN, bRepr, List.append_nil]
      have fin : ∃ rs' d b' g', [D.lst (A.map rowD ++ [rowD (List.replicate r.length false)] ++ B.map rowD), .int (b : Nat), .int (g : Nat)] = [d, .int b', .int g'] ∧ rowsIs rs' d ∧ (1 ≤ b' ∧ b' ≤ 8 ∧ 0 ≤ g' ∧ g' ≤ 24) ∧ if (resD (bursts b' g' (wrongs rs'))).isN = true then E.rt (.bl false) n' else kr_law_one_right_9 E [.val (.pen cs), .val (.lst (rs.map rowD)), .val (.int (b : Nat)), .val (.int (g : Nat)),  .val (.lst ((parted g [] (wrongs rs)).map pairD)), .val (.bl (mild b g (wrongs rs))), .val (.lst ((wrongs rs).map D.int)),  s7, .val (.int x), .no, .no] n' := by
        refine ⟨A ++ List.replicate r.length false :: B, _, b, g, rfl, rows_ok (.inl ?_) ?_ ?_, ?_, ?_⟩
        · rw [List.map_append, List.map_cons, List.append_assoc]
          rfl
        · rw [List.length_append, List.length_cons]; omega
        · intro r' hr'
          rcases List.mem_append.mp hr' with h | h
          · exact K.row r' (by rw [e1]; exact List.mem_append_left _ h)
          · rcases List.mem_cons.mp h with h | h
            · rw [h, List.length_replicate]; exact rl
            · exact K.row r' (by rw [e1]; exact List.mem_append_right _ (List.mem_cons_of_mem _ h))
        · have := K.b; have := K.g; omega
        · have m2 : mild b g (wrongs (A ++ List.replicate r.length false :: B)) = true := by
            unfold wrongs
            rw [List.map_append, List.map_cons, hot_false]
            refine mild_less b g (A.map hot) (B.map hot) ?_
            have : (A.map hot) ++ true :: B.map hot = rs.map hot := by rw [e1, List.map_append, List.map_cons, e3]
            rw [this]
            exact hm
          rw [bursts_mild, if_pos m2]
          exact zz
      refine ⟨?_, ?_, ?_⟩
      · rcases (show r.length = 0 ∨ r.length = 1 ∨ 2 ≤ r.length by omega) with h | h | h
        · exact .inr (.inr (by omega))
        · exact .inl (by omega)
        · exact .inr (.inl ⟨by omega, by omega⟩)
      · simp only [List.length_map]; omega
      · refine ⟨?_, fin⟩
        simp only [List.length_append, List.length_map, List.length_cons, List.length_nil]; omega
    · rw [if_neg hm]
      exact z .no n (by omega)
theorem m_can (b g : Int) (n : Nat) (X : List Int) (Q : D → Nat → Prop) (h : X.length ≤ 10) (q : Q (.bl (canP b g 10 X)) n) : c_law_can_part 11 [.lst (X.map D.int), .int b, .int g] n Q := ⟨X, b, g, rfl, h, by decide, q⟩
theorem wrongs_len {b g : Nat} {rs : List (List Bool)} (K : Rws b g rs) : (wrongs rs).length ≤ 30 := by
  have := posn_len (rs.map hot) 0
  rw [List.length_map] at this
  have := K.le
  unfold wrongs
  omega
theorem t11 (E : DEnds) (cs : List Int) (b g : Nat) (n N : Nat) (rs : List (List Bool)) (s7 : Sl) (K : Rws b g rs) (hn : n + 1 ≤ N) (hN : N ≤ 90000) (q : ∀ n', n' ≤ N → E.rt (.bl true) n') :
    kr_law_one_right_11 E [.val (.pen cs), .val (.lst (rs.map rowD)), .val (.int (b : Nat)), .val (.int (g : Nat)),  .val (.lst ((parted g [] (wrongs rs)).map pairD)), .val (.bl (mild b g (wrongs rs))), .val (.lst ((wrongs rs).map D.int)),  s7, .no, .no, .no] n := by
  have z := t10 E cs b g n N rs s7 K hn hN q
  simp only [kr_law_one_right_11, kSeq, kAsg, kRet, kIfS, kDrop, kNext, kNever, kOwnS, kApp, kSub, kPar, kAndV_e, kOrV_e, kNotV, kAndT, kOrT, kNotT, kTest_e, isB_bl, kBin, kUn, kChain_e, condV, kCall, kCons, kNil, kTup, kLst, kLstO, kOut, kCompO, kIter, kEnum, kZip, kRng1, DL.kV, kB, kC, kIf, kStar, kSl, kPart, kNoPart, kFn, kFnK, kIsi2, kFor, gN, gTupD, gsCons, gsNil, kYes, dNeg, dAdd, dSub, dMod, dDiv, dMul, dPow, dCmp, dInt, dEq, dNe, dIn, dNotIn, dIx, dIsN, bLen, bInt, bAbs, bTuple, bList, bAny, bAll, bIsi, startD, DL.okW, wipeD, List.map_cons, List.map_nil, List.cons_append, List.nil_append, List.getElem?_cons_zero, List.getElem?_cons_succ, List.set_cons_zero, List.set_cons_succ, List.length_cons, List.length_nil, List.replicate_succ, List.replicate_zero, List.all_cons, List.all_nil, Bool.and_true, Bool.true_and, tyn_int, tyn_bl, tyn_non, tyn_tup, tyn_lst, kit_ii, kit_ib, kit_tt, kit_ll, kit_lt, kit_tl, flat_int, v_int, flat_row, pl_non, pl_bl, pl_int, pl_tup, pl_lst, eqb_int, eqb_nil, eqb_non, isN_non, isN_pair, ne_eq, not_false_eq_true, true_and, and_true, if_true, if_false, Bool.false_eq_true, reduceCtorEq, String.reduceEq, Bool.not_true, Bool.not_false, Bool.or_false, Bool.false_or, Bool.or_true, Bool.true_or, Nat.zero_add, Nat.reduceAdd, Nat.reduceLeDiff, Nat.reduceSub, Nat.reduceEqDiff, kRng2, kExt, kPar3, dNotN, bRepr, List.append_nil]
  by_cases h : (wrongs rs).length < 10
  · rw [if_pos (decide_eq_true (by rw [List.length_map]; omega))]
    refine m_can _ _ _ _ _ (by omega) ?_
    rw [show canP b g 10 (wrongs rs) = mild b g (wrongs rs) from can_mild b g 10 (rs.map hot) (by show (wrongs rs).length ≤ 10; omega)]
    simp only [eqb_bl, beq_self_eq_true, kSeq, kAsg, kRet, kIfS, kDrop, kNext, kNever, kOwnS, kApp, kSub, kPar, kAndV_e, kOrV_e, kNotV, kAndT, kOrT, kNotT, kTest_e, isB_bl, kBin, kUn, kChain_e, condV, kCall, kCons, kNil, kTup, kLst, kLstO, kOut, kCompO, kIter, kEnum, kZip, kRng1, DL.kV, kB, kC, kIf, kStar, kSl, kPart, kNoPart, kFn, kFnK, kIsi2, kFor, gN, gTupD, gsCons, gsNil, kYes, dNeg, dAdd, dSub, dMod, dDiv, dMul, dPow, dCmp, dInt, dEq, dNe, dIn, dNotIn, dIx, dIsN, bLen, bInt, bAbs, bTuple, bList, bAny, bAll, bIsi, startD, DL.okW, wipeD, List.map_cons, List.map_nil, List.cons_append, List.nil_append, List.getElem?_cons_zero, List.getElem?_cons_succ, List.set_cons_zero, List.set_cons_succ, List.length_cons, List.length_nil, List.replicate_succ, List.replicate_zero, List.all_cons, List.all_nil, Bool.and_true, Bool.true_and, tyn_int, tyn_bl, tyn_non, tyn_tup, tyn_lst, kit_ii, kit_ib, kit_tt, kit_ll, kit_lt, kit_tl, flat_int, v_int, flat_row, pl_non, pl_bl, pl_int, pl_tup, pl_lst, eqb_int, eqb_nil, eqb_non, isN_non, isN_pair, ne_eq, not_false_eq_true, true_and, and_true, if_true, if_false, Bool.false_eq_true, reduceCtorEq, String.reduceEq, Bool.not_true, Bool.not_false, Bool.or_false, Bool.false_or, Bool.or_true, Bool.true_or, Nat.zero_add, Nat.reduceAdd, Nat.reduceLeDiff, Nat.reduceSub, Nat.reduceEqDiff, kRng2, kExt, kPar3, dNotN, bRepr, List.append_nil]
    exact z
  · rw [if_neg (by rw [decide_eq_true_iff, List.length_map]; omega)]
    exact z
theorem t12 (E : DEnds) (cs : List Int) (b g : Nat) (n N : Nat) (rs : List (List Bool)) (K : Rws b g rs) (hn : n + 1 ≤ N) (hN : N ≤ 90000) (q : ∀ n', n' ≤ N → E.rt (.bl true) n') :
    kr_law_one_right_12 E [.val (.pen cs), .val (.lst (rs.map rowD)), .val (.int (b : Nat)), .val (.int (g : Nat)),  .val (.lst ((parted g [] (wrongs rs)).map pairD)), .val (.bl (mild b g (wrongs rs))), .val (.lst ((wrongs rs).map D.int)),  .val (resD (bursts b g (wrongs rs))), .no, .no, .no] n := by
  have z := t11 E cs b g n N rs (.val (resD (bursts b g (wrongs rs)))) K hn hN q
  have le := K.le
  obtain ⟨o1, o2, o3, o4⟩ := repr_ok _ (bursts_small (b := b) (g := g) (rs.map hot) (by rw [List.length_map]; omega))
  have eW : posn 0 (rs.map hot) = wrongs rs := rfl
  rw [eW] at o1 o2 o3 o4
  have call : c_bursts_of (permed D.non [2, 1, 0] ([] ++ [D.int (g : Nat), .int (b : Nat), .tup (rs.map rowD)])) n fun d n3 => D.pl 8 d ∧ D.pl 8 (resD (bursts b g (wrongs rs))) ∧ if (!d.eqb (resD (bursts b g (wrongs rs)))) = true then E.rt (.bl false) n3 else kr_law_one_right_11 E [.val (.pen cs), .val (.lst (rs.map rowD)), .val (.int (b : Nat)), .val (.int (g : Nat)),  .val (.lst ((parted g [] (wrongs rs)).map pairD)), .val (.bl (mild b g (wrongs rs))), .val (.lst ((wrongs rs).map D.int)),  .val (resD (bursts b g (wrongs rs))), .no, .no, .no] n3 := by
    refine ⟨rs, .tup (rs.map rowD), b, g, rfl, rows_ok (.inr rfl) (by omega) K.row, ?_, o1, o1, ?_⟩
    · have := K.b; have := K.g; omega
    · rw [eqb_res]
      exact z
  have bm := bursts_mild (b := b) (g := g) (X := wrongs rs)
  simp only [kr_law_one_right_12, kSeq, kAsg, kRet, kIfS, kDrop, kNext, kNever, kOwnS, kApp, kSub, kPar, kAndV_e, kOrV_e, kNotV, kAndT, kOrT, kNotT, kTest_e, isB_bl, kBin, kUn, kChain_e, condV, kCall, kCons, kNil, kTup, kLst, kLstO, kOut, kCompO, kIter, kEnum, kZip, kRng1, DL.kV, kB, kC, kIf, kStar, kSl, kPart, kNoPart, kFn, kFnK, kIsi2, kFor, gN, gTupD, gsCons, gsNil, kYes, dNeg, dAdd, dSub, dMod, dDiv, dMul, dPow, dCmp, dInt, dEq, dNe, dIn, dNotIn, dIx, dIsN, bLen, bInt, bAbs, bTuple, bList, bAny, bAll, bIsi, startD, DL.okW, wipeD, List.map_cons, List.map_nil, List.cons_append, List.nil_append, List.getElem?_cons_zero, List.getElem?_cons_succ, List.set_cons_zero, List.set_cons_succ, List.length_cons, List.length_nil, List.replicate_succ, List.replicate_zero, List.all_cons, List.all_nil, Bool.and_true, Bool.true_and, tyn_int, tyn_bl, tyn_non, tyn_tup, tyn_lst, kit_ii, kit_ib, kit_tt, kit_ll, kit_lt, kit_tl, flat_int, v_int, flat_row, pl_non, pl_bl, pl_int, pl_tup, pl_lst, eqb_int, eqb_nil, eqb_non, isN_non, isN_pair, ne_eq, not_false_eq_true, true_and, and_true, if_true, if_false, Bool.false_eq_true, reduceCtorEq, String.reduceEq, Bool.not_true, Bool.not_false, Bool.or_false, Bool.false_or, Bool.or_true, Bool.true_or, Nat.zero_add, Nat.reduceAdd, Nat.reduceLeDiff, Nat.reduceSub, Nat.reduceEqDiff, kRng2, kExt, kPar3, dNotN, bRepr, List.append_nil]
  refine ⟨o1, o2, o3, ?_⟩
  by_cases m : mild b g (wrongs rs) = true
  · rw [if_pos m]
    rw [if_pos m] at bm
    have e : resD (bursts b g (wrongs rs)) = .tup ((parted g [] (wrongs rs)).map pairD) := by rw [bm]; rfl
    rw [e] at o1 o2 o3 o4 call ⊢
    refine ⟨o1, o2, o3, o4, o4, ?_⟩
    rw [eqb_str, if_neg (by decide)]
    exact call
  · rw [if_neg m]
    rw [if_neg m] at bm
    have e : resD (bursts b g (wrongs rs)) = .non := by rw [bm]; rfl
    rw [e] at o1 o2 o3 o4 call ⊢
    refine ⟨o2, o3, o4, o4, ?_⟩
    rw [eqb_str, if_neg (by decide)]
    exact call
theorem t14 (E : DEnds) (cs : List Int) (b g : Nat) (n N : Nat) (rs : List (List Bool)) (K : Rws b g rs) (hn : n + 1 ≤ N) (hN : N ≤ 90000) (q : ∀ n', n' ≤ N → E.rt (.bl true) n') :
    kr_law_one_right_14 E [.val (.pen cs), .val (.lst (rs.map rowD)), .val (.int (b : Nat)), .val (.int (g : Nat)),  .no, .no, .no, .no, .no, .no, .no] n := by
  have z := t12 E cs b g n N rs K hn hN q
  have le := K.le
  have hbg : 1 ≤ (b : Int) ∧ (b : Int) ≤ 8 ∧ 0 ≤ (g : Int) ∧ (g : Int) ≤ 24 := by have := K.b; have := K.g; omega
  simp only [kr_law_one_right_14, kr_law_one_right_13, c_law_parted, c_law_is_mild, c_bursts_of, kSeq, kAsg, kRet, kIfS, kDrop, kNext, kNever, kOwnS, kApp, kSub, kPar, kAndV_e, kOrV_e, kNotV, kAndT, kOrT, kNotT, kTest_e, isB_bl, kBin, kUn, kChain_e, condV, kCall, kCons, kNil, kTup, kLst, kLstO, kOut, kCompO, kIter, kEnum, kZip, kRng1, DL.kV, kB, kC, kIf, kStar, kSl, kPart, kNoPart, kFn, kFnK, kIsi2, kFor, gN, gTupD, gsCons, gsNil, kYes, dNeg, dAdd, dSub, dMod, dDiv, dMul, dPow, dCmp, dInt, dEq, dNe, dIn, dNotIn, dIx, dIsN, bLen, bInt, bAbs, bTuple, bList, bAny, bAll, bIsi, startD, DL.okW, wipeD, List.map_cons, List.map_nil, List.cons_append, List.nil_append, List.getElem?_cons_zero, List.getElem?_cons_succ, List.set_cons_zero, List.set_cons_succ, List.length_cons, List.length_nil, List.replicate_succ, List.replicate_zero, List.all_cons, List.all_nil, Bool.and_true, Bool.true_and, tyn_int, tyn_bl, tyn_non, tyn_tup, tyn_lst, kit_ii, kit_ib, kit_tt, kit_ll, kit_lt, kit_tl, flat_int, v_int, flat_row, pl_non, pl_bl, pl_int, pl_tup, pl_lst, eqb_int, eqb_nil, eqb_non, isN_non, isN_pair, ne_eq, not_false_eq_true, true_and, and_true, if_true, if_false, Bool.false_eq_true, reduceCtorEq, String.reduceEq, Bool.not_true, Bool.not_false, Bool.or_false, Bool.false_or, Bool.or_true, Bool.true_or, Nat.zero_add, Nat.reduceAdd, Nat.reduceLeDiff, Nat.reduceSub, Nat.reduceEqDiff, kRng2, kExt, kPar3, dNotN, bRepr, List.append_nil]
  refine ⟨rs, g, rfl, by omega, rs, b, g, rfl, by omega, by rw [enumD_len, List.length_map]; omega, ?_⟩
  refine comps_fm fWrong _ _ (fun x hx R hR => ?_) ?_
  · obtain ⟨j, e, rfl, he⟩ := mem_enum _ _ _ hx
    obtain ⟨r, hr, rfl⟩ := List.mem_map.mp he
    have f : fWrong (.tup [.int j, rowD r]) = if hot r = true then some (.int j) else none := by
      show (if inV (.int 1) ((r.map bD).map D.v) = true then some (D.int j) else none) = _
      rw [hot_in]
    rw [f] at hR
    simp only [kg_law_one_right_2, kt_law_one_right_1, ke_law_one_right_3, rowD, hot_in, kSeq, kAsg, kRet, kIfS, kDrop, kNext, kNever, kOwnS, kApp, kSub, kPar, kAndV_e, kOrV_e, kNotV, kAndT, kOrT, kNotT, kTest_e, isB_bl, kBin, kUn, kChain_e, condV, kCall, kCons, kNil, kTup, kLst, kLstO, kOut, kCompO, kIter, kEnum, kZip, kRng1, DL.kV, kB, kC, kIf, kStar, kSl, kPart, kNoPart, kFn, kFnK, kIsi2, kFor, gN, gTupD, gsCons, gsNil, kYes, dNeg, dAdd, dSub, dMod, dDiv, dMul, dPow, dCmp, dInt, dEq, dNe, dIn, dNotIn, dIx, dIsN, bLen, bInt, bAbs, bTuple, bList, bAny, bAll, bIsi, startD, DL.okW, wipeD, List.map_cons, List.map_nil, List.cons_append, List.nil_append, List.getElem?_cons_zero, List.getElem?_cons_succ, List.set_cons_zero, List.set_cons_succ, List.length_cons, List.length_nil, List.replicate_succ, List.replicate_zero, List.all_cons, List.all_nil, Bool.and_true, Bool.true_and, tyn_int, tyn_bl, tyn_non, tyn_tup, tyn_lst, kit_ii, kit_ib, kit_tt, kit_ll, kit_lt, kit_tl, flat_int, v_int, flat_row, pl_non, pl_bl, pl_int, pl_tup, pl_lst, eqb_int, eqb_nil, eqb_non, isN_non, isN_pair, ne_eq, not_false_eq_true, true_and, and_true, if_true, if_false, Bool.false_eq_true, reduceCtorEq, String.reduceEq, Bool.not_true, Bool.not_false, Bool.or_false, Bool.false_or, Bool.or_true, Bool.true_or, Nat.zero_add, Nat.reduceAdd, Nat.reduceLeDiff, Nat.reduceSub, Nat.reduceEqDiff, kRng2, kExt, kPar3, dNotN, bRepr, List.append_nil]
    by_cases hh : hot r = true
    · rw [if_pos hh] at hR ⊢
      exact hR
    · rw [if_neg hh] at hR ⊢
      exact hR
  · rw [fWrong_posn]
    exact ⟨rs, _, b, g, rfl, rows_ok (.inl rfl) (by omega) K.row, hbg, z⟩
theorem t15 (E : DEnds) (cs : List Int) (b : Nat) (n : Nat) (rs : List (List Bool)) (hl : rs.length ≤ 30) (hr : ∀ r ∈ rs, r.length ≤ 3) (hb : 1 ≤ b ∧ b ≤ 8) (hn : n ≤ 20000) (q : ∀ n', n' ≤ n + 10 → E.rt (.bl true) n') :
    kr_law_one_right_15 E [.val (.pen cs), .val (.lst (rs.map rowD)), .val (.int (b : Nat)), .no, .no, .no, .no, .no, .no, .no, .no] n := by
  simp only [kr_law_one_right_15, c_law_draw, c_law_pick, kSeq, kAsg, kRet, kIfS, kDrop, kNext, kNever, kOwnS, kApp, kSub, kPar, kAndV_e, kOrV_e, kNotV, kAndT, kOrT, kNotT, kTest_e, isB_bl, kBin, kUn, kChain_e, condV, kCall, kCons, kNil, kTup, kLst, kLstO, kOut, kCompO, kIter, kEnum, kZip, kRng1, DL.kV, kB, kC, kIf, kStar, kSl, kPart, kNoPart, kFn, kFnK, kIsi2, kFor, gN, gTupD, gsCons, gsNil, kYes, dNeg, dAdd, dSub, dMod, dDiv, dMul, dPow, dCmp, dInt, dEq, dNe, dIn, dNotIn, dIx, dIsN, bLen, bInt, bAbs, bTuple, bList, bAny, bAll, bIsi, startD, DL.okW, wipeD, List.map_cons, List.map_nil, List.cons_append, List.nil_append, List.getElem?_cons_zero, List.getElem?_cons_succ, List.set_cons_zero, List.set_cons_succ, List.length_cons, List.length_nil, List.replicate_succ, List.replicate_zero, List.all_cons, List.all_nil, Bool.and_true, Bool.true_and, tyn_int, tyn_bl, tyn_non, tyn_tup, tyn_lst, kit_ii, kit_ib, kit_tt, kit_ll, kit_lt, kit_tl, flat_int, v_int, flat_row, pl_non, pl_bl, pl_int, pl_tup, pl_lst, eqb_int, eqb_nil, eqb_non, isN_non, isN_pair, ne_eq, not_false_eq_true, true_and, and_true, if_true, if_false, Bool.false_eq_true, reduceCtorEq, String.reduceEq, Bool.not_true, Bool.not_false, Bool.or_false, Bool.false_or, Bool.or_true, Bool.true_or, Nat.zero_add, Nat.reduceAdd, Nat.reduceLeDiff, Nat.reduceSub, Nat.reduceEqDiff, kRng2, kExt, kPar3, dNotN, bRepr, List.append_nil]
  refine ⟨cs, 25, rfl, ⟨by decide, by decide⟩, by omega, fun d a1 a2 n1 hn1 => ?_⟩
  refine ⟨cs, _, rfl, by simp, by simp, by omega, fun d4 h4 n4 hn4 => ?_⟩
  have g4 : ∃ g : Nat, d4 = .int (g : Nat) ∧ g ≤ 24 := by
    simp only [List.mem_cons, List.not_mem_nil, or_false] at h4
    rcases h4 with rfl | rfl | rfl | rfl | rfl | rfl | rfl
    · exact ⟨0, rfl, by decide⟩
    · exact ⟨1, rfl, by decide⟩
    · exact ⟨2, rfl, by decide⟩
    · exact ⟨3, rfl, by decide⟩
    · exact ⟨5, rfl, by decide⟩
    · exact ⟨24, rfl, by decide⟩
    · obtain ⟨j, rfl⟩ := Int.eq_ofNat_of_zero_le a1
      exact ⟨j, rfl, by omega⟩
  obtain ⟨g, rfl, hg⟩ := g4
  exact t14 E cs b g n4 (n + 10) rs ⟨hl, hr, hb, hg⟩ (by omega) (by omega) q
theorem m_law_one_right : ∀ ds n Q, c_law_one_right ds n Q → kb_law_one_right ⟨fun _ n' => Q .non n', Q, fun _ _ => False, fun _ _ => False⟩ (startD ["pen", "rows", "burst", "guard", "due", "is_mild", "wrong", "told", "at", "phase", "row"] ds) n := by
  rintro ds n Q ⟨cs, rfl, hn, q⟩
  simp only [kb_law_one_right, c_law_draw, c_law_pick, c_law_steps, kSeq, kAsg, kRet, kIfS, kDrop, kNext, kNever, kOwnS, kApp, kSub, kPar, kAndV_e, kOrV_e, kNotV, kAndT, kOrT, kNotT, kTest_e, isB_bl, kBin, kUn, kChain_e, condV, kCall, kCons, kNil, kTup, kLst, kLstO, kOut, kCompO, kIter, kEnum, kZip, kRng1, DL.kV, kB, kC, kIf, kStar, kSl, kPart, kNoPart, kFn, kFnK, kIsi2, kFor, gN, gTupD, gsCons, gsNil, kYes, dNeg, dAdd, dSub, dMod, dDiv, dMul, dPow, dCmp, dInt, dEq, dNe, dIn, dNotIn, dIx, dIsN, bLen, bInt, bAbs, bTuple, bList, bAny, bAll, bIsi, startD, DL.okW, wipeD, List.map_cons, List.map_nil, List.cons_append, List.nil_append, List.getElem?_cons_zero, List.getElem?_cons_succ, List.set_cons_zero, List.set_cons_succ, List.length_cons, List.length_nil, List.replicate_succ, List.replicate_zero, List.all_cons, List.all_nil, Bool.and_true, Bool.true_and, tyn_int, tyn_bl, tyn_non, tyn_tup, tyn_lst, kit_ii, kit_ib, kit_tt, kit_ll, kit_lt, kit_tl, flat_int, v_int, flat_row, pl_non, pl_bl, pl_int, pl_tup, pl_lst, eqb_int, eqb_nil, eqb_non, isN_non, isN_pair, ne_eq, not_false_eq_true, true_and, and_true, if_true, if_false, Bool.false_eq_true, reduceCtorEq, String.reduceEq, Bool.not_true, Bool.not_false, Bool.or_false, Bool.false_or, Bool.or_true, Bool.true_or, Nat.zero_add, Nat.reduceAdd, Nat.reduceLeDiff, Nat.reduceSub, Nat.reduceEqDiff, kRng2, kExt, kPar3, dNotN, bRepr, List.append_nil]
  refine ⟨cs, _, rfl, by simp, by decide, by omega, fun d1 h1 n1 hn1 => ?_⟩
  have g1 : ∃ k : Nat, d1 = .int (k : Nat) ∧ k ≤ 30 := by
    simp only [List.mem_cons, List.not_mem_nil, or_false] at h1
    rcases h1 with rfl | rfl | rfl | rfl | rfl | rfl | rfl
    · exact ⟨0, rfl, by decide⟩
    · exact ⟨1, rfl, by decide⟩
    · exact ⟨2, rfl, by decide⟩
    · exact ⟨5, rfl, by decide⟩
    · exact ⟨9, rfl, by decide⟩
    · exact ⟨14, rfl, by decide⟩
    · exact ⟨30, rfl, by decide⟩
  obtain ⟨k, rfl, hk⟩ := g1
  refine ⟨cs, k, rfl, hk, by omega, fun rs n2 l1 l2 hn2 => ?_⟩
  refine ⟨cs, 8, rfl, ⟨by decide, by decide⟩, by omega, fun d3 a3 b3 n3 hn3 => ?_⟩
  obtain ⟨j, rfl⟩ := Int.eq_ofNat_of_zero_le a3
  have eb : (1 : Int) + (j : Int) = ((1 + j : Nat) : Int) := by omega
  rw [eb]
  exact t15 _ cs (1 + j) n3 rs (by omega) l2 ⟨by omega, by omega⟩ (by omega) fun n' h' => q n' (by omega)
theorem lap_loop (E : DEnds) (cs : List Int) (s0 s3 : Sl) : ∀ (ds : List D) (s2 : Sl) (n : Nat), n + 200 * ds.length ≤ 10000 → (∀ s2 n', n' ≤ n + 200 * ds.length → E.nx [s0, .val (.pen cs), s2, s3] n') → kFors kg_law_1 kb_law_2 E ds [s0, .val (.pen cs), s2, s3] n
  | [], s2, n, hn, q => q s2 n (by omega)
  | d :: ds, s2, n, hn, q => by
    rw [List.length_cons] at hn q
    have ih := fun n' h1 h2 => lap_loop E cs s0 s3 ds (.val d) n' h1 h2
    rw [fors_cons]
    generalize kFors kg_law_1 kb_law_2 E ds = X at ih ⊢
    simp only [kg_law_1, kb_law_2, c_law_one_right, kSeq, kAsg, kRet, kIfS, kDrop, kNext, kNever, kOwnS, kApp, kSub, kPar, kAndV_e, kOrV_e, kNotV, kAndT, kOrT, kNotT, kTest_e, isB_bl, kBin, kUn, kChain_e, condV, kCall, kCons, kNil, kTup, kLst, kLstO, kOut, kCompO, kIter, kEnum, kZip, kRng1, DL.kV, kB, kC, kIf, kStar, kSl, kPart, kNoPart, kFn, kFnK, kIsi2, kFor, gN, gTupD, gsCons, gsNil, kYes, dNeg, dAdd, dSub, dMod, dDiv, dMul, dPow, dCmp, dInt, dEq, dNe, dIn, dNotIn, dIx, dIsN, bLen, bInt, bAbs, bTuple, bList, bAny, bAll, bIsi, startD, DL.okW, wipeD, List.map_cons, List.map_nil, List.cons_append, List.nil_append, List.getElem?_cons_zero, List.getElem?_cons_succ, List.set_cons_zero, List.set_cons_succ, List.length_cons, List.length_nil, List.replicate_succ, List.replicate_zero, List.all_cons, List.all_nil, Bool.and_true, Bool.true_and, tyn_int, tyn_bl, tyn_non, tyn_tup, tyn_lst, kit_ii, kit_ib, kit_tt, kit_ll, kit_lt, kit_tl, flat_int, v_int, flat_row, pl_non, pl_bl, pl_int, pl_tup, pl_lst, eqb_int, eqb_nil, eqb_non, isN_non, isN_pair, ne_eq, not_false_eq_true, true_and, and_true, if_true, if_false, Bool.false_eq_true, reduceCtorEq, String.reduceEq, Bool.not_true, Bool.not_false, Bool.or_false, Bool.false_or, Bool.or_true, Bool.true_or, Nat.zero_add, Nat.reduceAdd, Nat.reduceLeDiff, Nat.reduceSub, Nat.reduceEqDiff, kRng2, kExt, kPar3, dNotN, bRepr, List.append_nil]
    exact ⟨cs, rfl, by omega, fun n' h' => ih n' (by omega) fun s2 n2 h2 => q s2 n2 (by omega)⟩
def row7 : List (List Bool) := [[true], [false], [true], [true], [false], [false], [true]]
theorem m_law : ∀ cs : List Int, kb_law ⟨fun _ _ => False, fun d _ => d = .bl true, fun _ _ => False, fun _ _ => False⟩ (.no :: .val (.pen cs) :: List.replicate 2 .no) 0 := by
  intro cs
  simp only [kb_law, kSeq, kAsg, kRet, kIfS, kDrop, kNext, kNever, kOwnS, kApp, kSub, kPar, kAndV_e, kOrV_e, kNotV, kAndT, kOrT, kNotT, kTest_e, isB_bl, kBin, kUn, kChain_e, condV, kCall, kCons, kNil, kTup, kLst, kLstO, kOut, kCompO, kIter, kEnum, kZip, kRng1, DL.kV, kB, kC, kIf, kStar, kSl, kPart, kNoPart, kFn, kFnK, kIsi2, kFor, gN, gTupD, gsCons, gsNil, kYes, dNeg, dAdd, dSub, dMod, dDiv, dMul, dPow, dCmp, dInt, dEq, dNe, dIn, dNotIn, dIx, dIsN, bLen, bInt, bAbs, bTuple, bList, bAny, bAll, bIsi, startD, DL.okW, wipeD, List.map_cons, List.map_nil, List.cons_append, List.nil_append, List.getElem?_cons_zero, List.getElem?_cons_succ, List.set_cons_zero, List.set_cons_succ, List.length_cons, List.length_nil, List.replicate_succ, List.replicate_zero, List.all_cons, List.all_nil, Bool.and_true, Bool.true_and, tyn_int, tyn_bl, tyn_non, tyn_tup, tyn_lst, kit_ii, kit_ib, kit_tt, kit_ll, kit_lt, kit_tl, flat_int, v_int, flat_row, pl_non, pl_bl, pl_int, pl_tup, pl_lst, eqb_int, eqb_nil, eqb_non, isN_non, isN_pair, ne_eq, not_false_eq_true, true_and, and_true, if_true, if_false, Bool.false_eq_true, reduceCtorEq, String.reduceEq, Bool.not_true, Bool.not_false, Bool.or_false, Bool.false_or, Bool.or_true, Bool.true_or, Nat.zero_add, Nat.reduceAdd, Nat.reduceLeDiff, Nat.reduceSub, Nat.reduceEqDiff, kRng2, kExt, kPar3, dNotN, bRepr, List.append_nil]
  refine ⟨by decide, ?_⟩
  refine lap_loop _ cs _ _ _ _ 0 (by rw [rngD_len]; decide) fun s2 n' h' => ?_
  have a1 : bursts 4 2 (wrongs row7) = some [(0, 3), (6, 6)] := by decide
  have a2 : bursts 3 2 (wrongs row7) = none := by decide
  have a3 : bursts 3 1 (wrongs row7) = some [(0, 0), (2, 3), (6, 6)] := by decide
  have a4 : phasesL 2 2 = [(0, 0), (1, 0), (2, 0), (2, 1)] := by decide
  have a5 : phasesL 8 0 = [(0, 0)] := by decide
  have a6 : bursts 1 24 (wrongs []) = some [] := by decide
  have p7 : ∀ o, D.pl 7 (resD o) := fun o => by
    cases o with
    | none => rw [resD, pl_non]; trivial
    | some ps => exact pl_maps (pl_pair 5) ps
  have p8 : ∀ o, D.pl 8 (resD o) := fun o => by
    cases o with
    | none => rw [resD, pl_non]; trivial
    | some ps => exact pl_maps (pl_pair 6) ps
  have three : ∀ d ∈ [resD (some [(0, 3), (6, 6)]), resD none, resD (some [(0, 0), (2, 3), (6, 6)])], D.pl 7 d := fun d hd => by
    simp only [List.mem_cons, List.not_mem_nil, or_false] at hd
    rcases hd with rfl | rfl | rfl
    · exact p7 _
    · exact p7 _
    · exact p7 _
  simp only [c_bursts_of, c_phases, kSeq, kAsg, kRet, kIfS, kDrop, kNext, kNever, kOwnS, kApp, kSub, kPar, kAndV_e, kOrV_e, kNotV, kAndT, kOrT, kNotT, kTest_e, isB_bl, kBin, kUn, kChain_e, condV, kCall, kCons, kNil, kTup, kLst, kLstO, kOut, kCompO, kIter, kEnum, kZip, kRng1, DL.kV, kB, kC, kIf, kStar, kSl, kPart, kNoPart, kFn, kFnK, kIsi2, kFor, gN, gTupD, gsCons, gsNil, kYes, dNeg, dAdd, dSub, dMod, dDiv, dMul, dPow, dCmp, dInt, dEq, dNe, dIn, dNotIn, dIx, dIsN, bLen, bInt, bAbs, bTuple, bList, bAny, bAll, bIsi, startD, DL.okW, wipeD, List.map_cons, List.map_nil, List.cons_append, List.nil_append, List.getElem?_cons_zero, List.getElem?_cons_succ, List.set_cons_zero, List.set_cons_succ, List.length_cons, List.length_nil, List.replicate_succ, List.replicate_zero, List.all_cons, List.all_nil, Bool.and_true, Bool.true_and, tyn_int, tyn_bl, tyn_non, tyn_tup, tyn_lst, kit_ii, kit_ib, kit_tt, kit_ll, kit_lt, kit_tl, flat_int, v_int, flat_row, pl_non, pl_bl, pl_int, pl_tup, pl_lst, eqb_int, eqb_nil, eqb_non, isN_non, isN_pair, ne_eq, not_false_eq_true, true_and, and_true, if_true, if_false, Bool.false_eq_true, reduceCtorEq, String.reduceEq, Bool.not_true, Bool.not_false, Bool.or_false, Bool.false_or, Bool.or_true, Bool.true_or, Nat.zero_add, Nat.reduceAdd, Nat.reduceLeDiff, Nat.reduceSub, Nat.reduceEqDiff, kRng2, kExt, kPar3, dNotN, bRepr, List.append_nil]
  refine ⟨row7, _, 4, 2, rfl, rows_ok (.inl rfl) (by decide) (by decide), by decide, row7, _, 3, 2, rfl, rows_ok (.inl rfl) (by decide) (by decide), by decide, row7, _, 3, 1, rfl, rows_ok (.inl rfl) (by decide) (by decide), by decide, ?_⟩
  rw [a1, a2, a3]
  refine ⟨three, three, ?_⟩
  have e1 : (D.lst [resD (some [(0, 3), (6, 6)]), resD none, resD (some [(0, 0), (2, 3), (6, 6)])]).eqb (D.lst [D.tup [D.tup [D.int 0, D.int 3], D.tup [D.int 6, D.int 6]], D.non, D.tup [D.tup [D.int 0, D.int 0], D.tup [D.int 2, D.int 3], D.tup [D.int 6, D.int 6]]]) = true := rfl
  rw [e1, if_neg (by decide)]
  refine ⟨2, 2, rfl, by decide, pl_maps (pl_pair 6) _, pl_maps (pl_pair 6) [(0, 0), (1, 0), (2, 0), (2, 1)], ?_⟩
  rw [a4]
  have e2 : (D.tup (List.map pairD [(0, 0), (1, 0), (2, 0), (2, 1)])).eqb (D.tup [D.tup [D.int 0, D.int 0], D.tup [D.int 1, D.int 0], D.tup [D.int 2, D.int 0], D.tup [D.int 2, D.int 1]]) = true := rfl
  rw [e2, if_pos rfl]
  refine ⟨8, 0, rfl, by decide, pl_maps (pl_pair 6) _, pl_maps (pl_pair 6) [(0, 0)], ?_⟩
  rw [a5]
  have e3 : (D.tup (List.map pairD [(0, 0)])).eqb (D.tup [D.tup [D.int 0, D.int 0]]) = true := rfl
  rw [e3, if_pos rfl]
  refine ⟨[], _, 1, 24, rfl, rows_ok (.inl rfl) (by decide) (by decide), by decide, p8 _, (fun d hd => by cases hd), ?_⟩
  rw [a6]
  rfl
end L78
namespace L78
open PySem PySem.Spec PyProof.Rows L2 DL
def topS (i : Nat) : Stmt := PySem.Challenge.pw_spreadchecks_k78_phases_and_bursts_of_ro.main.body.getD i (.Pass ⟨0, 0, 0, 0⟩)
abbrev s_is_bit : Stmt := topS 5
theorem sc_is_bit : FnScope ["value"] ["value"] (defScope s_is_bit) := ⟨rfl, rfl, rfl, by decide +kernel, rfl, by decide +kernel, by decide +kernel⟩
abbrev s_is_bits : Stmt := topS 6
theorem sc_is_bits : FnScope ["value", "many", "part"] ["value", "many"] (defScope s_is_bits) := ⟨rfl, rfl, rfl, by decide +kernel, rfl, by decide +kernel, by decide +kernel⟩
abbrev s_is_between : Stmt := topS 8
theorem sc_is_between : FnScope ["value", "low", "high"] ["value", "low", "high"] (defScope s_is_between) := ⟨rfl, rfl, rfl, by decide +kernel, rfl, by decide +kernel, by decide +kernel⟩
abbrev s_need_bursts : Stmt := topS 13
theorem sc_need_bursts : FnScope ["burst", "guard"] ["burst", "guard"] (defScope s_need_bursts) := ⟨rfl, rfl, rfl, by decide +kernel, rfl, by decide +kernel, by decide +kernel⟩
abbrev s_phases : Stmt := topS 14
theorem sc_phases : FnScope ["burst", "guard", "found", "age", "most", "clean"] ["burst", "guard"] (defScope s_phases) := ⟨rfl, rfl, rfl, by decide +kernel, rfl, by decide +kernel, by decide +kernel⟩
abbrev s_need_steps : Stmt := topS 15
theorem sc_need_steps : FnScope ["rows", "at", "row"] ["rows"] (defScope s_need_steps) := ⟨rfl, rfl, rfl, by decide +kernel, rfl, by decide +kernel, by decide +kernel⟩
abbrev s_wrong_steps : Stmt := topS 16
theorem sc_wrong_steps : FnScope ["rows", "at", "row"] ["rows"] (defScope s_wrong_steps) := ⟨rfl, rfl, rfl, by decide +kernel, rfl, by decide +kernel, by decide +kernel⟩
abbrev s_bursts_of : Stmt := topS 17
theorem sc_bursts_of : FnScope ["rows", "burst", "guard", "found", "at", "first", "last"] ["rows", "burst", "guard"] (defScope s_bursts_of) := ⟨rfl, rfl, rfl, by decide +kernel, rfl, by decide +kernel, by decide +kernel⟩
abbrev s_law_pen : Stmt := topS 19
theorem sc_law_pen : FnScope ["script", "cell"] ["script"] (defScope s_law_pen) := ⟨rfl, rfl, rfl, by decide +kernel, rfl, by decide +kernel, by decide +kernel⟩
abbrev s_law_draw : Stmt := topS 20
theorem sc_law_draw : FnScope ["pen", "many", "rest", "turn", "cell", "mixed"] ["pen", "many"] (defScope s_law_draw) := ⟨rfl, rfl, rfl, by decide +kernel, rfl, by decide +kernel, by decide +kernel⟩
abbrev s_law_pick : Stmt := topS 21
theorem sc_law_pick : FnScope ["pen", "some"] ["pen", "some"] (defScope s_law_pick) := ⟨rfl, rfl, rfl, by decide +kernel, rfl, by decide +kernel, by decide +kernel⟩
abbrev s_law_all : Stmt := topS 22
theorem sc_law_all : FnScope ["many", "found", "turn", "longer", "bits"] ["many"] (defScope s_law_all) := ⟨rfl, rfl, rfl, by decide +kernel, rfl, by decide +kernel, by decide +kernel⟩
abbrev s_law_parted : Stmt := topS 23
theorem sc_law_parted : FnScope ["rows", "guard", "found", "at", "row"] ["rows", "guard"] (defScope s_law_parted) := ⟨rfl, rfl, rfl, by decide +kernel, rfl, by decide +kernel, by decide +kernel⟩
abbrev s_law_is_mild : Stmt := topS 24
theorem sc_law_is_mild : FnScope ["rows", "burst", "guard", "first", "last"] ["rows", "burst", "guard"] (defScope s_law_is_mild) := ⟨rfl, rfl, rfl, by decide +kernel, rfl, by decide +kernel, by decide +kernel⟩
abbrev s_law_after : Stmt := topS 25
theorem sc_law_after : FnScope ["phase", "is_wrong", "burst", "guard", "age", "clean"] ["phase", "is_wrong", "burst", "guard"] (defScope s_law_after) := ⟨rfl, rfl, rfl, by decide +kernel, rfl, by decide +kernel, by decide +kernel⟩
abbrev s_law_phases : Stmt := topS 26
theorem sc_law_phases : FnScope ["burst", "guard", "found", "turn", "some", "told", "age", "is_wrong", "phase", "clean"] ["burst", "guard"] (defScope s_law_phases) := ⟨rfl, rfl, rfl, by decide +kernel, rfl, by decide +kernel, by decide +kernel⟩
abbrev s_law_can_part : Stmt := topS 27
theorem sc_law_can_part : FnScope ["wrong", "burst", "guard", "many", "is_far"] ["wrong", "burst", "guard"] (defScope s_law_can_part) := ⟨rfl, rfl, rfl, by decide +kernel, rfl, by decide +kernel, by decide +kernel⟩
abbrev s_law_steps : Stmt := topS 28
theorem sc_law_steps : FnScope ["pen", "many", "found", "often", "turn", "width"] ["pen", "many"] (defScope s_law_steps) := ⟨rfl, rfl, rfl, by decide +kernel, rfl, by decide +kernel, by decide +kernel⟩
abbrev s_law_one_right : Stmt := topS 29
theorem sc_law_one_right : FnScope ["pen", "rows", "burst", "guard", "due", "is_mild", "wrong", "told", "at", "phase", "row"] ["pen"] (defScope s_law_one_right) := ⟨rfl, rfl, rfl, by decide +kernel, rfl, by decide +kernel, by decide +kernel⟩
abbrev s_law : Stmt := topS 30
theorem sc_law : FnScope ["script", "pen", "lap", "row"] ["script"] (defScope s_law) := ⟨rfl, rfl, rfl, by decide +kernel, rfl, by decide +kernel, by decide +kernel⟩
structure Adr where
  f_is_bit : Addr
  d_is_bit : FuncData
  f_is_bits : Addr
  d_is_bits : FuncData
  f_is_between : Addr
  d_is_between : FuncData
  f_need_bursts : Addr
  d_need_bursts : FuncData
  f_phases : Addr
  d_phases : FuncData
  f_need_steps : Addr
  d_need_steps : FuncData
  f_wrong_steps : Addr
  d_wrong_steps : FuncData
  f_bursts_of : Addr
  d_bursts_of : FuncData
  f_law_pen : Addr
  d_law_pen : FuncData
  f_law_draw : Addr
  d_law_draw : FuncData
  f_law_pick : Addr
  d_law_pick : FuncData
  f_law_all : Addr
  d_law_all : FuncData
  f_law_parted : Addr
  d_law_parted : FuncData
  f_law_is_mild : Addr
  d_law_is_mild : FuncData
  f_law_after : Addr
  d_law_after : FuncData
  f_law_phases : Addr
  d_law_phases : FuncData
  f_law_can_part : Addr
  d_law_can_part : FuncData
  f_law_steps : Addr
  d_law_steps : FuncData
  f_law_one_right : Addr
  d_law_one_right : FuncData
  f_law : Addr
  d_law : FuncData
  t_FREE : Addr
  t_MOST_BURST : Tok
  t_MOST_GUARD : Tok
structure Txt (K : PySem.W.Frag) (mg : Str → Option Value) (A : Adr) : Prop where
  z_abs : mg "abs" = none
  z_all : mg "all" = none
  z_any : mg "any" = none
  z_bool : mg "bool" = none
  z_enumerate : mg "enumerate" = none
  z_int : mg "int" = none
  z_isinstance : mg "isinstance" = none
  z_len : mg "len" = none
  z_list : mg "list" = none
  z_range : mg "range" = none
  z_repr : mg "repr" = none
  z_tuple : mg "tuple" = none
  m_is_bit : mg "is_bit" = some (.ref A.f_is_bit)
  k_is_bit : PySem.W.keepIn K (.ref A.f_is_bit) = true
  F_is_bit : Fun K "is_bit" "is_bit" s_is_bit A.f_is_bit A.d_is_bit
  b_is_bit : Binds K A.d_is_bit ["value"] []
  m_is_bits : mg "is_bits" = some (.ref A.f_is_bits)
  k_is_bits : PySem.W.keepIn K (.ref A.f_is_bits) = true
  F_is_bits : Fun K "is_bits" "is_bits" s_is_bits A.f_is_bits A.d_is_bits
  b_is_bits : Binds K A.d_is_bits ["value", "many"] []
  m_is_between : mg "is_between" = some (.ref A.f_is_between)
  k_is_between : PySem.W.keepIn K (.ref A.f_is_between) = true
  F_is_between : Fun K "is_between" "is_between" s_is_between A.f_is_between A.d_is_between
  b_is_between : Binds K A.d_is_between ["value", "low", "high"] []
  m_need_bursts : mg "need_bursts" = some (.ref A.f_need_bursts)
  k_need_bursts : PySem.W.keepIn K (.ref A.f_need_bursts) = true
  F_need_bursts : Fun K "need_bursts" "need_bursts" s_need_bursts A.f_need_bursts A.d_need_bursts
  b_need_bursts : Binds K A.d_need_bursts ["burst", "guard"] []
  m_phases : mg "phases" = some (.ref A.f_phases)
  k_phases : PySem.W.keepIn K (.ref A.f_phases) = true
  F_phases : Fun K "phases" "phases" s_phases A.f_phases A.d_phases
  b_phases : Binds K A.d_phases ["burst", "guard"] []
  m_need_steps : mg "need_steps" = some (.ref A.f_need_steps)
  k_need_steps : PySem.W.keepIn K (.ref A.f_need_steps) = true
  F_need_steps : Fun K "need_steps" "need_steps" s_need_steps A.f_need_steps A.d_need_steps
  b_need_steps : Binds K A.d_need_steps ["rows"] []
  m_wrong_steps : mg "wrong_steps" = some (.ref A.f_wrong_steps)
  k_wrong_steps : PySem.W.keepIn K (.ref A.f_wrong_steps) = true
  F_wrong_steps : Fun K "wrong_steps" "wrong_steps" s_wrong_steps A.f_wrong_steps A.d_wrong_steps
  b_wrong_steps : Binds K A.d_wrong_steps ["rows"] []
  m_bursts_of : mg "bursts_of" = some (.ref A.f_bursts_of)
  k_bursts_of : PySem.W.keepIn K (.ref A.f_bursts_of) = true
  F_bursts_of : Fun K "bursts_of" "bursts_of" s_bursts_of A.f_bursts_of A.d_bursts_of
  b_bursts_of : Binds K A.d_bursts_of ["rows", "burst", "guard"] []
  m_law_pen : mg "_law_pen" = some (.ref A.f_law_pen)
  k_law_pen : PySem.W.keepIn K (.ref A.f_law_pen) = true
  F_law_pen : Fun K "_law_pen" "_law_pen" s_law_pen A.f_law_pen A.d_law_pen
  b_law_pen : Binds K A.d_law_pen ["script"] []
  m_law_draw : mg "_law_draw" = some (.ref A.f_law_draw)
  k_law_draw : PySem.W.keepIn K (.ref A.f_law_draw) = true
  F_law_draw : Fun K "_law_draw" "_law_draw" s_law_draw A.f_law_draw A.d_law_draw
  b_law_draw : Binds K A.d_law_draw ["pen", "many"] []
  m_law_pick : mg "_law_pick" = some (.ref A.f_law_pick)
  k_law_pick : PySem.W.keepIn K (.ref A.f_law_pick) = true
  F_law_pick : Fun K "_law_pick" "_law_pick" s_law_pick A.f_law_pick A.d_law_pick
  b_law_pick : Binds K A.d_law_pick ["pen", "some"] []
  m_law_all : mg "_law_all" = some (.ref A.f_law_all)
  k_law_all : PySem.W.keepIn K (.ref A.f_law_all) = true
  F_law_all : Fun K "_law_all" "_law_all" s_law_all A.f_law_all A.d_law_all
  b_law_all : Binds K A.d_law_all ["many"] []
  m_law_parted : mg "_law_parted" = some (.ref A.f_law_parted)
  k_law_parted : PySem.W.keepIn K (.ref A.f_law_parted) = true
  F_law_parted : Fun K "_law_parted" "_law_parted" s_law_parted A.f_law_parted A.d_law_parted
  b_law_parted : Binds K A.d_law_parted ["rows", "guard"] []
  m_law_is_mild : mg "_law_is_mild" = some (.ref A.f_law_is_mild)
  k_law_is_mild : PySem.W.keepIn K (.ref A.f_law_is_mild) = true
  F_law_is_mild : Fun K "_law_is_mild" "_law_is_mild" s_law_is_mild A.f_law_is_mild A.d_law_is_mild
  b_law_is_mild : Binds K A.d_law_is_mild ["rows", "burst", "guard"] []
  m_law_after : mg "_law_after" = some (.ref A.f_law_after)
  k_law_after : PySem.W.keepIn K (.ref A.f_law_after) = true
  F_law_after : Fun K "_law_after" "_law_after" s_law_after A.f_law_after A.d_law_after
  b_law_after : Binds K A.d_law_after ["phase", "is_wrong", "burst", "guard"] []
  m_law_phases : mg "_law_phases" = some (.ref A.f_law_phases)
  k_law_phases : PySem.W.keepIn K (.ref A.f_law_phases) = true
  F_law_phases : Fun K "_law_phases" "_law_phases" s_law_phases A.f_law_phases A.d_law_phases
  b_law_phases : Binds K A.d_law_phases ["burst", "guard"] []
  m_law_can_part : mg "_law_can_part" = some (.ref A.f_law_can_part)
  k_law_can_part : PySem.W.keepIn K (.ref A.f_law_can_part) = true
  F_law_can_part : Fun K "_law_can_part" "_law_can_part" s_law_can_part A.f_law_can_part A.d_law_can_part
  b_law_can_part : Binds K A.d_law_can_part ["wrong", "burst", "guard"] []
  m_law_steps : mg "_law_steps" = some (.ref A.f_law_steps)
  k_law_steps : PySem.W.keepIn K (.ref A.f_law_steps) = true
  F_law_steps : Fun K "_law_steps" "_law_steps" s_law_steps A.f_law_steps A.d_law_steps
  b_law_steps : Binds K A.d_law_steps ["pen", "many"] []
  m_law_one_right : mg "_law_one_right" = some (.ref A.f_law_one_right)
  k_law_one_right : PySem.W.keepIn K (.ref A.f_law_one_right) = true
  F_law_one_right : Fun K "_law_one_right" "_law_one_right" s_law_one_right A.f_law_one_right A.d_law_one_right
  b_law_one_right : Binds K A.d_law_one_right ["pen"] []
  m_law : mg "law" = some (.ref A.f_law)
  k_law : PySem.W.keepIn K (.ref A.f_law) = true
  F_law : Fun K "law" "law" s_law A.f_law A.d_law
  b_law : Binds K A.d_law ["script"] []
  kw_0 : KwB K A.d_bursts_of ["rows", "burst", "guard"] 0 ["guard", "burst", "rows"] [2, 1, 0]
  kw_1 : KwB K A.d_phases ["burst", "guard"] 0 ["guard", "burst"] [1, 0]
  g_FREE : mg "FREE" = some (.ref A.t_FREE)
  r_FREE : ∀ pa F, Rep K pa F (.ref A.t_FREE) (.tup [.int 0, .int 0])
  g_MOST_BURST : mg "MOST_BURST" = some (.int 8 A.t_MOST_BURST)
  g_MOST_GUARD : mg "MOST_GUARD" = some (.int 24 A.t_MOST_GUARD)
section
variable {P : Program} {w : World} {K : PySem.W.Frag} {mg : Str → Option Value} {base : Heap} {A : Adr}
theorem ok_is_bit (T : Txt K mg A) : FnG P w K mg base CX0 1 A.f_is_bit A.d_is_bit ["value"] (spD K c_is_bit) := by
  have S := sc_is_bit
  refine def_ok (k := 0) T.F_is_bit sc_is_bit l_is_bit (fun cdv A0 outer s H E st => ?_)
  exact ⟨_, kb_is_bit, (dss_one (by exact (ds_ret (by exact (de_and (by exact (de_blt call_isi d_isi T.z_isinstance (by exact (dab_cons (by exact (dbv 0 (pv 0))) (by exact (dab_cons (by exact (DE.b (by exact (de_cls T.z_int)))) dab_nil)))))) (by exact (de_and (by exact (de_not (by exact (de_blt call_isi d_isi T.z_isinstance (by exact (dab_cons (by exact (dbv 0 (pv 0))) (by exact (dab_cons (by exact (DE.b (by exact (de_cls T.z_bool)))) dab_nil)))))))) (by exact (de_one (by exact (de_cmp (o_in st.u65) d_in (by exact (dbv 0 (pv 0))) (by exact (DE.b (by exact (de_tup (by exact (da_cons de_int (by exact (da_cons de_int da_nil)))))))) (by rfl)))))))))))), m_is_bit⟩
theorem ok_is_bits (T : Txt K mg A) : FnG P w K mg base CX0 2 A.f_is_bits A.d_is_bits ["value", "many"] (spD K c_is_bits) := by
  have S := sc_is_bits
  refine def_ok (k := 1) T.F_is_bits sc_is_bits l_is_bits (fun cdv A0 outer s H E st => ?_)
  exact ⟨_, kb_is_bits, (dss_one (by exact (ds_ret (by exact (de_and (by exact (de_blt call_isi d_isi T.z_isinstance (by exact (dab_cons (by exact (dbv 0 (pv 0))) (by exact (dab_cons (by exact (DE.b (by exact (de_cls T.z_tuple)))) dab_nil)))))) (by exact (de_and (by exact (de_cmp (op_eqD st.u64) d_eq (by exact (DE.b (by exact (de_blt c_len d_len T.z_len (by exact (dab_cons (by exact (dbv 0 (pv 0))) dab_nil)))))) (by exact (dbv 1 (pv 1))) (nomark _))) (by exact (de_one (by exact (de_blt (cr_all rfl) d_all T.z_all (by exact (dab_cons (by exact (DE.b (by exact (DOw.e (by exact (dow_lc (own := [("part", 2)]) (by exact (dlc_mk (own := [("part", 2)]) S.nd (by exact (di_seq (by exact (dev 0 (pv 0))))) (blkOk_by (by change blkC ["value", "many", "part"] (defScope s_is_bits) _ _ = true; decide +kernel)) (by exact (dg_name (pg_name (i := 2) S.nd rfl (by first | exact Or.inl rfl | exact Or.inr rfl)))) dts_nil (by exact (de_fn (ok_is_bit T) st.blk T.m_is_bit T.k_is_bit T.b_is_bit (by exact (da_cons (by exact (dev 2 (pv 2))) da_nil)))) (fun _ _ _ _ _ => (by exact (dg_name (pg_name (i := 2) S.nd rfl (by first | exact Or.inl rfl | exact Or.inr rfl))))) (fun _ _ _ _ _ => dts_nil) (fun _ _ _ _ _ => (by exact (de_fn (ok_is_bit T) st.blk T.m_is_bit T.k_is_bit T.b_is_bit (by exact (da_cons (by exact (dev 2 (pv 2))) da_nil))))))))))))) dab_nil))))))))))))), m_is_bits⟩
theorem ok_is_between (T : Txt K mg A) : FnG P w K mg base CX0 1 A.f_is_between A.d_is_between ["value", "low", "high"] (spD K c_is_between) := by
  have S := sc_is_between
  refine def_ok (k := 0) T.F_is_between sc_is_between l_is_between (fun cdv A0 outer s H E st => ?_)
  exact ⟨_, kb_is_between, (dss_one (by exact (ds_ret (by exact (de_and (by exact (de_blt call_isi d_isi T.z_isinstance (by exact (dab_cons (by exact (dbv 0 (pv 0))) (by exact (dab_cons (by exact (DE.b (by exact (de_cls T.z_int)))) dab_nil)))))) (by exact (de_and (by exact (de_not (by exact (de_blt call_isi d_isi T.z_isinstance (by exact (dab_cons (by exact (dbv 0 (pv 0))) (by exact (dab_cons (by exact (DE.b (by exact (de_cls T.z_bool)))) dab_nil)))))))) (by exact (de_one (by exact (de_chain op_le d_cmp op_le d_cmp (by exact (dbv 1 (pv 1))) (by exact (dbv 0 (pv 0))) (by exact (dbv 2 (pv 2))) (fun a b c => pe_chain op_le op_le a b c)))))))))))), m_is_between⟩
theorem ok_need_bursts (T : Txt K mg A) : FnG P w K mg base CX0 2 A.f_need_bursts A.d_need_bursts ["burst", "guard"] (spD K c_need_bursts) := by
  have S := sc_need_bursts
  refine def_ok (k := 1) T.F_need_bursts sc_need_bursts l_need_bursts (fun cdv A0 outer s H E st => ?_)
  exact ⟨_, kb_need_bursts, (dss_cons (by exact (ds_if (by exact (dt_not (by exact (dt_val (by exact (de_fn (ok_is_between T) st T.m_is_between T.k_is_between T.b_is_between (by exact (da_cons (by exact (dev 0 (pv 0))) (by exact (da_cons de_int (by exact (da_cons (by exact (de_glob (v := .int 8) T.g_MOST_BURST ⟨_, rfl⟩ (fun _ _ => .int 8))) da_nil))))))))))))
    (by exact (dss_one ds_never))
    dss_nil))
    (by exact (dss_one (by exact (ds_if (by exact (dt_not (by exact (dt_val (by exact (de_fn (ok_is_between T) st T.m_is_between T.k_is_between T.b_is_between (by exact (da_cons (by exact (dev 1 (pv 1))) (by exact (da_cons de_int (by exact (da_cons (by exact (de_glob (v := .int 24) T.g_MOST_GUARD ⟨_, rfl⟩ (fun _ _ => .int 24))) da_nil))))))))))))
    (by exact (dss_one ds_never))
    dss_nil))))), m_need_bursts⟩
theorem ok_phases (T : Txt K mg A) : FnG P w K mg base CX0 3 A.f_phases A.d_phases ["burst", "guard"] (spD K c_phases) := by
  have S := sc_phases
  refine def_ok (k := 2) T.F_phases sc_phases l_phases (fun cdv A0 outer s H E st => ?_)
  exact ⟨_, kb_phases, (dss_cons (by exact (ds_expr (by exact (de_fn (ok_need_bursts T) st T.m_need_bursts T.k_need_bursts T.b_need_bursts (by exact (da_cons (by exact (dev 0 (pv 0))) (by exact (da_cons (by exact (dev 1 (pv 1))) da_nil))))))))
    (by exact (dss_cons (by exact (ds_own 2 (by exact (dow_lst (by exact (da_cons (by exact (de_glob (v := .ref A.t_FREE) T.g_FREE rfl T.r_FREE)) da_nil)))) (fun h => ps_set (i := 2) S.nd rfl (by first | exact Or.inl rfl | exact Or.inr rfl) h)))
    (by exact (dss_cons (by exact (ds_for (by exact (di_rng2 T.z_range (by exact (da_cons de_int (by exact (da_cons (by exact (de_bin o_add d_add (by exact (dbv 0 (pv 0))) (by exact (DE.b de_int)))) da_nil)))))) (by exact (dg_name (pg_name (i := 3) S.nd rfl (by first | exact Or.inl rfl | exact Or.inr rfl))))
    (by exact (dss_cons (by exact (ds_set 4 (by exact (de_if (by exact (DW.t (by exact (dw_or (by exact (dt_cmp (op_eqD st.u64) d_eq (by exact (dbv 3 (pv 3))) (by exact (dbv 0 (pv 0))) (nomark _))) (by exact (dw_or1 (by exact (dt_cmp op_gt d_cmp (by exact (dbv 3 (pv 3))) (by exact (dbv 1 (pv 1))) (nomark _))))))))) (by exact (dev 1 (pv 1))) (by exact (dev 3 (pv 3))))) (fun h => ps_set (i := 4) S.nd rfl (by first | exact Or.inl rfl | exact Or.inr rfl) h)))
    (by exact (dss_one (by exact (ds_ext 2 (by exact (DOw.e (by exact (dow_lc (own := [("clean", 5)]) (by exact (dlc_mk (own := [("clean", 5)]) S.nd (by exact (di_rng1 T.z_range (by exact (da_cons (by exact (dev 4 (pv 4))) da_nil)))) (blkOk_by (by change blkC ["burst", "guard", "found", "age", "most", "clean"] (defScope s_phases) _ _ = true; decide +kernel)) (by exact (dg_name (pg_name (i := 5) S.nd rfl (by first | exact Or.inl rfl | exact Or.inr rfl)))) dts_nil (by exact (de_tup (by exact (da_cons (by exact (dev 3 (pv 3))) (by exact (da_cons (by exact (dev 5 (pv 5))) da_nil)))))) (fun _ _ _ _ _ => (by exact (dg_name (pg_name (i := 5) S.nd rfl (by first | exact Or.inl rfl | exact Or.inr rfl))))) (fun _ _ _ _ _ => dts_nil) (fun _ _ _ _ _ => (by exact (de_tup (by exact (da_cons (by exact (dev 3 (pv 3))) (by exact (da_cons (by exact (dev 5 (pv 5))) da_nil))))))))))))) (fun a => ps_expr (pe_bm PySem.F.plainAttrs_list PySem.F.slot_list_extend PySem.F.type_list_extend mt_extend (pv 2) (pa_cons a pa_nil))))))))) (fun a b c => ps_for PassesOwn.never rfl a b c)))
    (by exact (dss_one (by exact (ds_ret (by exact (de_if (by exact (dt_cmp op_gt d_cmp (by exact (dbv 1 (pv 1))) (by exact (DE.b de_int)) (nomark _))) (by exact (de_bty call_tuple_of d_tuple T.z_tuple (by exact (dab_cons (by exact (dbv 2 (pv 2))) dab_nil)))) (by exact (de_tup (by exact (da_cons (by exact (de_glob (v := .ref A.t_FREE) T.g_FREE rfl T.r_FREE)) da_nil))))))))))))))), m_phases⟩
theorem ok_need_steps (T : Txt K mg A) : FnG P w K mg base CX0 3 A.f_need_steps A.d_need_steps ["rows"] (spD K c_need_steps) := by
  have S := sc_need_steps
  refine def_ok (k := 2) T.F_need_steps sc_need_steps l_need_steps (fun cdv A0 outer s H E st => ?_)
  exact ⟨_, kb_need_steps, (dss_cons (by exact (ds_if (by exact (dt_not (by exact (dt_val (by exact (de_isi2 T.z_isinstance (by exact (dbv 0 (pv 0))) (pe_bltn (by rfl) T.z_list (by decide +kernel) rfl) (pe_bltn (by rfl) T.z_tuple (by decide +kernel) rfl)))))))
    (by exact (dss_one ds_never))
    dss_nil))
    (by exact (dss_one (by exact (ds_for (by exact (di_enum T.z_enumerate (by exact (da_cons (by exact (dev 0 (pv 0))) da_nil)))) (by exact (dg_tup (m := 2) (by exact (dgs_cons (by exact (dg_name (pg_name (i := 1) S.nd rfl (by first | exact Or.inl rfl | exact Or.inr rfl)))) (by exact (dgs_cons (by exact (dg_name (pg_name (i := 2) S.nd rfl (by first | exact Or.inl rfl | exact Or.inr rfl)))) dgs_nil))))))
    (by exact (dss_one (by exact (ds_if (by exact (DW.t (by exact (dw_or (by exact (dt_not (by exact (dt_val (by exact (de_blt call_isi d_isi T.z_isinstance (by exact (dab_cons (by exact (dbv 2 (pv 2))) (by exact (dab_cons (by exact (DE.b (by exact (de_cls T.z_tuple)))) dab_nil)))))))))) (by exact (dw_or1 (by exact (dt_not (by exact (dt_val (by exact (de_fn (ok_is_bits T) st T.m_is_bits T.k_is_bits T.b_is_bits (by exact (da_cons (by exact (dev 2 (pv 2))) (by exact (da_cons (by exact (de_blt c_len d_len T.z_len (by exact (dab_cons (by exact (dbv 2 (pv 2))) dab_nil)))) da_nil))))))))))))))))
    (by exact (dss_one ds_never))
    dss_nil)))) (fun a b c => ps_for PassesOwn.never rfl a b c)))))), m_need_steps⟩
theorem ok_wrong_steps (T : Txt K mg A) : FnG P w K mg base CX0 1 A.f_wrong_steps A.d_wrong_steps ["rows"] (spD K c_wrong_steps) := by
  have S := sc_wrong_steps
  refine def_ok (k := 0) T.F_wrong_steps sc_wrong_steps l_wrong_steps (fun cdv A0 outer s H E st => ?_)
  exact ⟨_, kb_wrong_steps, (dss_one (by exact (ds_ret (by exact (DOw.e (by exact (dow_lc (own := [("at", 1), ("row", 2)]) (by exact (dlc_mk (own := [("at", 1), ("row", 2)]) S.nd (by exact (di_enum T.z_enumerate (by exact (da_cons (by exact (dev 0 (pv 0))) da_nil)))) (blkOk_by (by change blkC ["rows", "at", "row"] (defScope s_wrong_steps) _ _ = true; decide +kernel)) (by exact (dg_tup (m := 2) (by exact (dgs_cons (by exact (dg_name (pg_name (i := 1) S.nd rfl (by first | exact Or.inl rfl | exact Or.inr rfl)))) (by exact (dgs_cons (by exact (dg_name (pg_name (i := 2) S.nd rfl (by first | exact Or.inl rfl | exact Or.inr rfl)))) dgs_nil)))))) (by exact (dts_one (by exact (dt_cmp (o_in st.blk.u65) d_in (by exact (DE.b de_int)) (by exact (dbv 2 (pv 2))) (by rfl))))) (by exact (dev 1 (pv 1))) (fun _ _ _ _ _ => (by exact (dg_tup (m := 2) (by exact (dgs_cons (by exact (dg_name (pg_name (i := 1) S.nd rfl (by first | exact Or.inl rfl | exact Or.inr rfl)))) (by exact (dgs_cons (by exact (dg_name (pg_name (i := 2) S.nd rfl (by first | exact Or.inl rfl | exact Or.inr rfl)))) dgs_nil))))))) (fun _ _ _ _ _ => (by exact (dts_one (by exact (dt_cmp (o_in st.blk.u65) d_in (by exact (DE.b de_int)) (by exact (dbv 2 (pv 2))) (by rfl)))))) (fun _ _ _ _ _ => (by exact (dev 1 (pv 1))))))))))))), m_wrong_steps⟩
theorem ok_bursts_of (T : Txt K mg A) : FnG P w K mg base CX0 4 A.f_bursts_of A.d_bursts_of ["rows", "burst", "guard"] (spD K c_bursts_of) := by
  have S := sc_bursts_of
  refine def_ok (k := 3) T.F_bursts_of sc_bursts_of l_bursts_of (fun cdv A0 outer s H E st => ?_)
  exact ⟨_, kb_bursts_of, (dss_cons (by exact (ds_expr (by exact (de_fn (ok_need_bursts T) st T.m_need_bursts T.k_need_bursts T.b_need_bursts (by exact (da_cons (by exact (dev 1 (pv 1))) (by exact (da_cons (by exact (dev 2 (pv 2))) da_nil))))))))
    (by exact (dss_cons (by exact (ds_expr (by exact (de_fn (ok_need_steps T) st T.m_need_steps T.k_need_steps T.b_need_steps (by exact (da_cons (by exact (dev 0 (pv 0))) da_nil))))))
    (by exact (dss_cons (by exact (ds_own 3 (by exact (dow_lst da_nil)) (fun h => ps_set (i := 3) S.nd rfl (by first | exact Or.inl rfl | exact Or.inr rfl) h)))
    (by exact (dss_cons (by exact (ds_for (by exact (di_seq (by exact (de_fn (ok_wrong_steps T) st T.m_wrong_steps T.k_wrong_steps T.b_wrong_steps (by exact (da_cons (by exact (dev 0 (pv 0))) da_nil)))))) (by exact (dg_name (pg_name (i := 4) S.nd rfl (by first | exact Or.inl rfl | exact Or.inr rfl))))
    (by exact (dss_one (by exact (ds_if (by exact (DW.t (by exact (dw_and (by exact (dt_cmp (op_neD st.u64) d_ne (by exact (dbv 3 (pv 3))) (by exact (DE.b (by exact (de_lst da_nil)))) (nomark _))) (by exact (dw_and1 (by exact (dt_cmp op_le d_cmp (by exact (DE.b (by exact (de_bin op_sub d_sub (by exact (dbv 4 (pv 4))) (by exact (DE.b (by exact (de_ix (by exact (DE.b (by exact (de_ix (by exact (dbv 3 (pv 3))) (by exact (DE.b (by exact (de_un un_neg un_negD (by exact (DE.b de_int)))))))))) (by exact (DE.b de_int)))))))))) (by exact (dbv 2 (pv 2))) (nomark _)))))))))
    (by exact (dss_one (by exact (ds_sub 3 (by exact (de_tup (by exact (da_cons (by exact (de_ix (by exact (DE.b (by exact (de_ix (by exact (dbv 3 (pv 3))) (by exact (DE.b (by exact (de_un un_neg un_negD (by exact (DE.b de_int)))))))))) (by exact (DE.b de_int)))) (by exact (da_cons (by exact (dev 4 (pv 4))) da_nil)))))) (by exact (de_un un_neg un_negD (by exact (DE.b de_int)))) (fun a b => ps_asg a (pg_sub (pv 3) b set_list))))))
    (by exact (dss_one (by exact (ds_app 3 (by exact (de_tup (by exact (da_cons (by exact (dev 4 (pv 4))) (by exact (da_cons (by exact (dev 4 (pv 4))) da_nil)))))) (fun a => ps_expr (pe_bm PySem.F.plainAttrs_list PySem.F.slot_list_append PySem.F.type_list_append mt_append (pv 3) (pa_cons a pa_nil))))))))))) (fun a b c => ps_for PassesOwn.never rfl a b c)))
    (by exact (dss_one (by exact (ds_ret (by exact (de_if (by exact (dt_val (by exact (de_blt (cr_any rfl) d_any T.z_any (by exact (dab_cons (by exact (DE.b (by exact (DOw.e (by exact (dow_lc (own := [("first", 5), ("last", 6)]) (by exact (dlc_mk (own := [("first", 5), ("last", 6)]) S.nd (by exact (di_seq (by exact (dev 3 (pv 3))))) (blkOk_by (by change blkC ["rows", "burst", "guard", "found", "at", "first", "last"] (defScope s_bursts_of) _ _ = true; decide +kernel)) (by exact (dg_tup (m := 2) (by exact (dgs_cons (by exact (dg_name (pg_name (i := 5) S.nd rfl (by first | exact Or.inl rfl | exact Or.inr rfl)))) (by exact (dgs_cons (by exact (dg_name (pg_name (i := 6) S.nd rfl (by first | exact Or.inl rfl | exact Or.inr rfl)))) dgs_nil)))))) dts_nil (by exact (de_cmp op_ge d_cmp (by exact (DE.b (by exact (de_bin op_sub d_sub (by exact (dbv 6 (pv 6))) (by exact (dbv 5 (pv 5))))))) (by exact (dbv 1 (pv 1))) (nomark _))) (fun _ _ _ _ _ => (by exact (dg_tup (m := 2) (by exact (dgs_cons (by exact (dg_name (pg_name (i := 5) S.nd rfl (by first | exact Or.inl rfl | exact Or.inr rfl)))) (by exact (dgs_cons (by exact (dg_name (pg_name (i := 6) S.nd rfl (by first | exact Or.inl rfl | exact Or.inr rfl)))) dgs_nil))))))) (fun _ _ _ _ _ => dts_nil) (fun _ _ _ _ _ => (by exact (de_cmp op_ge d_cmp (by exact (DE.b (by exact (de_bin op_sub d_sub (by exact (dbv 6 (pv 6))) (by exact (dbv 5 (pv 5))))))) (by exact (dbv 1 (pv 1))) (nomark _)))))))))))) dab_nil)))))) de_non (by exact (de_bty call_tuple_of d_tuple T.z_tuple (by exact (dab_cons (by exact (dbv 3 (pv 3))) dab_nil))))))))))))))))), m_bursts_of⟩
theorem ok_law_pen (T : Txt K mg A) : FnG P w K mg base CX0 1 A.f_law_pen A.d_law_pen ["script"] (spPen K) := by
  have S := sc_law_pen
  refine pen_ok T.F_law_pen sc_law_pen rfl (fun cdv A0 outer s H E st => ?_)
  exact pss_one (ps_ret (pe_lst (pa_cons (pe_lc rfl S.nd (pi_seq (pe_slice sl_list (pv 0) po_none (po_some pe_int))) (blkOk_by (by change blkC ["script", "cell"] (defScope s_law_pen) _ _ = true; decide +kernel)) (own := [("cell", 1)]) (fun _ _ _ _ _ => pg_name (i := 1) S.nd rfl (by first | exact Or.inl rfl | exact Or.inr rfl)) (fun _ _ _ _ _ => pts_nil) (fun _ _ _ _ _ => pe_callTy call_int1 (by exact rfl) T.z_int (by decide +kernel) (pa_cons (pv 1) pa_nil)) (fun _ => rfl)) (pa_cons pe_int (pa_cons pe_int pa_nil)))))
theorem ok_law_draw (T : Txt K mg A) : FnG P w K mg base CX0 1 A.f_law_draw A.d_law_draw ["pen", "many"] (spD K c_law_draw) := by
  have S := sc_law_draw
  refine def_ok (k := 0) T.F_law_draw sc_law_draw l_law_draw (fun cdv A0 outer s H E st => ?_)
  exact ⟨_, kb_law_draw, (dss_cons (by exact (ds_if (by exact (dt_cmp op_gt d_cmp (by exact (DE.b (by exact (de_pen2 0 (pv 0))))) (by exact (DE.b de_int)) (nomark _)))
    (by exact (dss_cons (by exact (ds_set 2 (by exact (de_bty call_int1 d_toInt T.z_int (by exact (dab_cons (by exact (DE.b (by exact (de_pen2 0 (pv 0))))) dab_nil)))) (fun h => ps_set (i := 2) S.nd rfl (by first | exact Or.inl rfl | exact Or.inr rfl) h)))
    (by exact (dss_cons (by exact (ds_ink2 0 (by exact (de_bin op_fdiv d_div (by exact (dbv 2 (pv 2))) (by exact (dbv 1 (pv 1))))) (fun a => ps_asg a (pg_sub (pv 0) pe_int set_list))))
    (by exact (dss_one (by exact (ds_ret (by exact (de_bin op_mod d_mod (by exact (DE.b (by exact (de_bty call_int1 d_toInt T.z_int (by exact (dab_cons (by exact (dbv 2 (pv 2))) dab_nil)))))) (by exact (dbv 1 (pv 1)))))))))))))
    dss_nil))
    (by exact (dss_cons (by exact (ds_set 3 (by exact (de_pen1 0 (pv 0))) (fun h => ps_set (i := 3) S.nd rfl (by first | exact Or.inl rfl | exact Or.inr rfl) h)))
    (by exact (dss_cons (by exact (ds_ink1 0 (by exact (de_bin o_add d_add (by exact (dbv 3 (pv 3))) (by exact (DE.b de_int)))) (fun a => ps_asg a (pg_sub (pv 0) pe_int set_list))))
    (by exact (dss_cons (by exact (ds_set 4 (by exact (de_bin o_add d_add (by exact (DE.b (by exact (de_bin o_mul d_mul (by exact (DE.b de_int)) (by exact (dbv 3 (pv 3))))))) (by exact (DE.b de_int)))) (fun h => ps_set (i := 4) S.nd rfl (by first | exact Or.inl rfl | exact Or.inr rfl) h)))
    (by exact (dss_cons (by exact (ds_if (by exact (dt_cmp (op_neD st.u64) d_ne (by exact (DE.b (by exact (de_pen0 0 (pv 0))))) (by exact (DE.b (by exact (de_lst da_nil)))) (nomark _)))
    (by exact (dss_one (by exact (ds_set 4 (by exact (de_ix (by exact (DE.b (by exact (de_pen0 0 (pv 0))))) (by exact (DE.b (by exact (de_bin op_mod d_mod (by exact (DE.b (by exact (de_bty call_int1 d_toInt T.z_int (by exact (dab_cons (by exact (dbv 3 (pv 3))) dab_nil)))))) (by exact (DE.b (by exact (de_blt c_len d_len T.z_len (by exact (dab_cons (by exact (DE.b (by exact (de_pen0 0 (pv 0))))) dab_nil)))))))))))) (fun h => ps_set (i := 4) S.nd rfl (by first | exact Or.inl rfl | exact Or.inr rfl) h)))))
    dss_nil))
    (by exact (dss_cons (by exact (ds_if (by exact (DW.t (by exact (dw_and (by exact (dt_cmp op_lt d_cmp (by exact (dbv 3 (pv 3))) (by exact (DE.b (by exact (de_blt c_len d_len T.z_len (by exact (dab_cons (by exact (DE.b (by exact (de_pen0 0 (pv 0))))) dab_nil)))))) (nomark _))) (by exact (dw_and1 (by exact (dt_cmp op_ge d_cmp (by exact (DE.b (by exact (de_blt call_abs d_abs T.z_abs (by exact (dab_cons (by exact (dbv 4 (pv 4))) dab_nil)))))) (by exact (DE.b (by exact (de_bin op_pow d_pow (by exact (DE.b de_int)) (by exact (DE.b de_int)))))) (nomark _)))))))))
    (by exact (dss_cons (by exact (ds_set 2 (by exact (de_bin o_add d_add (by exact (DE.b (by exact (de_bin o_mul d_mul (by exact (DE.b de_int)) (by exact (DE.b (by exact (de_bin op_sub d_sub (by exact (DE.b (by exact (de_blt call_abs d_abs T.z_abs (by exact (dab_cons (by exact (dbv 4 (pv 4))) dab_nil)))))) (by exact (DE.b (by exact (de_bin op_pow d_pow (by exact (DE.b de_int)) (by exact (DE.b de_int)))))))))))))) (by exact (DE.b (by exact (de_bty call_int1 d_toInt T.z_int (by exact (dab_cons (by exact (DE.b (by exact (de_cmp op_lt d_cmp (by exact (dbv 4 (pv 4))) (by exact (DE.b de_int)) (nomark _))))) dab_nil)))))))) (fun h => ps_set (i := 2) S.nd rfl (by first | exact Or.inl rfl | exact Or.inr rfl) h)))
    (by exact (dss_cons (by exact (ds_ink2 0 (by exact (de_bin op_fdiv d_div (by exact (DE.b (by exact (de_bty call_int1 d_toInt T.z_int (by exact (dab_cons (by exact (dbv 2 (pv 2))) dab_nil)))))) (by exact (dbv 1 (pv 1))))) (fun a => ps_asg a (pg_sub (pv 0) pe_int set_list))))
    (by exact (dss_one (by exact (ds_ret (by exact (de_bin op_mod d_mod (by exact (DE.b (by exact (de_bty call_int1 d_toInt T.z_int (by exact (dab_cons (by exact (dbv 2 (pv 2))) dab_nil)))))) (by exact (dbv 1 (pv 1)))))))))))))
    dss_nil))
    (by exact (dss_cons (by exact (ds_set 5 (by exact (de_bin op_mod d_mod (by exact (DE.b (by exact (de_bty call_int1 d_toInt T.z_int (by exact (dab_cons (by exact (DE.b (by exact (de_bin op_pow d_pow (by exact (DE.b (by exact (de_bin o_add d_add (by exact (DE.b (by exact (de_bin o_add d_add (by exact (DE.b (by exact (de_bin op_mod d_mod (by exact (DE.b (by exact (de_bty call_int1 d_toInt T.z_int (by exact (dab_cons (by exact (dbv 4 (pv 4))) dab_nil)))))) (by exact (DE.b de_int)))))) (by exact (DE.b (by exact (de_bin o_mul d_mul (by exact (DE.b de_int)) (by exact (dbv 3 (pv 3))))))))))) (by exact (DE.b de_int)))))) (by exact (DE.b de_int)))))) dab_nil)))))) (by exact (DE.b de_int)))) (fun h => ps_set (i := 5) S.nd rfl (by first | exact Or.inl rfl | exact Or.inr rfl) h)))
    (by exact (dss_cons (by exact (ds_set 5 (by exact (de_bin op_mod d_mod (by exact (DE.b (by exact (de_bty call_int1 d_toInt T.z_int (by exact (dab_cons (by exact (DE.b (by exact (de_bin op_pow d_pow (by exact (DE.b (by exact (de_bin o_add d_add (by exact (DE.b (by exact (de_bin o_add d_add (by exact (DE.b (by exact (de_bin o_mul d_mul (by exact (dbv 5 (pv 5))) (by exact (DE.b (by exact (de_bin o_add d_add (by exact (DE.b (by exact (de_bin o_mul d_mul (by exact (DE.b de_int)) (by exact (dbv 3 (pv 3))))))) (by exact (DE.b de_int)))))))))) (by exact (DE.b (by exact (de_bin o_mul d_mul (by exact (DE.b (by exact (de_bin o_mul d_mul (by exact (DE.b de_int)) (by exact (dbv 3 (pv 3))))))) (by exact (dbv 3 (pv 3))))))))))) (by exact (DE.b de_int)))))) (by exact (DE.b de_int)))))) dab_nil)))))) (by exact (DE.b de_int)))) (fun h => ps_set (i := 5) S.nd rfl (by first | exact Or.inl rfl | exact Or.inr rfl) h)))
    (by exact (dss_one (by exact (ds_ret (by exact (de_bin op_mod d_mod (by exact (DE.b (by exact (de_bty call_int1 d_toInt T.z_int (by exact (dab_cons (by exact (DE.b (by exact (de_bin op_fdiv d_div (by exact (dbv 5 (pv 5))) (by exact (DE.b de_int)))))) dab_nil)))))) (by exact (dbv 1 (pv 1)))))))))))))))))))))))), m_law_draw⟩
theorem ok_law_pick (T : Txt K mg A) : FnG P w K mg base CX0 2 A.f_law_pick A.d_law_pick ["pen", "some"] (spD K c_law_pick) := by
  have S := sc_law_pick
  refine def_ok (k := 1) T.F_law_pick sc_law_pick l_law_pick (fun cdv A0 outer s H E st => ?_)
  exact ⟨_, kb_law_pick, (dss_one (by exact (ds_ret (by exact (de_ix (by exact (dbv 1 (pv 1))) (by exact (DE.b (by exact (de_fn (ok_law_draw T) st T.m_law_draw T.k_law_draw T.b_law_draw (by exact (da_cons (by exact (dev 0 (pv 0))) (by exact (da_cons (by exact (de_blt c_len d_len T.z_len (by exact (dab_cons (by exact (dbv 1 (pv 1))) dab_nil)))) da_nil))))))))))))), m_law_pick⟩
theorem ok_law_all (T : Txt K mg A) : FnG P w K mg base CX0 1 A.f_law_all A.d_law_all ["many"] (spD K c_law_all) := by
  have S := sc_law_all
  refine def_ok (k := 0) T.F_law_all sc_law_all l_law_all (fun cdv A0 outer s H E st => ?_)
  exact ⟨_, kb_law_all, (dss_cons (by exact (ds_set 1 (by exact (de_lst (by exact (da_cons (by exact (de_tup da_nil)) da_nil)))) (fun h => ps_set (i := 1) S.nd rfl (by first | exact Or.inl rfl | exact Or.inr rfl) h)))
    (by exact (dss_cons (by exact (ds_for (by exact (di_rng1 T.z_range (by exact (da_cons (by exact (dev 0 (pv 0))) da_nil)))) (by exact (dg_name (pg_name (i := 2) S.nd rfl (by first | exact Or.inl rfl | exact Or.inr rfl))))
    (by exact (dss_cons (by exact (ds_set 3 (by exact (de_lst da_nil)) (fun h => ps_set (i := 3) S.nd rfl (by first | exact Or.inl rfl | exact Or.inr rfl) h)))
    (by exact (dss_cons (by exact (ds_for (by exact (di_seq (by exact (dev 1 (pv 1))))) (by exact (dg_name (pg_name (i := 4) S.nd rfl (by first | exact Or.inl rfl | exact Or.inr rfl))))
    (by exact (dss_one (by exact (ds_set 3 (by exact (de_bin o_add d_add (by exact (dbv 3 (pv 3))) (by exact (DE.b (by exact (de_lst (by exact (da_cons (by exact (de_bin o_add d_add (by exact (dbv 4 (pv 4))) (by exact (DE.b (by exact (de_tup (by exact (da_cons de_int da_nil)))))))) (by exact (da_cons (by exact (de_bin o_add d_add (by exact (dbv 4 (pv 4))) (by exact (DE.b (by exact (de_tup (by exact (da_cons de_int da_nil)))))))) da_nil)))))))))) (fun h => ps_set (i := 3) S.nd rfl (by first | exact Or.inl rfl | exact Or.inr rfl) h))))) (fun a b c => ps_for PassesOwn.never rfl a b c)))
    (by exact (dss_one (by exact (ds_set 1 (by exact (dev 3 (pv 3))) (fun h => ps_set (i := 1) S.nd rfl (by first | exact Or.inl rfl | exact Or.inr rfl) h))))))))) (fun a b c => ps_for PassesOwn.never rfl a b c)))
    (by exact (dss_one (by exact (ds_ret (by exact (dev 1 (pv 1)))))))))), m_law_all⟩
theorem ok_law_parted (T : Txt K mg A) : FnG P w K mg base CX0 1 A.f_law_parted A.d_law_parted ["rows", "guard"] (spD K c_law_parted) := by
  have S := sc_law_parted
  refine def_ok (k := 0) T.F_law_parted sc_law_parted l_law_parted (fun cdv A0 outer s H E st => ?_)
  exact ⟨_, kb_law_parted, (dss_cons (by exact (ds_own 2 (by exact (dow_lst da_nil)) (fun h => ps_set (i := 2) S.nd rfl (by first | exact Or.inl rfl | exact Or.inr rfl) h)))
    (by exact (dss_cons (by exact (ds_for (by exact (di_enum T.z_enumerate (by exact (da_cons (by exact (dev 0 (pv 0))) da_nil)))) (by exact (dg_tup (m := 2) (by exact (dgs_cons (by exact (dg_name (pg_name (i := 3) S.nd rfl (by first | exact Or.inl rfl | exact Or.inr rfl)))) (by exact (dgs_cons (by exact (dg_name (pg_name (i := 4) S.nd rfl (by first | exact Or.inl rfl | exact Or.inr rfl)))) dgs_nil))))))
    (by exact (dss_one (by exact (ds_if (by exact (dt_cmp (o_in st.u65) d_in (by exact (DE.b de_int)) (by exact (dbv 4 (pv 4))) (by rfl)))
    (by exact (dss_one (by exact (ds_if (by exact (DW.t (by exact (dw_and (by exact (dt_cmp (op_neD st.u64) d_ne (by exact (dbv 2 (pv 2))) (by exact (DE.b (by exact (de_lst da_nil)))) (nomark _))) (by exact (dw_and1 (by exact (dt_cmp op_lt d_cmp (by exact (DE.b (by exact (de_bin op_sub d_sub (by exact (DE.b (by exact (de_bin op_sub d_sub (by exact (dbv 3 (pv 3))) (by exact (DE.b (by exact (de_ix (by exact (DE.b (by exact (de_ix (by exact (dbv 2 (pv 2))) (by exact (DE.b (by exact (de_un un_neg un_negD (by exact (DE.b de_int)))))))))) (by exact (DE.b de_int)))))))))) (by exact (DE.b de_int)))))) (by exact (dbv 1 (pv 1))) (nomark _)))))))))
    (by exact (dss_one (by exact (ds_sub 2 (by exact (de_tup (by exact (da_cons (by exact (de_ix (by exact (DE.b (by exact (de_ix (by exact (dbv 2 (pv 2))) (by exact (DE.b (by exact (de_un un_neg un_negD (by exact (DE.b de_int)))))))))) (by exact (DE.b de_int)))) (by exact (da_cons (by exact (dev 3 (pv 3))) da_nil)))))) (by exact (de_un un_neg un_negD (by exact (DE.b de_int)))) (fun a b => ps_asg a (pg_sub (pv 2) b set_list))))))
    (by exact (dss_one (by exact (ds_app 2 (by exact (de_tup (by exact (da_cons (by exact (dev 3 (pv 3))) (by exact (da_cons (by exact (dev 3 (pv 3))) da_nil)))))) (fun a => ps_expr (pe_bm PySem.F.plainAttrs_list PySem.F.slot_list_append PySem.F.type_list_append mt_append (pv 2) (pa_cons a pa_nil)))))))))))
    dss_nil)))) (fun a b c => ps_for PassesOwn.never rfl a b c)))
    (by exact (dss_one (by exact (ds_ret (by exact (dev 2 (pv 2)))))))))), m_law_parted⟩
theorem ok_law_is_mild (T : Txt K mg A) : FnG P w K mg base CX0 2 A.f_law_is_mild A.d_law_is_mild ["rows", "burst", "guard"] (spD K c_law_is_mild) := by
  have S := sc_law_is_mild
  refine def_ok (k := 1) T.F_law_is_mild sc_law_is_mild l_law_is_mild (fun cdv A0 outer s H E st => ?_)
  exact ⟨_, kb_law_is_mild, (dss_one (by exact (ds_ret (by exact (de_cmp (op_eqD st.u64) d_eq (by exact (DE.b (by exact (DOw.e (by exact (dow_lc (own := [("first", 3), ("last", 4)]) (by exact (dlc_mk (own := [("first", 3), ("last", 4)]) S.nd (by exact (di_seq (by exact (de_fn (ok_law_parted T) st T.m_law_parted T.k_law_parted T.b_law_parted (by exact (da_cons (by exact (dev 0 (pv 0))) (by exact (da_cons (by exact (dev 2 (pv 2))) da_nil)))))))) (blkOk_by (by change blkC ["rows", "burst", "guard", "first", "last"] (defScope s_law_is_mild) _ _ = true; decide +kernel)) (by exact (dg_tup (m := 2) (by exact (dgs_cons (by exact (dg_name (pg_name (i := 3) S.nd rfl (by first | exact Or.inl rfl | exact Or.inr rfl)))) (by exact (dgs_cons (by exact (dg_name (pg_name (i := 4) S.nd rfl (by first | exact Or.inl rfl | exact Or.inr rfl)))) dgs_nil)))))) (by exact (dts_one (by exact (dt_cmp op_ge d_cmp (by exact (DE.b (by exact (de_bin op_sub d_sub (by exact (dbv 4 (pv 4))) (by exact (dbv 3 (pv 3))))))) (by exact (dbv 1 (pv 1))) (nomark _))))) de_int (fun _ _ _ _ _ => (by exact (dg_tup (m := 2) (by exact (dgs_cons (by exact (dg_name (pg_name (i := 3) S.nd rfl (by first | exact Or.inl rfl | exact Or.inr rfl)))) (by exact (dgs_cons (by exact (dg_name (pg_name (i := 4) S.nd rfl (by first | exact Or.inl rfl | exact Or.inr rfl)))) dgs_nil))))))) (fun _ _ _ _ _ => (by exact (dts_one (by exact (dt_cmp op_ge d_cmp (by exact (DE.b (by exact (de_bin op_sub d_sub (by exact (dbv 4 (pv 4))) (by exact (dbv 3 (pv 3))))))) (by exact (dbv 1 (pv 1))) (nomark _)))))) (fun _ _ _ _ _ => de_int))))))))) (by exact (DE.b (by exact (de_lst da_nil)))) (nomark _)))))), m_law_is_mild⟩
theorem ok_law_after (T : Txt K mg A) : FnG P w K mg base CX0 1 A.f_law_after A.d_law_after ["phase", "is_wrong", "burst", "guard"] (spD K c_law_after) := by
  have S := sc_law_after
  refine def_ok (k := 0) T.F_law_after sc_law_after l_law_after (fun cdv A0 outer s H E st => ?_)
  exact ⟨_, kb_law_after, (dss_cons (by exact (ds_asg (by exact (dev 0 (pv 0))) (by exact (dg_tup (m := 2) (by exact (dgs_cons (by exact (dg_name (pg_name (i := 4) S.nd rfl (by first | exact Or.inl rfl | exact Or.inr rfl)))) (by exact (dgs_cons (by exact (dg_name (pg_name (i := 5) S.nd rfl (by first | exact Or.inl rfl | exact Or.inr rfl)))) dgs_nil))))))))
    (by exact (dss_cons (by exact (ds_if (by exact (dt_cmp (op_eqD st.u64) d_eq (by exact (dbv 3 (pv 3))) (by exact (DE.b de_int)) (nomark _)))
    (by exact (dss_one (by exact (ds_ret (by exact (de_tup (by exact (da_cons de_int (by exact (da_cons de_int da_nil))))))))))
    dss_nil))
    (by exact (dss_cons (by exact (ds_if (by exact (dt_val (by exact (dev 1 (pv 1)))))
    (by exact (dss_one (by exact (ds_ret (by exact (de_if (by exact (dt_cmp op_lt d_cmp (by exact (dbv 4 (pv 4))) (by exact (dbv 2 (pv 2))) (nomark _))) (by exact (de_tup (by exact (da_cons (by exact (de_bin o_add d_add (by exact (dbv 4 (pv 4))) (by exact (DE.b de_int)))) (by exact (da_cons de_int da_nil)))))) de_non))))))
    dss_nil))
    (by exact (dss_cons (by exact (ds_if (by exact (DW.t (by exact (dw_or (by exact (dt_cmp (op_eqD st.u64) d_eq (by exact (dbv 4 (pv 4))) (by exact (DE.b de_int)) (nomark _))) (by exact (dw_or1 (by exact (dt_cmp (op_eqD st.u64) d_eq (by exact (DE.b (by exact (de_bin o_add d_add (by exact (dbv 5 (pv 5))) (by exact (DE.b de_int)))))) (by exact (dbv 3 (pv 3))) (nomark _)))))))))
    (by exact (dss_one (by exact (ds_ret (by exact (de_tup (by exact (da_cons de_int (by exact (da_cons de_int da_nil))))))))))
    dss_nil))
    (by exact (dss_one (by exact (ds_ret (by exact (de_tup (by exact (da_cons (by exact (de_if (by exact (dt_cmp op_lt d_cmp (by exact (dbv 4 (pv 4))) (by exact (dbv 2 (pv 2))) (nomark _))) (by exact (de_bin o_add d_add (by exact (dbv 4 (pv 4))) (by exact (DE.b de_int)))) (by exact (dev 2 (pv 2))))) (by exact (da_cons (by exact (de_bin o_add d_add (by exact (dbv 5 (pv 5))) (by exact (DE.b de_int)))) da_nil))))))))))))))))), m_law_after⟩
theorem ok_law_phases (T : Txt K mg A) : FnG P w K mg base CX0 2 A.f_law_phases A.d_law_phases ["burst", "guard"] (spD K c_law_phases) := by
  have S := sc_law_phases
  refine def_ok (k := 1) T.F_law_phases sc_law_phases l_law_phases (fun cdv A0 outer s H E st => ?_)
  exact ⟨_, kb_law_phases, (dss_cons (by exact (ds_set 2 (by exact (de_lst (by exact (da_cons (by exact (de_tup (by exact (da_cons de_int (by exact (da_cons de_int da_nil)))))) da_nil)))) (fun h => ps_set (i := 2) S.nd rfl (by first | exact Or.inl rfl | exact Or.inr rfl) h)))
    (by exact (dss_cons (by exact (ds_for (by exact (di_rng1 T.z_range (by exact (da_cons de_int da_nil)))) (by exact (dg_name (pg_name (i := 3) S.nd rfl (by first | exact Or.inl rfl | exact Or.inr rfl))))
    (by exact (dss_one (by exact (ds_if (by exact (dt_cmp op_lt d_cmp (by exact (dbv 3 (pv 3))) (by exact (DE.b (by exact (de_blt c_len d_len T.z_len (by exact (dab_cons (by exact (dbv 2 (pv 2))) dab_nil)))))) (nomark _)))
    (by exact (dss_cons (by exact (ds_lc (own := [("is_wrong", 7)]) 4 (by exact (dlc_mk (own := [("is_wrong", 7)]) S.nd (by exact (di_seq (by exact (de_tup (by exact (da_cons de_bl (by exact (da_cons de_bl da_nil)))))))) (blkOk_by (by change blkC ["burst", "guard", "found", "turn", "some", "told", "age", "is_wrong", "phase", "clean"] (defScope s_law_phases) _ _ = true; decide +kernel)) (by exact (dg_name (pg_name (i := 7) S.nd rfl (by first | exact Or.inl rfl | exact Or.inr rfl)))) dts_nil (by exact (de_fn (ok_law_after T) st.blk T.m_law_after T.k_law_after T.b_law_after (by exact (da_cons (by exact (de_ix (by exact (dbv 2 (pv 2))) (by exact (dbv 3 (pv 3))))) (by exact (da_cons (by exact (dev 7 (pv 7))) (by exact (da_cons (by exact (dev 0 (pv 0))) (by exact (da_cons (by exact (dev 1 (pv 1))) da_nil)))))))))) (fun _ _ _ _ _ => (by exact (dg_name (pg_name (i := 7) S.nd rfl (by first | exact Or.inl rfl | exact Or.inr rfl))))) (fun _ _ _ _ _ => dts_nil) (fun _ _ _ _ _ => (by exact (de_fn (ok_law_after T) st.blk T.m_law_after T.k_law_after T.b_law_after (by exact (da_cons (by exact (de_ix (by exact (dbv 2 (pv 2))) (by exact (dbv 3 (pv 3))))) (by exact (da_cons (by exact (dev 7 (pv 7))) (by exact (da_cons (by exact (dev 0 (pv 0))) (by exact (da_cons (by exact (dev 1 (pv 1))) da_nil))))))))))))) rfl rfl (sw_true rfl rfl rfl (by decide +kernel))))
    (by exact (dss_one (by exact (ds_set 2 (by exact (de_bin o_add d_add (by exact (dbv 2 (pv 2))) (by exact (DE.b (by exact (DOw.e (by exact (dow_lc (own := [("phase", 8)]) (by exact (dlc_mk (own := [("phase", 8)]) S.nd (by exact (di_seq (by exact (dev 4 (pv 4))))) (blkOk_by (by change blkC ["burst", "guard", "found", "turn", "some", "told", "age", "is_wrong", "phase", "clean"] (defScope s_law_phases) _ _ = true; decide +kernel)) (by exact (dg_name (pg_name (i := 8) S.nd rfl (by first | exact Or.inl rfl | exact Or.inr rfl)))) (by exact (dts_one (by exact (DW.t (by exact (dw_and (by exact (dt_cmp op_notN d_notN (by exact (dbv 8 (pv 8))) (by exact (DE.b de_non)) (nomark _))) (by exact (dw_and1 (by exact (dt_cmp (o_notIn st.blk.u65) d_notIn (by exact (dbv 8 (pv 8))) (by exact (dbv 2 (pv 2))) (by rfl))))))))))) (by exact (dev 8 (pv 8))) (fun _ _ _ _ _ => (by exact (dg_name (pg_name (i := 8) S.nd rfl (by first | exact Or.inl rfl | exact Or.inr rfl))))) (fun _ _ _ _ _ => (by exact (dts_one (by exact (DW.t (by exact (dw_and (by exact (dt_cmp op_notN d_notN (by exact (dbv 8 (pv 8))) (by exact (DE.b de_non)) (nomark _))) (by exact (dw_and1 (by exact (dt_cmp (o_notIn st.blk.u65) d_notIn (by exact (dbv 8 (pv 8))) (by exact (dbv 2 (pv 2))) (by rfl)))))))))))) (fun _ _ _ _ _ => (by exact (dev 8 (pv 8)))))))))))))) (fun h => ps_set (i := 2) S.nd rfl (by first | exact Or.inl rfl | exact Or.inr rfl) h)))))))
    dss_nil)))) (fun a b c => ps_for PassesOwn.never rfl a b c)))
    (by exact (dss_cons (by exact (ds_own 5 (by exact (dow_lst da_nil)) (fun h => ps_set (i := 5) S.nd rfl (by first | exact Or.inl rfl | exact Or.inr rfl) h)))
    (by exact (dss_cons (by exact (ds_for (by exact (di_rng1 T.z_range (by exact (da_cons (by exact (de_bin o_add d_add (by exact (dbv 0 (pv 0))) (by exact (DE.b de_int)))) da_nil)))) (by exact (dg_name (pg_name (i := 6) S.nd rfl (by first | exact Or.inl rfl | exact Or.inr rfl))))
    (by exact (dss_one (by exact (ds_ext 5 (by exact (DOw.e (by exact (dow_lc (own := [("clean", 9)]) (by exact (dlc_mk (own := [("clean", 9)]) S.nd (by exact (di_rng1 T.z_range (by exact (da_cons (by exact (de_bin o_add d_add (by exact (dbv 1 (pv 1))) (by exact (DE.b de_int)))) da_nil)))) (blkOk_by (by change blkC ["burst", "guard", "found", "turn", "some", "told", "age", "is_wrong", "phase", "clean"] (defScope s_law_phases) _ _ = true; decide +kernel)) (by exact (dg_name (pg_name (i := 9) S.nd rfl (by first | exact Or.inl rfl | exact Or.inr rfl)))) (by exact (dts_one (by exact (dt_cmp (o_in st.blk.u65) d_in (by exact (DE.b (by exact (de_tup (by exact (da_cons (by exact (dev 6 (pv 6))) (by exact (da_cons (by exact (dev 9 (pv 9))) da_nil)))))))) (by exact (dbv 2 (pv 2))) (by rfl))))) (by exact (de_tup (by exact (da_cons (by exact (dev 6 (pv 6))) (by exact (da_cons (by exact (dev 9 (pv 9))) da_nil)))))) (fun _ _ _ _ _ => (by exact (dg_name (pg_name (i := 9) S.nd rfl (by first | exact Or.inl rfl | exact Or.inr rfl))))) (fun _ _ _ _ _ => (by exact (dts_one (by exact (dt_cmp (o_in st.blk.u65) d_in (by exact (DE.b (by exact (de_tup (by exact (da_cons (by exact (dev 6 (pv 6))) (by exact (da_cons (by exact (dev 9 (pv 9))) da_nil)))))))) (by exact (dbv 2 (pv 2))) (by rfl)))))) (fun _ _ _ _ _ => (by exact (de_tup (by exact (da_cons (by exact (dev 6 (pv 6))) (by exact (da_cons (by exact (dev 9 (pv 9))) da_nil))))))))))))) (fun a => ps_expr (pe_bm PySem.F.plainAttrs_list PySem.F.slot_list_extend PySem.F.type_list_extend mt_extend (pv 5) (pa_cons a pa_nil))))))) (fun a b c => ps_for PassesOwn.never rfl a b c)))
    (by exact (dss_one (by exact (ds_ret (by exact (dev 5 (pv 5)))))))))))))), m_law_phases⟩
theorem ok_law_can_part (T : Txt K mg A) : ∀ N, FnG P w K mg base CX0 (1 + N) A.f_law_can_part A.d_law_can_part ["wrong", "burst", "guard"] (spD K (c_law_can_part N))
  | 0 => FnG.never (by intro ds n Q h; exact h)
  | N + 1 => by
    have ih := ok_law_can_part T N
    have S := sc_law_can_part
    refine def_ok (k := 1 + N) T.F_law_can_part sc_law_can_part (l_law_can_part (N + 1)) (fun cdv A0 outer s H E st => ?_)
    exact ⟨_, kb_law_can_part N, (dss_cons (by exact (ds_if (by exact (dt_cmp (op_eqD st.u64) d_eq (by exact (dbv 0 (pv 0))) (by exact (DE.b (by exact (de_lst da_nil)))) (nomark _)))
      (by exact (dss_one (by exact (ds_ret de_bl))))
      dss_nil))
      (by exact (dss_cons (by exact (ds_for (by exact (di_rng2 T.z_range (by exact (da_cons de_int (by exact (da_cons (by exact (de_bin o_add d_add (by exact (DE.b (by exact (de_blt c_len d_len T.z_len (by exact (dab_cons (by exact (dbv 0 (pv 0))) dab_nil)))))) (by exact (DE.b de_int)))) da_nil)))))) (by exact (dg_name (pg_name (i := 3) S.nd rfl (by first | exact Or.inl rfl | exact Or.inr rfl))))
      (by exact (dss_cons (by exact (ds_set 4 (by exact (de_or (by exact (de_cmp (op_eqD st.u64) d_eq (by exact (dbv 3 (pv 3))) (by exact (DE.b (by exact (de_blt c_len d_len T.z_len (by exact (dab_cons (by exact (dbv 0 (pv 0))) dab_nil)))))) (nomark _))) (by exact (de_one (by exact (de_cmp op_gt d_cmp (by exact (DE.b (by exact (de_bin op_sub d_sub (by exact (DE.b (by exact (de_ix (by exact (dbv 0 (pv 0))) (by exact (dbv 3 (pv 3))))))) (by exact (DE.b (by exact (de_ix (by exact (dbv 0 (pv 0))) (by exact (DE.b (by exact (de_bin op_sub d_sub (by exact (dbv 3 (pv 3))) (by exact (DE.b de_int)))))))))))))) (by exact (dbv 2 (pv 2))) (nomark _))))))) (fun h => ps_set (i := 4) S.nd rfl (by first | exact Or.inl rfl | exact Or.inr rfl) h)))
      (by exact (dss_one (by exact (ds_if (by exact (DW.t (by exact (dw_and (by exact (dt_cmp op_lt d_cmp (by exact (DE.b (by exact (de_bin op_sub d_sub (by exact (DE.b (by exact (de_ix (by exact (dbv 0 (pv 0))) (by exact (DE.b (by exact (de_bin op_sub d_sub (by exact (dbv 3 (pv 3))) (by exact (DE.b de_int)))))))))) (by exact (DE.b (by exact (de_ix (by exact (dbv 0 (pv 0))) (by exact (DE.b de_int)))))))))) (by exact (dbv 1 (pv 1))) (nomark _))) (by exact (dw_and (by exact (dt_val (by exact (dev 4 (pv 4))))) (by exact (dw_and1 (by exact (dt_val (by exact (de_fn ih st T.m_law_can_part T.k_law_can_part T.b_law_can_part (by exact (da_cons (by exact (de_slice (by exact (dbv 0 (pv 0))) (by exact (do_some (by exact (dev 3 (pv 3))))) do_none)) (by exact (da_cons (by exact (dev 1 (pv 1))) (by exact (da_cons (by exact (dev 2 (pv 2))) da_nil)))))) (hj := Nat.le_refl _)))))))))))))
      (by exact (dss_one (by exact (ds_ret de_bl))))
      dss_nil)))))) (fun a b c => ps_for PassesOwn.never rfl a b c)))
      (by exact (dss_one (by exact (ds_ret de_bl))))))), m_law_can_part N⟩
theorem ok_law_steps (T : Txt K mg A) : FnG P w K mg base CX0 3 A.f_law_steps A.d_law_steps ["pen", "many"] (spD K c_law_steps) := by
  have S := sc_law_steps
  refine def_ok (k := 2) T.F_law_steps sc_law_steps l_law_steps (fun cdv A0 outer s H E st => ?_)
  exact ⟨_, kb_law_steps, (dss_cons (by exact (ds_parO (by exact (dow_lst da_nil)) (by exact (de_bin o_add d_add (by exact (DE.b de_int)) (by exact (DE.b (by exact (de_fn (ok_law_draw T) st T.m_law_draw T.k_law_draw T.b_law_draw (by exact (da_cons (by exact (dev 0 (pv 0))) (by exact (da_cons de_int da_nil)))))))))) (hp := fun h => ps_par (i := 2) (j := 3) rfl S.nd rfl rfl (by decide) rfl rfl h (by rfl))))
    (by exact (dss_cons (by exact (ds_for (by exact (di_rng1 T.z_range (by exact (da_cons (by exact (dev 1 (pv 1))) da_nil)))) (by exact (dg_name (pg_name (i := 4) S.nd rfl (by first | exact Or.inl rfl | exact Or.inr rfl))))
    (by exact (dss_cons (by exact (ds_set 5 (by exact (de_fn (ok_law_pick T) st T.m_law_pick T.k_law_pick T.b_law_pick (by exact (da_cons (by exact (dev 0 (pv 0))) (by exact (da_cons (by exact (de_lst (by exact (da_cons de_int (by exact (da_cons de_int (by exact (da_cons de_int (by exact (da_cons de_int (by exact (da_cons de_int da_nil)))))))))))) da_nil)))))) (fun h => ps_set (i := 5) S.nd rfl (by first | exact Or.inl rfl | exact Or.inr rfl) h)))
    (by exact (dss_one (by exact (ds_app 2 (by exact (de_if (by exact (dt_cmp (op_eqD st.u64) d_eq (by exact (DE.b (by exact (de_fn (ok_law_draw T) st T.m_law_draw T.k_law_draw T.b_law_draw (by exact (da_cons (by exact (dev 0 (pv 0))) (by exact (da_cons (by exact (dev 3 (pv 3))) da_nil)))))))) (by exact (DE.b de_int)) (nomark _))) (by exact (de_fn (ok_law_pick T) st T.m_law_pick T.k_law_pick T.b_law_pick (by exact (da_cons (by exact (dev 0 (pv 0))) (by exact (da_cons (by exact (de_fn (ok_law_all T) st T.m_law_all T.k_law_all T.b_law_all (by exact (da_cons (by exact (dev 5 (pv 5))) da_nil)))) da_nil)))))) (by exact (de_bin o_mul d_mul (by exact (DE.b (by exact (de_tup (by exact (da_cons de_int da_nil)))))) (by exact (dbv 5 (pv 5))))))) (fun a => ps_expr (pe_bm PySem.F.plainAttrs_list PySem.F.slot_list_append PySem.F.type_list_append mt_append (pv 2) (pa_cons a pa_nil))))))))) (fun a b c => ps_for PassesOwn.never rfl a b c)))
    (by exact (dss_one (by exact (ds_ret (by exact (dev 2 (pv 2)))))))))), m_law_steps⟩
theorem ok_law_one_right (T : Txt K mg A) : FnG P w K mg base CX0 13 A.f_law_one_right A.d_law_one_right ["pen"] (spD K c_law_one_right) := by
  have S := sc_law_one_right
  refine def_ok (k := 12) T.F_law_one_right sc_law_one_right l_law_one_right (fun cdv A0 outer s H E st => ?_)
  exact ⟨_, kb_law_one_right, (dss_cons (by exact (ds_par (by exact (da_cons (by exact (de_fn (ok_law_steps T) st T.m_law_steps T.k_law_steps T.b_law_steps (by exact (da_cons (by exact (dev 0 (pv 0))) (by exact (da_cons (by exact (de_fn (ok_law_pick T) st T.m_law_pick T.k_law_pick T.b_law_pick (by exact (da_cons (by exact (dev 0 (pv 0))) (by exact (da_cons (by exact (de_lst (by exact (da_cons de_int (by exact (da_cons de_int (by exact (da_cons de_int (by exact (da_cons de_int (by exact (da_cons de_int (by exact (da_cons de_int (by exact (da_cons de_int da_nil)))))))))))))))) da_nil)))))) da_nil)))))) (by exact (da_cons (by exact (de_bin o_add d_add (by exact (DE.b de_int)) (by exact (DE.b (by exact (de_fn (ok_law_draw T) st T.m_law_draw T.k_law_draw T.b_law_draw (by exact (da_cons (by exact (dev 0 (pv 0))) (by exact (da_cons de_int da_nil)))))))))) da_nil)))) (fun h => ps_par (i := 1) (j := 2) rfl S.nd rfl rfl (by decide) rfl rfl h (by rfl))))
    (by exact (dss_cons (by exact (ds_set 3 (by exact (de_fn (ok_law_pick T) st T.m_law_pick T.k_law_pick T.b_law_pick (by exact (da_cons (by exact (dev 0 (pv 0))) (by exact (da_cons (by exact (de_lst (by exact (da_cons de_int (by exact (da_cons de_int (by exact (da_cons de_int (by exact (da_cons de_int (by exact (da_cons de_int (by exact (da_cons de_int (by exact (da_cons (by exact (de_fn (ok_law_draw T) st T.m_law_draw T.k_law_draw T.b_law_draw (by exact (da_cons (by exact (dev 0 (pv 0))) (by exact (da_cons de_int da_nil)))))) da_nil)))))))))))))))) da_nil)))))) (fun h => ps_set (i := 3) S.nd rfl (by first | exact Or.inl rfl | exact Or.inr rfl) h)))
    (by exact (dss_cons (by exact (ds_par3 (by exact (da_cons (by exact (de_fn (ok_law_parted T) st T.m_law_parted T.k_law_parted T.b_law_parted (by exact (da_cons (by exact (dev 1 (pv 1))) (by exact (da_cons (by exact (dev 3 (pv 3))) da_nil)))))) (by exact (da_cons (by exact (de_fn (ok_law_is_mild T) st T.m_law_is_mild T.k_law_is_mild T.b_law_is_mild (by exact (da_cons (by exact (dev 1 (pv 1))) (by exact (da_cons (by exact (dev 2 (pv 2))) (by exact (da_cons (by exact (dev 3 (pv 3))) da_nil)))))))) (by exact (da_cons (by exact (DOw.e (by exact (dow_lc (own := [("at", 8), ("row", 10)]) (by exact (dlc_mk (own := [("at", 8), ("row", 10)]) S.nd (by exact (di_enum T.z_enumerate (by exact (da_cons (by exact (dev 1 (pv 1))) da_nil)))) (blkOk_by (by change blkC ["pen", "rows", "burst", "guard", "due", "is_mild", "wrong", "told", "at", "phase", "row"] (defScope s_law_one_right) _ _ = true; decide +kernel)) (by exact (dg_tup (m := 2) (by exact (dgs_cons (by exact (dg_name (pg_name (i := 8) S.nd rfl (by first | exact Or.inl rfl | exact Or.inr rfl)))) (by exact (dgs_cons (by exact (dg_name (pg_name (i := 10) S.nd rfl (by first | exact Or.inl rfl | exact Or.inr rfl)))) dgs_nil)))))) (by exact (dts_one (by exact (dt_cmp (o_in st.blk.u65) d_in (by exact (DE.b de_int)) (by exact (dbv 10 (pv 10))) (by rfl))))) (by exact (dev 8 (pv 8))) (fun _ _ _ _ _ => (by exact (dg_tup (m := 2) (by exact (dgs_cons (by exact (dg_name (pg_name (i := 8) S.nd rfl (by first | exact Or.inl rfl | exact Or.inr rfl)))) (by exact (dgs_cons (by exact (dg_name (pg_name (i := 10) S.nd rfl (by first | exact Or.inl rfl | exact Or.inr rfl)))) dgs_nil))))))) (fun _ _ _ _ _ => (by exact (dts_one (by exact (dt_cmp (o_in st.blk.u65) d_in (by exact (DE.b de_int)) (by exact (dbv 10 (pv 10))) (by rfl)))))) (fun _ _ _ _ _ => (by exact (dev 8 (pv 8)))))))))) da_nil)))))) (fun h => ps_par3 (i := 4) (j := 5) (l := 6) rfl S.nd rfl rfl rfl (by decide) (by decide) (by decide) rfl rfl rfl h (by rfl))))
    (by exact (dss_cons (by exact (ds_set 7 (by exact (de_fn (ok_bursts_of T) st T.m_bursts_of T.k_bursts_of T.b_bursts_of (by exact (da_cons (by exact (dev 1 (pv 1))) (by exact (da_cons (by exact (dev 2 (pv 2))) (by exact (da_cons (by exact (dev 3 (pv 3))) da_nil)))))))) (fun h => ps_set (i := 7) S.nd rfl (by first | exact Or.inl rfl | exact Or.inr rfl) h)))
    (by exact (dss_cons (by exact (ds_if (by exact (DW.t (by exact (dw_or (by exact (dt_cmp (op_neD st.u64) d_ne (by exact (DE.b (by exact (de_blt (call_reprD st.gd st.u64) d_repr T.z_repr (by exact (dab_cons (by exact (dbv 7 (pv 7))) dab_nil)))))) (by exact (DE.b (by exact (de_blt (call_reprD st.gd st.u64) d_repr T.z_repr (by exact (dab_cons (by exact (DE.b (by exact (de_if (by exact (dt_val (by exact (dev 5 (pv 5))))) (by exact (de_bty call_tuple_of d_tuple T.z_tuple (by exact (dab_cons (by exact (dbv 4 (pv 4))) dab_nil)))) de_non)))) dab_nil)))))) (nomark _))) (by exact (dw_or1 (by exact (dt_cmp (op_neD st.u64) d_ne (by exact (DE.b (by exact (de_kw0 (ok_bursts_of T) st T.m_bursts_of T.k_bursts_of T.kw_0 (by exact (dk_cons (by exact (dev 3 (pv 3))) (by exact (dk_cons (by exact (dev 2 (pv 2))) (by exact (dk_cons (by exact (de_bty call_tuple_of d_tuple T.z_tuple (by exact (dab_cons (by exact (dbv 1 (pv 1))) dab_nil)))) dk_nil)))))))))) (by exact (dbv 7 (pv 7))) (nomark _)))))))))
    (by exact (dss_one (by exact (ds_ret de_bl))))
    dss_nil))
    (by exact (dss_cons (by exact (ds_if (by exact (DW.t (by exact (dw_and (by exact (dt_cmp op_lt d_cmp (by exact (DE.b (by exact (de_blt c_len d_len T.z_len (by exact (dab_cons (by exact (dbv 6 (pv 6))) dab_nil)))))) (by exact (DE.b de_int)) (nomark _))) (by exact (dw_and1 (by exact (dt_cmp (op_neD st.u64) d_ne (by exact (DE.b (by exact (de_fn (ok_law_can_part T 11) st T.m_law_can_part T.k_law_can_part T.b_law_can_part (by exact (da_cons (by exact (dev 6 (pv 6))) (by exact (da_cons (by exact (dev 2 (pv 2))) (by exact (da_cons (by exact (dev 3 (pv 3))) da_nil)))))))))) (by exact (dbv 5 (pv 5))) (nomark _)))))))))
    (by exact (dss_one (by exact (ds_ret de_bl))))
    dss_nil))
    (by exact (dss_cons (by exact (ds_if (by exact (DW.t (by exact (dw_and (by exact (dt_cmp (op_neD st.u64) d_ne (by exact (dbv 6 (pv 6))) (by exact (DE.b (by exact (de_lst da_nil)))) (nomark _))) (by exact (dw_and1 (by exact (dt_val (by exact (dev 5 (pv 5)))))))))))
    (by exact (dss_cons (by exact (ds_set 8 (by exact (de_fn (ok_law_pick T) st T.m_law_pick T.k_law_pick T.b_law_pick (by exact (da_cons (by exact (dev 0 (pv 0))) (by exact (da_cons (by exact (dev 6 (pv 6))) da_nil)))))) (fun h => ps_set (i := 8) S.nd rfl (by first | exact Or.inl rfl | exact Or.inr rfl) h)))
    (by exact (dss_one (by exact (ds_if (by exact (dt_cmp op_isN d_isN (by exact (DE.b (by exact (de_fn (ok_bursts_of T) st T.m_bursts_of T.k_bursts_of T.b_bursts_of (by exact (da_cons (by exact (de_bin o_add d_add (by exact (DE.b (by exact (de_bin o_add d_add (by exact (DE.b (by exact (de_slice (by exact (dbv 1 (pv 1))) do_none (by exact (do_some (by exact (dev 8 (pv 8))))))))) (by exact (DE.b (by exact (de_lst (by exact (da_cons (by exact (de_bin o_mul d_mul (by exact (DE.b (by exact (de_tup (by exact (da_cons de_int da_nil)))))) (by exact (DE.b (by exact (de_blt c_len d_len T.z_len (by exact (dab_cons (by exact (DE.b (by exact (de_ix (by exact (dbv 1 (pv 1))) (by exact (dbv 8 (pv 8))))))) dab_nil)))))))) da_nil)))))))))) (by exact (DE.b (by exact (de_slice (by exact (dbv 1 (pv 1))) (by exact (do_some (by exact (de_bin o_add d_add (by exact (dbv 8 (pv 8))) (by exact (DE.b de_int)))))) do_none)))))) (by exact (da_cons (by exact (dev 2 (pv 2))) (by exact (da_cons (by exact (dev 3 (pv 3))) da_nil)))))))))) (by exact (DE.b de_non)) (nomark _)))
    (by exact (dss_one (by exact (ds_ret de_bl))))
    dss_nil))))))
    dss_nil))
    (by exact (dss_cons (by exact (ds_set 9 (by exact (de_tup (by exact (da_cons de_int (by exact (da_cons de_int da_nil)))))) (fun h => ps_set (i := 9) S.nd rfl (by first | exact Or.inl rfl | exact Or.inr rfl) h)))
    (by exact (dss_cons (by exact (ds_for (by exact (di_seq (by exact (dev 1 (pv 1))))) (by exact (dg_name (pg_name (i := 10) S.nd rfl (by first | exact Or.inl rfl | exact Or.inr rfl))))
    (by exact (dss_cons (by exact (ds_set 9 (by exact (de_if (by exact (dt_cmp op_notN d_notN (by exact (dbv 9 (pv 9))) (by exact (DE.b de_non)) (nomark _))) (by exact (de_fn (ok_law_after T) st T.m_law_after T.k_law_after T.b_law_after (by exact (da_cons (by exact (dev 9 (pv 9))) (by exact (da_cons (by exact (de_cmp (o_in st.u65) d_in (by exact (DE.b de_int)) (by exact (dbv 10 (pv 10))) (by rfl))) (by exact (da_cons (by exact (dev 2 (pv 2))) (by exact (da_cons (by exact (dev 3 (pv 3))) da_nil)))))))))) de_non)) (fun h => ps_set (i := 9) S.nd rfl (by first | exact Or.inl rfl | exact Or.inr rfl) h)))
    (by exact (dss_one (by exact (ds_if (by exact (DW.t (by exact (dw_and (by exact (dt_cmp op_notN d_notN (by exact (dbv 9 (pv 9))) (by exact (DE.b de_non)) (nomark _))) (by exact (dw_and1 (by exact (dt_cmp (o_notIn st.u65) d_notIn (by exact (dbv 9 (pv 9))) (by exact (DE.b (by exact (de_fn (ok_phases T) st T.m_phases T.k_phases T.b_phases (by exact (da_cons (by exact (dev 2 (pv 2))) (by exact (da_cons (by exact (dev 3 (pv 3))) da_nil)))))))) (by rfl)))))))))
    (by exact (dss_one (by exact (ds_ret de_bl))))
    dss_nil)))))) (fun a b c => ps_for PassesOwn.never rfl a b c)))
    (by exact (dss_cons (by exact (ds_if (by exact (dt_cmp (op_neD st.u64) d_ne (by exact (DE.b (by exact (de_cmp op_notN d_notN (by exact (dbv 9 (pv 9))) (by exact (DE.b de_non)) (nomark _))))) (by exact (dbv 5 (pv 5))) (nomark _)))
    (by exact (dss_one (by exact (ds_ret de_bl))))
    dss_nil))
    (by exact (dss_one (by exact (ds_ret (by exact (de_cmp (op_eqD st.u64) d_eq (by exact (DE.b (by exact (de_blt (call_reprD st.gd st.u64) d_repr T.z_repr (by exact (dab_cons (by exact (DE.b (by exact (de_kw0 (ok_phases T) st T.m_phases T.k_phases T.kw_1 (by exact (dk_cons (by exact (dev 3 (pv 3))) (by exact (dk_cons (by exact (dev 2 (pv 2))) dk_nil)))))))) dab_nil)))))) (by exact (DE.b (by exact (de_blt (call_reprD st.gd st.u64) d_repr T.z_repr (by exact (dab_cons (by exact (DE.b (by exact (de_bty call_tuple_of d_tuple T.z_tuple (by exact (dab_cons (by exact (DE.b (by exact (de_fn (ok_law_phases T) st T.m_law_phases T.k_law_phases T.b_law_phases (by exact (da_cons (by exact (dev 2 (pv 2))) (by exact (da_cons (by exact (dev 3 (pv 3))) da_nil)))))))) dab_nil)))))) dab_nil)))))) (nomark _)))))))))))))))))))))))))), m_law_one_right⟩
theorem ok_law (T : Txt K mg A) : FnG P w K mg base CX0 14 A.f_law A.d_law ["script"] (spLaw K) := by
  have S := sc_law
  refine law_ok (k := 13) T.F_law sc_law 2 rfl (fun cdv A0 outer s H E st => ?_)
  exact ⟨_, _, kb_law, fun h => pss_cons (by exact (ps_set (i := 1) S.nd rfl (by first | exact Or.inl rfl | exact Or.inr rfl) (pe_callG (ok_law_pen T) (st.room.mono (by decide)) st.gd (by exact rfl) T.m_law_pen T.k_law_pen T.b_law_pen .nil pass0 (pa_cons (pv 0) pa_nil)))) h, by exact (dss_cons (by exact (ds_for (by exact (di_rng1 T.z_range (by exact (da_cons de_int da_nil)))) (by exact (dg_name (pg_name (i := 2) S.nd rfl (by first | exact Or.inl rfl | exact Or.inr rfl))))
    (by exact (dss_one (by exact (ds_if (by exact (dt_not (by exact (dt_val (by exact (de_fn (ok_law_one_right T) st T.m_law_one_right T.k_law_one_right T.b_law_one_right (by exact (da_cons (by exact (dev 1 (pv 1))) da_nil))))))))
    (by exact (dss_one (by exact (ds_ret de_bl))))
    dss_nil)))) (fun a b c => ps_for PassesOwn.never rfl a b c)))
    (by exact (dss_cons (by exact (ds_set 3 (by exact (de_lst (by exact (da_cons (by exact (de_tup (by exact (da_cons de_int da_nil)))) (by exact (da_cons (by exact (de_tup (by exact (da_cons de_int da_nil)))) (by exact (da_cons (by exact (de_tup (by exact (da_cons de_int da_nil)))) (by exact (da_cons (by exact (de_tup (by exact (da_cons de_int da_nil)))) (by exact (da_cons (by exact (de_tup (by exact (da_cons de_int da_nil)))) (by exact (da_cons (by exact (de_tup (by exact (da_cons de_int da_nil)))) (by exact (da_cons (by exact (de_tup (by exact (da_cons de_int da_nil)))) da_nil)))))))))))))))) (fun h => ps_set (i := 3) S.nd rfl (by first | exact Or.inl rfl | exact Or.inr rfl) h)))
    (by exact (dss_cons (by exact (ds_if (by exact (dt_cmp (op_neD st.u64) d_ne (by exact (DE.b (by exact (de_lst (by exact (da_cons (by exact (de_fn (ok_bursts_of T) st T.m_bursts_of T.k_bursts_of T.b_bursts_of (by exact (da_cons (by exact (dev 3 (pv 3))) (by exact (da_cons de_int (by exact (da_cons de_int da_nil)))))))) (by exact (da_cons (by exact (de_fn (ok_bursts_of T) st T.m_bursts_of T.k_bursts_of T.b_bursts_of (by exact (da_cons (by exact (dev 3 (pv 3))) (by exact (da_cons de_int (by exact (da_cons de_int da_nil)))))))) (by exact (da_cons (by exact (de_fn (ok_bursts_of T) st T.m_bursts_of T.k_bursts_of T.b_bursts_of (by exact (da_cons (by exact (dev 3 (pv 3))) (by exact (da_cons de_int (by exact (da_cons de_int da_nil)))))))) da_nil)))))))))) (by exact (DE.b (by exact (de_lst (by exact (da_cons (by exact (de_tup (by exact (da_cons (by exact (de_tup (by exact (da_cons de_int (by exact (da_cons de_int da_nil)))))) (by exact (da_cons (by exact (de_tup (by exact (da_cons de_int (by exact (da_cons de_int da_nil)))))) da_nil)))))) (by exact (da_cons de_non (by exact (da_cons (by exact (de_tup (by exact (da_cons (by exact (de_tup (by exact (da_cons de_int (by exact (da_cons de_int da_nil)))))) (by exact (da_cons (by exact (de_tup (by exact (da_cons de_int (by exact (da_cons de_int da_nil)))))) (by exact (da_cons (by exact (de_tup (by exact (da_cons de_int (by exact (da_cons de_int da_nil)))))) da_nil)))))))) da_nil)))))))))) (nomark _)))
    (by exact (dss_one (by exact (ds_ret de_bl))))
    dss_nil))
    (by exact (dss_one (by exact (ds_ret (by exact (de_and (by exact (de_cmp (op_eqD st.u64) d_eq (by exact (DE.b (by exact (de_fn (ok_phases T) st T.m_phases T.k_phases T.b_phases (by exact (da_cons de_int (by exact (da_cons de_int da_nil)))))))) (by exact (DE.b (by exact (de_tup (by exact (da_cons (by exact (de_tup (by exact (da_cons de_int (by exact (da_cons de_int da_nil)))))) (by exact (da_cons (by exact (de_tup (by exact (da_cons de_int (by exact (da_cons de_int da_nil)))))) (by exact (da_cons (by exact (de_tup (by exact (da_cons de_int (by exact (da_cons de_int da_nil)))))) (by exact (da_cons (by exact (de_tup (by exact (da_cons de_int (by exact (da_cons de_int da_nil)))))) da_nil)))))))))))) (nomark _))) (by exact (de_and (by exact (de_cmp (op_eqD st.u64) d_eq (by exact (DE.b (by exact (de_fn (ok_phases T) st T.m_phases T.k_phases T.b_phases (by exact (da_cons de_int (by exact (da_cons de_int da_nil)))))))) (by exact (DE.b (by exact (de_tup (by exact (da_cons (by exact (de_tup (by exact (da_cons de_int (by exact (da_cons de_int da_nil)))))) da_nil)))))) (nomark _))) (by exact (de_one (by exact (de_cmp (op_eqD st.u64) d_eq (by exact (DE.b (by exact (de_fn (ok_bursts_of T) st T.m_bursts_of T.k_bursts_of T.b_bursts_of (by exact (da_cons (by exact (de_lst da_nil)) (by exact (da_cons de_int (by exact (da_cons de_int da_nil)))))))))) (by exact (DE.b (by exact (de_tup da_nil)))) (nomark _)))))))))))))))))), m_law⟩
end
theorem all_mk {P : Program} {w : World} {K : PySem.W.Frag} {h : Heap} {mg : Str → Option Value} {fa : Addr} (X : K.In h) (G : h.Ns mainGlobals mg) (hfa : mg "law" = some (.ref fa))
    {od1 an1 : Option Addr} {sl1 : Array (Option Value)} {oc1 kV1 dc1 pm1 cd1 ct1 : Value} {f1 : Addr}
    (a1 : PySem.W.nsIn K mainGlobals "is_bit" = some (some (.ref f1))) (l1 : K.lookup f1 = some ⟨oc1, od1, .func (PySem.W.fnOf "is_bit" "is_bit" (defArgs s_is_bit) (defBody s_is_bit) (defScope s_is_bit) .none kV1 dc1 pm1 an1 cd1 ct1), sl1⟩) (c1 : PySem.W.codeIn K cd1 "is_bit" = true) (k1 : PySem.W.keepIn K (.ref f1) = true)
    {od2 an2 : Option Addr} {sl2 : Array (Option Value)} {oc2 kV2 dc2 pm2 cd2 ct2 : Value} {f2 : Addr}
    (a2 : PySem.W.nsIn K mainGlobals "is_bits" = some (some (.ref f2))) (l2 : K.lookup f2 = some ⟨oc2, od2, .func (PySem.W.fnOf "is_bits" "is_bits" (defArgs s_is_bits) (defBody s_is_bits) (defScope s_is_bits) .none kV2 dc2 pm2 an2 cd2 ct2), sl2⟩) (c2 : PySem.W.codeIn K cd2 "is_bits" = true) (k2 : PySem.W.keepIn K (.ref f2) = true)
    {od3 an3 : Option Addr} {sl3 : Array (Option Value)} {oc3 kV3 dc3 pm3 cd3 ct3 : Value} {f3 : Addr}
    (a3 : PySem.W.nsIn K mainGlobals "is_between" = some (some (.ref f3))) (l3 : K.lookup f3 = some ⟨oc3, od3, .func (PySem.W.fnOf "is_between" "is_between" (defArgs s_is_between) (defBody s_is_between) (defScope s_is_between) .none kV3 dc3 pm3 an3 cd3 ct3), sl3⟩) (c3 : PySem.W.codeIn K cd3 "is_between" = true) (k3 : PySem.W.keepIn K (.ref f3) = true)
    {od4 an4 : Option Addr} {sl4 : Array (Option Value)} {oc4 kV4 dc4 pm4 cd4 ct4 : Value} {f4 : Addr}
    (a4 : PySem.W.nsIn K mainGlobals "need_bursts" = some (some (.ref f4))) (l4 : K.lookup f4 = some ⟨oc4, od4, .func (PySem.W.fnOf "need_bursts" "need_bursts" (defArgs s_need_bursts) (defBody s_need_bursts) (defScope s_need_bursts) .none kV4 dc4 pm4 an4 cd4 ct4), sl4⟩) (c4 : PySem.W.codeIn K cd4 "need_bursts" = true) (k4 : PySem.W.keepIn K (.ref f4) = true)
    {od5 an5 : Option Addr} {sl5 : Array (Option Value)} {oc5 kV5 dc5 pm5 cd5 ct5 : Value} {f5 : Addr}
    (a5 : PySem.W.nsIn K mainGlobals "phases" = some (some (.ref f5))) (l5 : K.lookup f5 = some ⟨oc5, od5, .func (PySem.W.fnOf "phases" "phases" (defArgs s_phases) (defBody s_phases) (defScope s_phases) .none kV5 dc5 pm5 an5 cd5 ct5), sl5⟩) (c5 : PySem.W.codeIn K cd5 "phases" = true) (k5 : PySem.W.keepIn K (.ref f5) = true)
    {od6 an6 : Option Addr} {sl6 : Array (Option Value)} {oc6 kV6 dc6 pm6 cd6 ct6 : Value} {f6 : Addr}
    (a6 : PySem.W.nsIn K mainGlobals "need_steps" = some (some (.ref f6))) (l6 : K.lookup f6 = some ⟨oc6, od6, .func (PySem.W.fnOf "need_steps" "need_steps" (defArgs s_need_steps) (defBody s_need_steps) (defScope s_need_steps) .none kV6 dc6 pm6 an6 cd6 ct6), sl6⟩) (c6 : PySem.W.codeIn K cd6 "need_steps" = true) (k6 : PySem.W.keepIn K (.ref f6) = true)
    {od7 an7 : Option Addr} {sl7 : Array (Option Value)} {oc7 kV7 dc7 pm7 cd7 ct7 : Value} {f7 : Addr}
    (a7 : PySem.W.nsIn K mainGlobals "wrong_steps" = some (some (.ref f7))) (l7 : K.lookup f7 = some ⟨oc7, od7, .func (PySem.W.fnOf "wrong_steps" "wrong_steps" (defArgs s_wrong_steps) (defBody s_wrong_steps) (defScope s_wrong_steps) .none kV7 dc7 pm7 an7 cd7 ct7), sl7⟩) (c7 : PySem.W.codeIn K cd7 "wrong_steps" = true) (k7 : PySem.W.keepIn K (.ref f7) = true)
    {od8 an8 : Option Addr} {sl8 : Array (Option Value)} {oc8 kV8 dc8 pm8 cd8 ct8 : Value} {f8 : Addr}
    (a8 : PySem.W.nsIn K mainGlobals "bursts_of" = some (some (.ref f8))) (l8 : K.lookup f8 = some ⟨oc8, od8, .func (PySem.W.fnOf "bursts_of" "bursts_of" (defArgs s_bursts_of) (defBody s_bursts_of) (defScope s_bursts_of) .none kV8 dc8 pm8 an8 cd8 ct8), sl8⟩) (c8 : PySem.W.codeIn K cd8 "bursts_of" = true) (k8 : PySem.W.keepIn K (.ref f8) = true)
    {od9 an9 : Option Addr} {sl9 : Array (Option Value)} {oc9 kV9 dc9 pm9 cd9 ct9 : Value} {f9 : Addr}
    (a9 : PySem.W.nsIn K mainGlobals "_law_pen" = some (some (.ref f9))) (l9 : K.lookup f9 = some ⟨oc9, od9, .func (PySem.W.fnOf "_law_pen" "_law_pen" (defArgs s_law_pen) (defBody s_law_pen) (defScope s_law_pen) .none kV9 dc9 pm9 an9 cd9 ct9), sl9⟩) (c9 : PySem.W.codeIn K cd9 "_law_pen" = true) (k9 : PySem.W.keepIn K (.ref f9) = true)
    {od10 an10 : Option Addr} {sl10 : Array (Option Value)} {oc10 kV10 dc10 pm10 cd10 ct10 : Value} {f10 : Addr}
    (a10 : PySem.W.nsIn K mainGlobals "_law_draw" = some (some (.ref f10))) (l10 : K.lookup f10 = some ⟨oc10, od10, .func (PySem.W.fnOf "_law_draw" "_law_draw" (defArgs s_law_draw) (defBody s_law_draw) (defScope s_law_draw) .none kV10 dc10 pm10 an10 cd10 ct10), sl10⟩) (c10 : PySem.W.codeIn K cd10 "_law_draw" = true) (k10 : PySem.W.keepIn K (.ref f10) = true)
    {od11 an11 : Option Addr} {sl11 : Array (Option Value)} {oc11 kV11 dc11 pm11 cd11 ct11 : Value} {f11 : Addr}
    (a11 : PySem.W.nsIn K mainGlobals "_law_pick" = some (some (.ref f11))) (l11 : K.lookup f11 = some ⟨oc11, od11, .func (PySem.W.fnOf "_law_pick" "_law_pick" (defArgs s_law_pick) (defBody s_law_pick) (defScope s_law_pick) .none kV11 dc11 pm11 an11 cd11 ct11), sl11⟩) (c11 : PySem.W.codeIn K cd11 "_law_pick" = true) (k11 : PySem.W.keepIn K (.ref f11) = true)
    {od12 an12 : Option Addr} {sl12 : Array (Option Value)} {oc12 kV12 dc12 pm12 cd12 ct12 : Value} {f12 : Addr}
    (a12 : PySem.W.nsIn K mainGlobals "_law_all" = some (some (.ref f12))) (l12 : K.lookup f12 = some ⟨oc12, od12, .func (PySem.W.fnOf "_law_all" "_law_all" (defArgs s_law_all) (defBody s_law_all) (defScope s_law_all) .none kV12 dc12 pm12 an12 cd12 ct12), sl12⟩) (c12 : PySem.W.codeIn K cd12 "_law_all" = true) (k12 : PySem.W.keepIn K (.ref f12) = true)
    {od13 an13 : Option Addr} {sl13 : Array (Option Value)} {oc13 kV13 dc13 pm13 cd13 ct13 : Value} {f13 : Addr}
    (a13 : PySem.W.nsIn K mainGlobals "_law_parted" = some (some (.ref f13))) (l13 : K.lookup f13 = some ⟨oc13, od13, .func (PySem.W.fnOf "_law_parted" "_law_parted" (defArgs s_law_parted) (defBody s_law_parted) (defScope s_law_parted) .none kV13 dc13 pm13 an13 cd13 ct13), sl13⟩) (c13 : PySem.W.codeIn K cd13 "_law_parted" = true) (k13 : PySem.W.keepIn K (.ref f13) = true)
    {od14 an14 : Option Addr} {sl14 : Array (Option Value)} {oc14 kV14 dc14 pm14 cd14 ct14 : Value} {f14 : Addr}
    (a14 : PySem.W.nsIn K mainGlobals "_law_is_mild" = some (some (.ref f14))) (l14 : K.lookup f14 = some ⟨oc14, od14, .func (PySem.W.fnOf "_law_is_mild" "_law_is_mild" (defArgs s_law_is_mild) (defBody s_law_is_mild) (defScope s_law_is_mild) .none kV14 dc14 pm14 an14 cd14 ct14), sl14⟩) (c14 : PySem.W.codeIn K cd14 "_law_is_mild" = true) (k14 : PySem.W.keepIn K (.ref f14) = true)
    {od15 an15 : Option Addr} {sl15 : Array (Option Value)} {oc15 kV15 dc15 pm15 cd15 ct15 : Value} {f15 : Addr}
    (a15 : PySem.W.nsIn K mainGlobals "_law_after" = some (some (.ref f15))) (l15 : K.lookup f15 = some ⟨oc15, od15, .func (PySem.W.fnOf "_law_after" "_law_after" (defArgs s_law_after) (defBody s_law_after) (defScope s_law_after) .none kV15 dc15 pm15 an15 cd15 ct15), sl15⟩) (c15 : PySem.W.codeIn K cd15 "_law_after" = true) (k15 : PySem.W.keepIn K (.ref f15) = true)
    {od16 an16 : Option Addr} {sl16 : Array (Option Value)} {oc16 kV16 dc16 pm16 cd16 ct16 : Value} {f16 : Addr}
    (a16 : PySem.W.nsIn K mainGlobals "_law_phases" = some (some (.ref f16))) (l16 : K.lookup f16 = some ⟨oc16, od16, .func (PySem.W.fnOf "_law_phases" "_law_phases" (defArgs s_law_phases) (defBody s_law_phases) (defScope s_law_phases) .none kV16 dc16 pm16 an16 cd16 ct16), sl16⟩) (c16 : PySem.W.codeIn K cd16 "_law_phases" = true) (k16 : PySem.W.keepIn K (.ref f16) = true)
    {od17 an17 : Option Addr} {sl17 : Array (Option Value)} {oc17 kV17 dc17 pm17 cd17 ct17 : Value} {f17 : Addr}
    (a17 : PySem.W.nsIn K mainGlobals "_law_can_part" = some (some (.ref f17))) (l17 : K.lookup f17 = some ⟨oc17, od17, .func (PySem.W.fnOf "_law_can_part" "_law_can_part" (defArgs s_law_can_part) (defBody s_law_can_part) (defScope s_law_can_part) .none kV17 dc17 pm17 an17 cd17 ct17), sl17⟩) (c17 : PySem.W.codeIn K cd17 "_law_can_part" = true) (k17 : PySem.W.keepIn K (.ref f17) = true)
    {od18 an18 : Option Addr} {sl18 : Array (Option Value)} {oc18 kV18 dc18 pm18 cd18 ct18 : Value} {f18 : Addr}
    (a18 : PySem.W.nsIn K mainGlobals "_law_steps" = some (some (.ref f18))) (l18 : K.lookup f18 = some ⟨oc18, od18, .func (PySem.W.fnOf "_law_steps" "_law_steps" (defArgs s_law_steps) (defBody s_law_steps) (defScope s_law_steps) .none kV18 dc18 pm18 an18 cd18 ct18), sl18⟩) (c18 : PySem.W.codeIn K cd18 "_law_steps" = true) (k18 : PySem.W.keepIn K (.ref f18) = true)
    {od19 an19 : Option Addr} {sl19 : Array (Option Value)} {oc19 kV19 dc19 pm19 cd19 ct19 : Value} {f19 : Addr}
    (a19 : PySem.W.nsIn K mainGlobals "_law_one_right" = some (some (.ref f19))) (l19 : K.lookup f19 = some ⟨oc19, od19, .func (PySem.W.fnOf "_law_one_right" "_law_one_right" (defArgs s_law_one_right) (defBody s_law_one_right) (defScope s_law_one_right) .none kV19 dc19 pm19 an19 cd19 ct19), sl19⟩) (c19 : PySem.W.codeIn K cd19 "_law_one_right" = true) (k19 : PySem.W.keepIn K (.ref f19) = true)
    {od20 an20 : Option Addr} {sl20 : Array (Option Value)} {oc20 kV20 dc20 pm20 cd20 ct20 : Value} {f20 : Addr}
    (a20 : PySem.W.nsIn K mainGlobals "law" = some (some (.ref f20))) (l20 : K.lookup f20 = some ⟨oc20, od20, .func (PySem.W.fnOf "law" "law" (defArgs s_law) (defBody s_law) (defScope s_law) .none kV20 dc20 pm20 an20 cd20 ct20), sl20⟩) (c20 : PySem.W.codeIn K cd20 "law" = true) (k20 : PySem.W.keepIn K (.ref f20) = true)
    (z_abs : PySem.W.nsIn K mainGlobals "abs" = some none)
    (z_all : PySem.W.nsIn K mainGlobals "all" = some none)
    (z_any : PySem.W.nsIn K mainGlobals "any" = some none)
    (z_bool : PySem.W.nsIn K mainGlobals "bool" = some none)
    (z_enumerate : PySem.W.nsIn K mainGlobals "enumerate" = some none)
    (z_int : PySem.W.nsIn K mainGlobals "int" = some none)
    (z_isinstance : PySem.W.nsIn K mainGlobals "isinstance" = some none)
    (z_len : PySem.W.nsIn K mainGlobals "len" = some none)
    (z_list : PySem.W.nsIn K mainGlobals "list" = some none)
    (z_range : PySem.W.nsIn K mainGlobals "range" = some none)
    (z_repr : PySem.W.nsIn K mainGlobals "repr" = some none)
    (z_tuple : PySem.W.nsIn K mainGlobals "tuple" = some none)
    {t_FREE : Addr} {dd_FREE : Option Addr} {nn_FREE : Nat} {ss_FREE : Array (Option Value)} {u0_FREE u1_FREE : Tok} (g_FREE : PySem.W.nsIn K mainGlobals "FREE" = some (some (.ref t_FREE))) (q_FREE : K.lookup t_FREE = some ⟨.type "tuple", dd_FREE, .seq #[.int 0 u0_FREE, .int 0 u1_FREE] nn_FREE, ss_FREE⟩)
    {t_MOST_BURST : Tok} (g_MOST_BURST : PySem.W.nsIn K mainGlobals "MOST_BURST" = some (some (.int 8 t_MOST_BURST)))
    {t_MOST_GUARD : Tok} (g_MOST_GUARD : PySem.W.nsIn K mainGlobals "MOST_GUARD" = some (some (.int 24 t_MOST_GUARD))) :
    ∃ fd : FuncData, (∀ (s : Shared) (v : Value), BindsTo s fd ⟨[v], []⟩ [("script", v)]) ∧ ∀ base : Heap, K.In base → base.Ns mainGlobals mg → FnG P w K mg base CX0 14 fa fd ["script"] (spLaw K) := by
  have e := hfa.symm.trans (PySem.W.mg_of X G a20)
  cases e
  have F1 := fun_mk (st := s_is_bit) l1 c1 k1
  have b1 := F1.binds (ps := ["value"]) fun _ _ _ _ _ _ us hl => match us, hl with | [_], _ => rfl
  have F2 := fun_mk (st := s_is_bits) l2 c2 k2
  have b2 := F2.binds (ps := ["value", "many"]) fun _ _ _ _ _ _ us hl => match us, hl with | [_, _], _ => rfl
  have F3 := fun_mk (st := s_is_between) l3 c3 k3
  have b3 := F3.binds (ps := ["value", "low", "high"]) fun _ _ _ _ _ _ us hl => match us, hl with | [_, _, _], _ => rfl
  have F4 := fun_mk (st := s_need_bursts) l4 c4 k4
  have b4 := F4.binds (ps := ["burst", "guard"]) fun _ _ _ _ _ _ us hl => match us, hl with | [_, _], _ => rfl
  have F5 := fun_mk (st := s_phases) l5 c5 k5
  have b5 := F5.binds (ps := ["burst", "guard"]) fun _ _ _ _ _ _ us hl => match us, hl with | [_, _], _ => rfl
  have F6 := fun_mk (st := s_need_steps) l6 c6 k6
  have b6 := F6.binds (ps := ["rows"]) fun _ _ _ _ _ _ us hl => match us, hl with | [_], _ => rfl
  have F7 := fun_mk (st := s_wrong_steps) l7 c7 k7
  have b7 := F7.binds (ps := ["rows"]) fun _ _ _ _ _ _ us hl => match us, hl with | [_], _ => rfl
  have F8 := fun_mk (st := s_bursts_of) l8 c8 k8
  have b8 := F8.binds (ps := ["rows", "burst", "guard"]) fun _ _ _ _ _ _ us hl => match us, hl with | [_, _, _], _ => rfl
  have F9 := fun_mk (st := s_law_pen) l9 c9 k9
  have b9 := F9.binds (ps := ["script"]) fun _ _ _ _ _ _ us hl => match us, hl with | [_], _ => rfl
  have F10 := fun_mk (st := s_law_draw) l10 c10 k10
  have b10 := F10.binds (ps := ["pen", "many"]) fun _ _ _ _ _ _ us hl => match us, hl with | [_, _], _ => rfl
  have F11 := fun_mk (st := s_law_pick) l11 c11 k11
  have b11 := F11.binds (ps := ["pen", "some"]) fun _ _ _ _ _ _ us hl => match us, hl with | [_, _], _ => rfl
  have F12 := fun_mk (st := s_law_all) l12 c12 k12
  have b12 := F12.binds (ps := ["many"]) fun _ _ _ _ _ _ us hl => match us, hl with | [_], _ => rfl
  have F13 := fun_mk (st := s_law_parted) l13 c13 k13
  have b13 := F13.binds (ps := ["rows", "guard"]) fun _ _ _ _ _ _ us hl => match us, hl with | [_, _], _ => rfl
  have F14 := fun_mk (st := s_law_is_mild) l14 c14 k14
  have b14 := F14.binds (ps := ["rows", "burst", "guard"]) fun _ _ _ _ _ _ us hl => match us, hl with | [_, _, _], _ => rfl
  have F15 := fun_mk (st := s_law_after) l15 c15 k15
  have b15 := F15.binds (ps := ["phase", "is_wrong", "burst", "guard"]) fun _ _ _ _ _ _ us hl => match us, hl with | [_, _, _, _], _ => rfl
  have F16 := fun_mk (st := s_law_phases) l16 c16 k16
  have b16 := F16.binds (ps := ["burst", "guard"]) fun _ _ _ _ _ _ us hl => match us, hl with | [_, _], _ => rfl
  have F17 := fun_mk (st := s_law_can_part) l17 c17 k17
  have b17 := F17.binds (ps := ["wrong", "burst", "guard"]) fun _ _ _ _ _ _ us hl => match us, hl with | [_, _, _], _ => rfl
  have F18 := fun_mk (st := s_law_steps) l18 c18 k18
  have b18 := F18.binds (ps := ["pen", "many"]) fun _ _ _ _ _ _ us hl => match us, hl with | [_, _], _ => rfl
  have F19 := fun_mk (st := s_law_one_right) l19 c19 k19
  have b19 := F19.binds (ps := ["pen"]) fun _ _ _ _ _ _ us hl => match us, hl with | [_], _ => rfl
  have F20 := fun_mk (st := s_law) l20 c20 k20
  have b20 := F20.binds (ps := ["script"]) fun _ _ _ _ _ _ us hl => match us, hl with | [_], _ => rfl
  have kw0 : KwB K _ ["rows", "burst", "guard"] 0 ["guard", "burst", "rows"] [2, 1, 0] := kwb_mk F8 fun _ _ _ _ _ _ us ws h1 h2 => match us, ws, h1, h2 with | [], [_, _, _], _, _ => rfl
  have kw1 : KwB K _ ["burst", "guard"] 0 ["guard", "burst"] [1, 0] := kwb_mk F5 fun _ _ _ _ _ _ us ws h1 h2 => match us, ws, h1, h2 with | [], [_, _], _, _ => rfl
  have T : Txt K mg ⟨f1, PySem.W.fnOf "is_bit" "is_bit" (defArgs s_is_bit) (defBody s_is_bit) (defScope s_is_bit) .none kV1 dc1 pm1 an1 cd1 ct1, f2, PySem.W.fnOf "is_bits" "is_bits" (defArgs s_is_bits) (defBody s_is_bits) (defScope s_is_bits) .none kV2 dc2 pm2 an2 cd2 ct2, f3, PySem.W.fnOf "is_between" "is_between" (defArgs s_is_between) (defBody s_is_between) (defScope s_is_between) .none kV3 dc3 pm3 an3 cd3 ct3, f4, PySem.W.fnOf "need_bursts" "need_bursts" (defArgs s_need_bursts) (defBody s_need_bursts) (defScope s_need_bursts) .none kV4 dc4 pm4 an4 cd4 ct4, f5, PySem.W.fnOf "phases" "phases" (defArgs s_phases) (defBody s_phases) (defScope s_phases) .none kV5 dc5 pm5 an5 cd5 ct5, f6, PySem.W.fnOf "need_steps" "need_steps" (defArgs s_need_steps) (defBody s_need_steps) (defScope s_need_steps) .none kV6 dc6 pm6 an6 cd6 ct6, f7, PySem.W.fnOf "wrong_steps" "wrong_steps" (defArgs s_wrong_steps) (defBody s_wrong_steps) (defScope s_wrong_steps) .none kV7 dc7 pm7 an7 cd7 ct7, f8, PySem.W.fnOf "bursts_of" "bursts_of" (defArgs s_bursts_of) (defBody s_bursts_of) (defScope s_bursts_of) .none kV8 dc8 pm8 an8 cd8 ct8, f9, PySem.W.fnOf "_law_pen" "_law_pen" (defArgs s_law_pen) (defBody s_law_pen) (defScope s_law_pen) .none kV9 dc9 pm9 an9 cd9 ct9, f10, PySem.W.fnOf "_law_draw" "_law_draw" (defArgs s_law_draw) (defBody s_law_draw) (defScope s_law_draw) .none kV10 dc10 pm10 an10 cd10 ct10, f11, PySem.W.fnOf "_law_pick" "_law_pick" (defArgs s_law_pick) (defBody s_law_pick) (defScope s_law_pick) .none kV11 dc11 pm11 an11 cd11 ct11, f12, PySem.W.fnOf "_law_all" "_law_all" (defArgs s_law_all) (defBody s_law_all) (defScope s_law_all) .none kV12 dc12 pm12 an12 cd12 ct12, f13, PySem.W.fnOf "_law_parted" "_law_parted" (defArgs s_law_parted) (defBody s_law_parted) (defScope s_law_parted) .none kV13 dc13 pm13 an13 cd13 ct13, f14, PySem.W.fnOf "_law_is_mild" "_law_is_mild" (defArgs s_law_is_mild) (defBody s_law_is_mild) (defScope s_law_is_mild) .none kV14 dc14 pm14 an14 cd14 ct14, f15, PySem.W.fnOf "_law_after" "_law_after" (defArgs s_law_after) (defBody s_law_after) (defScope s_law_after) .none kV15 dc15 pm15 an15 cd15 ct15, f16, PySem.W.fnOf "_law_phases" "_law_phases" (defArgs s_law_phases) (defBody s_law_phases) (defScope s_law_phases) .none kV16 dc16 pm16 an16 cd16 ct16, f17, PySem.W.fnOf "_law_can_part" "_law_can_part" (defArgs s_law_can_part) (defBody s_law_can_part) (defScope s_law_can_part) .none kV17 dc17 pm17 an17 cd17 ct17, f18, PySem.W.fnOf "_law_steps" "_law_steps" (defArgs s_law_steps) (defBody s_law_steps) (defScope s_law_steps) .none kV18 dc18 pm18 an18 cd18 ct18, f19, PySem.W.fnOf "_law_one_right" "_law_one_right" (defArgs s_law_one_right) (defBody s_law_one_right) (defScope s_law_one_right) .none kV19 dc19 pm19 an19 cd19 ct19, fa, PySem.W.fnOf "law" "law" (defArgs s_law) (defBody s_law) (defScope s_law) .none kV20 dc20 pm20 an20 cd20 ct20, t_FREE, t_MOST_BURST, t_MOST_GUARD⟩ := ⟨PySem.W.mg_none_of X G z_abs, PySem.W.mg_none_of X G z_all, PySem.W.mg_none_of X G z_any, PySem.W.mg_none_of X G z_bool, PySem.W.mg_none_of X G z_enumerate, PySem.W.mg_none_of X G z_int, PySem.W.mg_none_of X G z_isinstance, PySem.W.mg_none_of X G z_len, PySem.W.mg_none_of X G z_list, PySem.W.mg_none_of X G z_range, PySem.W.mg_none_of X G z_repr, PySem.W.mg_none_of X G z_tuple, PySem.W.mg_of X G a1, k1, F1, b1, PySem.W.mg_of X G a2, k2, F2, b2, PySem.W.mg_of X G a3, k3, F3, b3, PySem.W.mg_of X G a4, k4, F4, b4, PySem.W.mg_of X G a5, k5, F5, b5, PySem.W.mg_of X G a6, k6, F6, b6, PySem.W.mg_of X G a7, k7, F7, b7, PySem.W.mg_of X G a8, k8, F8, b8, PySem.W.mg_of X G a9, k9, F9, b9, PySem.W.mg_of X G a10, k10, F10, b10, PySem.W.mg_of X G a11, k11, F11, b11, PySem.W.mg_of X G a12, k12, F12, b12, PySem.W.mg_of X G a13, k13, F13, b13, PySem.W.mg_of X G a14, k14, F14, b14, PySem.W.mg_of X G a15, k15, F15, b15, PySem.W.mg_of X G a16, k16, F16, b16, PySem.W.mg_of X G a17, k17, F17, b17, PySem.W.mg_of X G a18, k18, F18, b18, PySem.W.mg_of X G a19, k19, F19, b19, PySem.W.mg_of X G a20, k20, F20, b20, kw0, kw1, PySem.W.mg_of X G g_FREE, (fun pa F => .tup (.inr ⟨_, _, _, q_FREE, rfl, rfl, by show 2 ≤ sizeLine; decide, (show Vals [V.int 0, V.int 0] _ from (.cons ⟨_, rfl⟩ (.cons ⟨_, rfl⟩ .nil)))⟩) (.cons (.int _) (.cons (.int _) .nil))), PySem.W.mg_of X G g_MOST_BURST, PySem.W.mg_of X G g_MOST_GUARD⟩
  exact ⟨PySem.W.fnOf "law" "law" (defArgs s_law) (defBody s_law) (defScope s_law) .none kV20 dc20 pm20 an20 cd20 ct20, fun s v => .of_eq rfl, fun base _ _ => ok_law T⟩
end L78
open PySem PySem.W PyProof.Rows
set_option maxHeartbeats 0 in
theorem PySem.Challenge.cw_spreadchecks_k78_phases_and_bursts_of_ro_holds : PySem.Challenge.rw_spreadchecks_k78_phases_and_bursts_of_ro.Holds := by
  w_on; o_law; k_head; (case hw => w_witness2)
  k_fill
  refine DL.walk_ofG (l := PySem.Challenge.rw_spreadchecks_k78_phases_and_bursts_of_ro) (k := 14) rfl rfl ⟨rfl, by decide, by decide⟩ (fun w h Y => PySem.W.kIn_of Y) ?F
  case F =>
    intro w mg fa h KX G hmg
    refine' L78.all_mk KX G hmg ?a1 ?l1 ?c1 ?k1 ?a2 ?l2 ?c2 ?k2 ?a3 ?l3 ?c3 ?k3 ?a4 ?l4 ?c4 ?k4 ?a5 ?l5 ?c5 ?k5 ?a6 ?l6 ?c6 ?k6 ?a7 ?l7 ?c7 ?k7 ?a8 ?l8 ?c8 ?k8 ?a9 ?l9 ?c9 ?k9 ?a10 ?l10 ?c10 ?k10 ?a11 ?l11 ?c11 ?k11 ?a12 ?l12 ?c12 ?k12 ?a13 ?l13 ?c13 ?k13 ?a14 ?l14 ?c14 ?k14 ?a15 ?l15 ?c15 ?k15 ?a16 ?l16 ?c16 ?k16 ?a17 ?l17 ?c17 ?k17 ?a18 ?l18 ?c18 ?k18 ?a19 ?l19 ?c19 ?k19 ?a20 ?l20 ?c20 ?k20 ?z_abs ?z_all ?z_any ?z_bool ?z_enumerate ?z_int ?z_isinstance ?z_len ?z_list ?z_range ?z_repr ?z_tuple ?g_FREE ?q_FREE ?g_MOST_BURST ?g_MOST_GUARD
    (case a1 => k_is); (case l1 => k_is); (case c1 => k_is); (case k1 => k_is); (case a2 => k_is); (case l2 => k_is); (case c2 => k_is); (case k2 => k_is); (case a3 => k_is); (case l3 => k_is); (case c3 => k_is); (case k3 => k_is); (case a4 => k_is); (case l4 => k_is); (case c4 => k_is); (case k4 => k_is); (case a5 => k_is); (case l5 => k_is); (case c5 => k_is); (case k5 => k_is); (case a6 => k_is); (case l6 => k_is); (case c6 => k_is); (case k6 => k_is); (case a7 => k_is); (case l7 => k_is); (case c7 => k_is); (case k7 => k_is); (case a8 => k_is); (case l8 => k_is); (case c8 => k_is); (case k8 => k_is); (case a9 => k_is); (case l9 => k_is); (case c9 => k_is); (case k9 => k_is); (case a10 => k_is); (case l10 => k_is); (case c10 => k_is); (case k10 => k_is); (case a11 => k_is); (case l11 => k_is); (case c11 => k_is); (case k11 => k_is); (case a12 => k_is); (case l12 => k_is); (case c12 => k_is); (case k12 => k_is); (case a13 => k_is); (case l13 => k_is); (case c13 => k_is); (case k13 => k_is); (case a14 => k_is); (case l14 => k_is); (case c14 => k_is); (case k14 => k_is); (case a15 => k_is); (case l15 => k_is); (case c15 => k_is); (case k15 => k_is); (case a16 => k_is); (case l16 => k_is); (case c16 => k_is); (case k16 => k_is); (case a17 => k_is); (case l17 => k_is); (case c17 => k_is); (case k17 => k_is); (case a18 => k_is); (case l18 => k_is); (case c18 => k_is); (case k18 => k_is); (case a19 => k_is); (case l19 => k_is); (case c19 => k_is); (case k19 => k_is); (case a20 => k_is); (case l20 => k_is); (case c20 => k_is); (case k20 => k_is); (case z_abs => k_is); (case z_all => k_is); (case z_any => k_is); (case z_bool => k_is); (case z_enumerate => k_is); (case z_int => k_is); (case z_isinstance => k_is); (case z_len => k_is); (case z_list => k_is); (case z_range => k_is); (case z_repr => k_is); (case z_tuple => k_is); (case g_FREE => k_is); (case q_FREE => k_is); (case g_MOST_BURST => k_is); (case g_MOST_GUARD => k_is)
